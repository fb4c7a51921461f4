import PyProof.Rows.All
import Wide.All
import OpenK.AllK
import Wide.FinOn
import HandS.ForMost
import HandS.Evl
import HandS.Flow
import HandS.Zip
import HandS.IsInst
import HandS.Exc
import HandS.TryMany
import HandS.TryOnly
import HandS.ExcOwn
import HandS.Style
import HandS.WordsExc
import HandS.TupAny
import HandS.More
import HandS.Deep
import HandS.Steps
import KE.SortData
import PySem.Challenge.RW_pageseen_k62_orders_of_painting
set_option Elab.async false
set_option linter.all false
set_option maxRecDepth 100000
set_option maxHeartbeats 4000000
/-! Pv: values as plain data (D), lists that change as owned cells (Own), a calculus of both over the hand layer's readings. -/
namespace Pv
open PySem L2 Evl

inductive D where
  | non | bl (b : Bool) | int (i : Int) | str (s : Str) | tup (ds : List D) | lst (ds : List D) | fls (ds : List D) | dic | raw (v : V)

mutual
/-- the value v is the datum d, by the frozen heap G -/
inductive Rp (K : PySem.W.Frag) (G : Hp) : V → D → Prop
  | non : Rp K G .non .non
  | bl (b : Bool) : Rp K G (.bl b) (.bl b)
  | int (i : Int) : Rp K G (.int i) (.int i)
  | str (x : Str) : Rp K G (.str x) (.str x)
  | tup {a : Addr} {xs : List V} {ds : List D} : SqT K G a xs → RpL K G xs ds → Rp K G (.ref a) (.tup ds)
  | lst {a : Addr} {xs : List V} {ds : List D} : G a = some (.lst xs) → RpL K G xs ds → Rp K G (.ref a) (.lst ds)
  | fls {a : Addr} {xs : List V} {ds : List D} : SqL K G a xs → RpL K G xs ds → Rp K G (.ref a) (.fls ds)
  | dic {a : Addr} {kvs : List (Key × V)} : G a = some (.dK kvs) → Rp K G (.ref a) .dic
  | raw (v : V) : Rp K G v (.raw v)
inductive RpL (K : PySem.W.Frag) (G : Hp) : List V → List D → Prop
  | nil : RpL K G [] []
  | cons {v : V} {vs : List V} {d : D} {ds : List D} : Rp K G v d → RpL K G vs ds → RpL K G (v :: vs) (d :: ds)
end

section
variable {K : PySem.W.Frag} {G G' : Hp}
mutual
theorem Rp.mono (e : Ex G G') : ∀ {v : V} {d : D}, Rp K G v d → Rp K G' v d
  | _, _, .non => .non
  | _, _, .bl b => .bl b
  | _, _, .int i => .int i
  | _, _, .str x => .str x
  | _, _, .tup h r => .tup (ex_t e h) (RpL.mono e r)
  | _, _, .lst h r => .lst (e _ _ h) (RpL.mono e r)
  | _, _, .fls h r => .fls (ex_l e h) (RpL.mono e r)
  | _, _, .dic h => .dic (e _ _ h)
  | _, _, .raw v => .raw v
theorem RpL.mono (e : Ex G G') : ∀ {vs : List V} {ds : List D}, RpL K G vs ds → RpL K G' vs ds
  | _, _, .nil => .nil
  | _, _, .cons h r => .cons (Rp.mono e h) (RpL.mono e r)
end
theorem RpL.length : ∀ {vs : List V} {ds : List D}, RpL K G vs ds → vs.length = ds.length
  | _, _, .nil => rfl
  | _, _, .cons _ r => congrArg (· + 1) r.length
theorem RpL.get : ∀ {vs : List V} {ds : List D} {i : Nat} {d : D}, RpL K G vs ds → ds[i]? = some d → ∃ v, vs[i]? = some v ∧ Rp K G v d
  | _, _, _, _, .nil, e => by simp at e
  | _, _, 0, _, .cons r _, e => by simp at e; subst e; exact ⟨_, rfl, r⟩
  | _, _, i + 1, d, .cons _ t, e => by
    obtain ⟨v, h1, h2⟩ := RpL.get (i := i) (d := d) t (by simpa using e)
    exact ⟨v, by simpa using h1, h2⟩
theorem RpL.getV : ∀ {vs : List V} {ds : List D} {i : Nat} {v : V}, RpL K G vs ds → vs[i]? = some v → ∃ d, ds[i]? = some d ∧ Rp K G v d
  | _, _, _, _, .nil, e => by simp at e
  | _, _, 0, _, .cons r _, e => by simp at e; subst e; exact ⟨_, rfl, r⟩
  | _, _, i + 1, v, .cons _ t, e => by
    obtain ⟨d, h1, h2⟩ := RpL.getV (i := i) (v := v) t (by simpa using e)
    exact ⟨d, by simpa using h1, h2⟩
theorem RpL.set {v : V} {d : D} (r : Rp K G v d) : ∀ {vs : List V} {ds : List D} (i : Nat), RpL K G vs ds → RpL K G (vs.set i v) (ds.set i d)
  | _, _, _, .nil => .nil
  | _, _, 0, .cons _ t => .cons r t
  | _, _, i + 1, .cons q t => .cons q (RpL.set r i t)
theorem RpL.append : ∀ {vs ws : List V} {ds es : List D}, RpL K G vs ds → RpL K G ws es → RpL K G (vs ++ ws) (ds ++ es)
  | _, _, _, _, .nil, s => s
  | _, _, _, _, .cons r t, s => .cons r (RpL.append t s)
theorem RpL.take : ∀ {vs : List V} {ds : List D} (n : Nat), RpL K G vs ds → RpL K G (vs.take n) (ds.take n)
  | _, _, 0, _ => .nil
  | _, _, _ + 1, .nil => .nil
  | _, _, n + 1, .cons r t => .cons r (RpL.take n t)
theorem RpL.drop : ∀ {vs : List V} {ds : List D} (n : Nat), RpL K G vs ds → RpL K G (vs.drop n) (ds.drop n)
  | _, _, 0, r => r
  | _, _, _ + 1, .nil => .nil
  | _, _, n + 1, .cons _ t => RpL.drop n t
theorem RpL.one {v : V} {d : D} (r : Rp K G v d) : RpL K G [v] [d] := .cons r .nil
theorem RpL.reverse : ∀ {vs : List V} {ds : List D}, RpL K G vs ds → RpL K G vs.reverse ds.reverse
  | _, _, .nil => .nil
  | _, _, .cons r t => by
    rw [List.reverse_cons, List.reverse_cons]
    exact (RpL.reverse t).append (.one r)
theorem RpL.dropLast {vs : List V} {ds : List D} (r : RpL K G vs ds) : RpL K G vs.dropLast ds.dropLast := by
  rw [List.dropLast_eq_take, List.dropLast_eq_take, r.length]
  exact r.take _
theorem RpL.ints (ns : List Int) : RpL K G (ns.map V.int) (ns.map D.int) := by
  induction ns with
  | nil => exact .nil
  | cons n r ih => exact .cons (.int n) ih
theorem RpL.ints_inv : ∀ {vs : List V} (ns : List Int), RpL K G vs (ns.map D.int) → vs = ns.map V.int
  | _, [], h => by cases h; rfl
  | _, n :: r, h => by
    cases h with
    | cons h1 h2 =>
      cases h1
      rw [RpL.ints_inv r h2]
      rfl
theorem RpL.bls_inv : ∀ {vs : List V} (ns : List Bool), RpL K G vs (ns.map D.bl) → vs = ns.map V.bl
  | _, [], h => by cases h; rfl
  | _, n :: r, h => by
    cases h with
    | cons h1 h2 =>
      cases h1
      rw [RpL.bls_inv r h2]
      rfl
theorem RpL.strs_inv : ∀ {vs : List V} (ns : List Str), RpL K G vs (ns.map D.str) → vs = ns.map V.str
  | _, [], h => by cases h; rfl
  | _, n :: r, h => by
    cases h with
    | cons h1 h2 =>
      cases h1
      rw [RpL.strs_inv r h2]
      rfl
end

/-! ### slots -/
abbrev Env := List (Option D)
inductive Slots (K : PySem.W.Frag) (G : Hp) : St → Env → Prop
  | nil : Slots K G [] []
  | any {v : Option V} {σ : St} {ρ : Env} : Slots K G σ ρ → Slots K G (v :: σ) (none :: ρ)
  | val {v : V} {d : D} {σ : St} {ρ : Env} : Rp K G v d → Slots K G σ ρ → Slots K G (some v :: σ) (some d :: ρ)
section
variable {K : PySem.W.Frag} {G G' : Hp}
theorem Slots.mono (e : Ex G G') : ∀ {σ : St} {ρ : Env}, Slots K G σ ρ → Slots K G' σ ρ
  | _, _, .nil => .nil
  | _, _, .any r => .any (Slots.mono e r)
  | _, _, .val h r => .val (h.mono e) (Slots.mono e r)
theorem Slots.get : ∀ {σ : St} {ρ : Env} {i : Nat} {d : D}, Slots K G σ ρ → ρ[i]? = some (some d) → ∃ v, σ[i]? = some (some v) ∧ Rp K G v d
  | _, _, _, _, .nil, e => by simp at e
  | _, _, 0, _, .any _, e => by simp at e
  | _, _, 0, _, .val r _, e => by simp at e; subst e; exact ⟨_, rfl, r⟩
  | _, _, i + 1, d, .any t, e => by
    obtain ⟨v, h1, h2⟩ := Slots.get (i := i) (d := d) t (by simpa using e)
    exact ⟨v, by simpa using h1, h2⟩
  | _, _, i + 1, d, .val _ t, e => by
    obtain ⟨v, h1, h2⟩ := Slots.get (i := i) (d := d) t (by simpa using e)
    exact ⟨v, by simpa using h1, h2⟩
theorem Slots.set {v : V} {d : D} (r : Rp K G v d) : ∀ {σ : St} {ρ : Env} (i : Nat), Slots K G σ ρ → Slots K G (σ.set i (some v)) (ρ.set i (some d))
  | _, _, _, .nil => .nil
  | _, _, 0, .any t => .val r t
  | _, _, 0, .val _ t => .val r t
  | _, _, i + 1, .any t => .any (Slots.set r i t)
  | _, _, i + 1, .val q t => .val q (Slots.set r i t)
theorem Slots.setNone {o : Option V} : ∀ {σ : St} {ρ : Env} (i : Nat), Slots K G σ ρ → Slots K G (σ.set i o) (ρ.set i none)
  | _, _, _, .nil => .nil
  | _, _, 0, .any t => .any t
  | _, _, 0, .val _ t => .any t
  | _, _, i + 1, .any t => .any (Slots.setNone i t)
  | _, _, i + 1, .val q t => .val q (Slots.setNone i t)
def wipeE (ρ : Env) : List Nat → Env
  | [] => ρ
  | v :: vs => (wipeE ρ vs).set v none
theorem Slots.wipe {σ : St} {ρ : Env} (h : Slots K G σ ρ) : ∀ vs : List Nat, Slots K G (L2.wipe σ vs) (wipeE ρ vs)
  | [] => h
  | v :: vs => Slots.setNone v (Slots.wipe h vs)
theorem Slots.nones : ∀ (n : Nat), Slots K G (List.replicate n none) (List.replicate n none)
  | 0 => .nil
  | n + 1 => .any (Slots.nones n)
theorem Slots.of : ∀ {vs : List V} {ds : List D} {σ : St} {ρ : Env}, RpL K G vs ds → Slots K G σ ρ → Slots K G (vs.map some ++ σ) (ds.map some ++ ρ)
  | _, _, _, _, .nil, h => h
  | _, _, _, _, .cons r t, h => .val r (Slots.of t h)
/-- a def's slots at its entry -/
def startE (n : Nat) (ds : List D) : Env := ds.map some ++ List.replicate (n - ds.length) none
theorem Slots.start {N : List Str} {vs : List V} {ds : List D} (r : RpL K G vs ds) : Slots K G (L2.start N vs) (startE N.length ds) := by
  unfold L2.start startE
  rw [r.length]
  exact Slots.of r (Slots.nones _)
/-- one forgets slots -/
inductive Le : Env → Env → Prop
  | nil : Le [] []
  | any {o : Option D} {a b : Env} : Le a b → Le (o :: a) (none :: b)
  | same {o : Option D} {a b : Env} : Le a b → Le (o :: a) (o :: b)
theorem Slots.le : ∀ {σ : St} {a b : Env}, Slots K G σ a → Le a b → Slots K G σ b
  | _, _, _, h, .nil => h
  | _, _, _, .any t, .any l => .any (Slots.le t l)
  | _, _, _, .val _ t, .any l => .any (Slots.le t l)
  | _, _, _, .any t, .same l => .any (Slots.le t l)
  | _, _, _, .val r t, .same l => .val r (Slots.le t l)
end

/-! ### what is owned -/
inductive Cell where
  | lst (ds : List D)
  | dct (kvs : List (Key × D))
abbrev Own := List (Addr × Cell)
def KvRp (K : PySem.W.Frag) (G : Hp) (ys : List (Key × V)) (kvs : List (Key × D)) : Prop := Paired (fun (p : Key × V) (q : Key × D) => p.1 = q.1 ∧ Rp K G p.2 q.2) ys kvs
def CellOk (K : PySem.W.Frag) (G H : Hp) (a : Addr) : Cell → Prop
  | .lst ds => G a = none ∧ ∃ xs, H a = some (.lst xs) ∧ RpL K G xs ds
  | .dct kvs => G a = none ∧ ∃ ys, H a = some (.dK ys) ∧ KvRp K G ys kvs
abbrev keysO (M : Own) : List Addr := M.map (·.1)
structure Sy (K : PySem.W.Frag) (M : Own) (G H : Hp) : Prop where
  ex : Ex G H
  own : ∀ c ∈ M, CellOk K G H c.1 c.2
  nd : (keysO M).Nodup
section
variable {K : PySem.W.Frag} {G G' H H' : Hp} {M M' : Own} {a p : Addr} {c : Cell}
theorem KvRp.mono (e : Ex G G') {ys : List (Key × V)} {kvs : List (Key × D)} (h : KvRp K G ys kvs) : KvRp K G' ys kvs := Paired.mapP h fun _ _ q => ⟨q.1, q.2.mono e⟩
theorem CellOk.fr (h : CellOk K G H a c) : G a = none := by
  cases c with
  | lst ds => exact h.1
  | dct ds => exact h.1
theorem CellOk.ob (h : CellOk K G H a c) : ∃ o, H a = some o := by
  cases c with
  | lst ds => exact ⟨_, h.2.choose_spec.1⟩
  | dct ds => exact ⟨_, h.2.choose_spec.1⟩
theorem CellOk.to (e : Ex G G') (n : G' a = none) (k : ∀ o, H a = some o → H' a = some o) (h : CellOk K G H a c) : CellOk K G' H' a c := by
  cases c with
  | lst ds =>
    obtain ⟨_, xs, h1, h2⟩ := h
    exact ⟨n, xs, k _ h1, h2.mono e⟩
  | dct ds =>
    obtain ⟨_, xs, h1, h2⟩ := h
    exact ⟨n, xs, k _ h1, h2.mono e⟩
theorem Sy.free (h : Sy K M G H) (n : H p = none) : G p = none := fresh_back h.ex n
theorem Sy.newKey (h : Sy K M G H) (n : H p = none) : p ∉ keysO M := fun q => by
  obtain ⟨c, hc, rfl⟩ := List.mem_map.mp q
  obtain ⟨o, ho⟩ := (h.own c hc).ob
  rw [n] at ho
  cases ho
theorem exG {o : HO} (n : G p = none) : Ex G (upd G p o) := Ex.new n
/-- a new thing that never changes -/
theorem Sy.laid (h : Sy K M G H) (n : H p = none) (o : HO) : Sy K M (upd G p o) (upd H p o) where
  ex := fun b u e => by
    by_cases q : b = p
    · subst q
      rw [upd_same] at e
      rw [upd_same]
      exact e
    · rw [upd_ne q] at e
      rw [upd_ne q]
      exact h.ex b u e
  own := fun c hc => by
    have q := h.own c hc
    obtain ⟨u, hu⟩ := q.ob
    have ne : c.1 ≠ p := fun e => by
      rw [e, n] at hu
      cases hu
    exact q.to (exG (h.free n)) (by rw [upd_ne ne]; exact q.fr) (fun u hu => by rw [upd_ne ne]; exact hu)
  nd := h.nd
/-- a new list, owned -/
theorem Sy.ownL (h : Sy K M G H) (n : H p = none) {xs : List V} {ds : List D} (r : RpL K G xs ds) : Sy K ((p, .lst ds) :: M) G (upd H p (.lst xs)) where
  ex := fun b u e => by
    have ne : b ≠ p := fun q => by
      rw [q, h.free n] at e
      cases e
    rw [upd_ne ne]
    exact h.ex b u e
  own := fun c hc => by
    rcases List.mem_cons.mp hc with rfl | hc
    · exact ⟨h.free n, xs, upd_same, r⟩
    · have q := h.own c hc
      obtain ⟨u, hu⟩ := q.ob
      have ne : c.1 ≠ p := fun e => by
        rw [e, n] at hu
        cases hu
      exact q.to (Ex.refl G) q.fr (fun u hu => by rw [upd_ne ne]; exact hu)
  nd := List.nodup_cons.mpr ⟨h.newKey n, h.nd⟩
theorem Sy.ownD (h : Sy K M G H) (n : H p = none) {ys : List (Key × V)} {kvs : List (Key × D)} (r : KvRp K G ys kvs) : Sy K ((p, .dct kvs) :: M) G (upd H p (.dK ys)) where
  ex := fun b u e => by
    have ne : b ≠ p := fun q => by
      rw [q, h.free n] at e
      cases e
    rw [upd_ne ne]
    exact h.ex b u e
  own := fun c hc => by
    rcases List.mem_cons.mp hc with rfl | hc
    · exact ⟨h.free n, ys, upd_same, r⟩
    · have q := h.own c hc
      obtain ⟨u, hu⟩ := q.ob
      have ne : c.1 ≠ p := fun e => by
        rw [e, n] at hu
        cases hu
      exact q.to (Ex.refl G) q.fr (fun u hu => by rw [upd_ne ne]; exact hu)
  nd := List.nodup_cons.mpr ⟨h.newKey n, h.nd⟩
theorem keys_set : ∀ {M : Own} {k : Nat} {a : Addr} {c d : Cell}, M[k]? = some (a, c) → keysO (M.set k (a, d)) = keysO M
  | [], _, _, _, _, e => by simp at e
  | x :: r, 0, a, c, d, e => by
    simp at e
    subst e
    rfl
  | x :: r, k + 1, a, c, d, e => by
    show x.1 :: keysO (r.set k (a, d)) = x.1 :: keysO r
    rw [keys_set (M := r) (k := k) (c := c) (by simpa using e)]
theorem key_inj : ∀ {M : Own} {i j : Nat} {a : Addr} {c d : Cell}, (keysO M).Nodup → M[i]? = some (a, c) → M[j]? = some (a, d) → i = j := by
  intro M i j a c d nd h1 h2
  have e1 : (keysO M)[i]? = some a := by
    unfold keysO
    rw [List.getElem?_map, h1]
    rfl
  have e2 : (keysO M)[j]? = some a := by
    unfold keysO
    rw [List.getElem?_map, h2]
    rfl
  have l1 := (List.getElem?_eq_some_iff.mp e1).1
  exact (List.getElem?_inj l1 nd).mp (e1.trans e2.symm)
theorem mem_set_own {M : Own} {k : Nat} {x y : Addr × Cell} (h : y ∈ M.set k x) : y = x ∨ ∃ j, j ≠ k ∧ M[j]? = some y := by
  obtain ⟨j, hj⟩ := List.mem_iff_getElem?.mp h
  by_cases e : j = k
  · subst e
    rw [List.getElem?_set_self'] at hj
    cases q : M[j]? with
    | none =>
      rw [q] at hj
      cases hj
    | some z =>
      rw [q] at hj
      exact .inl (Option.some.inj hj).symm
  · rw [List.getElem?_set_ne (Ne.symm e)] at hj
    exact .inr ⟨j, e, hj⟩
/-- an owned cell gets another content -/
theorem Sy.put (h : Sy K M G H) {k : Nat} {c d : Cell} {o : HO} (hk : M[k]? = some (a, c)) (ok : CellOk K G (upd H a o) a d) : Sy K (M.set k (a, d)) G (upd H a o) where
  ex := fun b u e => by
    have ne : b ≠ a := fun q => by
      rw [q, (h.own _ (List.mem_of_getElem? hk)).fr] at e
      cases e
    rw [upd_ne ne]
    exact h.ex b u e
  own := fun x hx => by
    rcases mem_set_own hx with rfl | ⟨j, hj, e⟩
    · exact ok
    · have ne : x.1 ≠ a := fun q => hj (key_inj (c := x.2) (d := c) h.nd (by rw [e, ← q]) hk)
      have q := h.own x (List.mem_of_getElem? e)
      exact q.to (Ex.refl G) q.fr fun u hu => by rw [upd_ne ne]; exact hu
  nd := by
    rw [keys_set hk]
    exact h.nd
theorem Sy.putL (h : Sy K M G H) {k : Nat} {c : Cell} {xs : List V} {ds : List D} (hk : M[k]? = some (a, c)) (r : RpL K G xs ds) : Sy K (M.set k (a, .lst ds)) G (upd H a (.lst xs)) :=
  h.put hk ⟨(h.own _ (List.mem_of_getElem? hk)).fr, xs, upd_same, r⟩
theorem Sy.putD (h : Sy K M G H) {k : Nat} {c : Cell} {ys : List (Key × V)} {kvs : List (Key × D)} (hk : M[k]? = some (a, c)) (r : KvRp K G ys kvs) : Sy K (M.set k (a, .dct kvs)) G (upd H a (.dK ys)) :=
  h.put hk ⟨(h.own _ (List.mem_of_getElem? hk)).fr, ys, upd_same, r⟩
theorem Sy.getL (h : Sy K M G H) {k : Nat} {ds : List D} (hk : M[k]? = some (a, .lst ds)) : ∃ xs, H a = some (.lst xs) ∧ RpL K G xs ds := (h.own _ (List.mem_of_getElem? hk)).2
theorem Sy.getD (h : Sy K M G H) {k : Nat} {kvs : List (Key × D)} (hk : M[k]? = some (a, .dct kvs)) : ∃ ys, H a = some (.dK ys) ∧ KvRp K G ys kvs := (h.own _ (List.mem_of_getElem? hk)).2
/-- owned things are forgotten -/
theorem Sy.sub (h : Sy K M G H) (s : M'.Sublist M) : Sy K M' G H := ⟨h.ex, fun c hc => h.own c (s.subset hc), (s.map _).nodup h.nd⟩
theorem Sy.drop1 {x : Addr × Cell} (h : Sy K (x :: M) G H) : Sy K M G H := h.sub (List.sublist_cons_self x M)
/-- the owned list at place k is frozen -/
theorem Sy.freeze (h : Sy K M G H) {k : Nat} {ds : List D} (hk : M[k]? = some (a, .lst ds)) : ∃ G', Ex G G' ∧ Sy K (M.eraseIdx k) G' H ∧ Rp K G' (.ref a) (.lst ds) := by
  obtain ⟨xs, h1, h2⟩ := h.getL hk
  have n := (h.own _ (List.mem_of_getElem? hk)).fr
  have e : Ex G (upd G a (.lst xs)) := exG n
  refine ⟨upd G a (.lst xs), e, ⟨fun b u q => ?_, fun x hx => ?_, ((List.eraseIdx_sublist M k).map _).nodup h.nd⟩, .lst upd_same (h2.mono e)⟩
  · by_cases z : b = a
    · subst z
      rw [upd_same] at q
      rw [← Option.some.inj q]
      exact h1
    · rw [upd_ne z] at q
      exact h.ex b u q
  · obtain ⟨j, hj, ex⟩ := List.mem_eraseIdx_iff_getElem?.mp hx
    have ne : x.1 ≠ a := fun q => hj (key_inj (c := x.2) (d := .lst ds) h.nd (by rw [ex, ← q]) hk)
    have q := h.own x (List.mem_of_getElem? ex)
    exact q.to e (by rw [upd_ne ne]; exact q.fr) fun _ hu => hu
/-- the same owned things in another order -/
theorem Sy.perm (h : Sy K M G H) (s : M'.Perm M) : Sy K M' G H := ⟨h.ex, fun c hc => h.own c (s.mem_iff.mp hc), (s.map _).nodup_iff.mpr h.nd⟩
end
end Pv

namespace Pv
open PySem L2 Evl

/-! ### judgements -/
/-- what is wanted behind an expression: a value, what is known then -/
abbrev KD := D → Own → Prop
def Kt (K : PySem.W.Frag) (G : Hp) (P : KD) (Q : VK) : Prop := ∀ v G' H' M' d, Ex G G' → Sy K M' G' H' → Rp K G' v d → P d M' → Q v H'
def BE (K : PySem.W.Frag) (te : TE) (ρ : Env) (M : Own) (P : KD) : Prop := ∀ σ G H Q, Slots K G σ ρ → Sy K M G H → Kt K G P Q → te σ H Q
def BT (K : PySem.W.Frag) (tt : TT) (ρ : Env) (M : Own) (P : Bool → Own → Prop) : Prop := ∀ σ G H (Q : Bool → Hp → Prop), Slots K G σ ρ → Sy K M G H → (∀ b G' H' M', Ex G G' → Sy K M' G' H' → P b M' → Q b H') → tt σ H Q
def BA (K : PySem.W.Frag) (ta : TA) (ρ : Env) (M : Own) (P : List D → Own → Prop) : Prop := ∀ σ G H (Q : List V → Hp → Prop), Slots K G σ ρ → Sy K M G H → (∀ vs G' H' M' ds, Ex G G' → Sy K M' G' H' → RpL K G' vs ds → P ds M' → Q vs H') → ta σ H Q
/-- operations on values -/
def BR (K : PySem.W.Frag) (r : R2) (dx dy : D) (M : Own) (P : KD) : Prop := ∀ x y G H Q, Rp K G x dx → Rp K G y dy → Sy K M G H → Kt K G P Q → r x y H Q
def BU (K : PySem.W.Frag) (r : V → Hp → VK → Prop) (dx : D) (M : Own) (P : KD) : Prop := ∀ x G H Q, Rp K G x dx → Sy K M G H → Kt K G P Q → r x H Q
def BC (K : PySem.W.Frag) (r : List V → Hp → VK → Prop) (ds : List D) (M : Own) (P : KD) : Prop := ∀ vs G H Q, RpL K G vs ds → Sy K M G H → Kt K G P Q → r vs H Q
def BM (K : PySem.W.Frag) (r : V → List V → Hp → VK → Prop) (dx : D) (ds : List D) (M : Own) (P : KD) : Prop := ∀ x vs G H Q, Rp K G x dx → RpL K G vs ds → Sy K M G H → Kt K G P Q → r x vs H Q
section
variable {K : PySem.W.Frag} {ρ : Env} {M : Own} {P P' : KD} {ta tb tc te : TE} {G G' H : Hp} {Q : VK}
theorem Kt.mono (e : Ex G G') (k : Kt K G P Q) : Kt K G' P Q := fun v G2 H' M' d e2 y r p => k v G2 H' M' d (e.trans e2) y r p
theorem Kt.go {v : V} {d : D} (k : Kt K G P Q) (y : Sy K M G H) (r : Rp K G v d) (p : P d M) : Q v H := k v G H M d (Ex.refl G) y r p
theorem BE.imp (h : BE K te ρ M P) (i : ∀ d M', P d M' → P' d M') : BE K te ρ M P' := fun σ G H Q hs hy k => h σ G H Q hs hy fun v G' H' M' d e y r p => k v G' H' M' d e y r (i _ _ p)

/-! ### names, constants -/
theorem be_var {i : Nat} {d : D} (h : ρ[i]? = some (some d)) (k : P d M) : BE K (tVar i) ρ M P := fun σ G H Q hs hy q => by
  obtain ⟨v, h1, h2⟩ := hs.get h
  exact ⟨v, h1, q.go hy h2 k⟩
theorem be_int {i : Int} (k : P (.int i) M) : BE K (tC (.int i)) ρ M P := fun σ G H Q hs hy q => q.go (v := .int i) hy (.int i) k
theorem be_str {i : Str} (k : P (.str i) M) : BE K (tC (.str i)) ρ M P := fun σ G H Q hs hy q => q.go (v := .str i) hy (.str i) k
theorem be_bl {i : Bool} (k : P (.bl i) M) : BE K (tC (.bl i)) ρ M P := fun σ G H Q hs hy q => q.go (v := .bl i) hy (.bl i) k
theorem be_non (k : P .non M) : BE K (tC .non) ρ M P := fun σ G H Q hs hy q => q.go (v := .non) hy .non k
theorem be_ty {T : String} (k : P (.raw (.ty T)) M) : BE K (tC (.ty T)) ρ M P := fun σ G H Q hs hy q => q.go (v := .ty T) hy (.raw _) k
theorem be_ref {a : Addr} (k : P (.raw (.ref a)) M) : BE K (tC (.ref a)) ρ M P := fun σ G H Q hs hy q => q.go (v := .ref a) hy (.raw _) k
theorem be_con {v : V} {d : D} (r : ∀ G, Rp K G v d) (k : P d M) : BE K (tC v) ρ M P := fun σ G H Q hs hy q => q.go hy (r G) k

/-! ### operators -/
theorem be_op {r : R2} (h : BE K ta ρ M fun dx M1 => BE K tb ρ M1 fun dy M2 => BR K r dx dy M2 P) : BE K (tOp r ta tb) ρ M P := fun σ G H Q hs hy k =>
  h σ G H _ hs hy fun x G1 H1 M1 dx e1 y1 r1 h1 => h1 σ G1 H1 _ (hs.mono e1) y1 fun y G2 H2 M2 dy e2 y2 r2 h2 =>
    h2 x y G2 H2 Q (r1.mono e2) r2 y2 (k.mono (e1.trans e2))
theorem be_un {r : V → Hp → VK → Prop} (h : BE K ta ρ M fun dx M1 => BU K r dx M1 P) : BE K (tUn r ta) ρ M P := fun σ G H Q hs hy k =>
  h σ G H _ hs hy fun x G1 H1 M1 dx e1 y1 r1 h1 => h1 x G1 H1 Q r1 y1 (k.mono e1)
theorem br_int {f : Int → Int → Int} {i j : Int} (k : P (.int (f i j)) M) : BR K (rI0 fun i j => .int (f i j)) (.int i) (.int j) M P := fun x y G H Q r1 r2 hy q => by
  cases r1
  cases r2
  exact ⟨i, j, rfl, rfl, q.go hy (.int _) k⟩
theorem br_intC {C : Int → Int → Prop} {f : Int → Int → Int} {i j : Int} (c : C i j) (k : P (.int (f i j)) M) : BR K (rI C fun i j => .int (f i j)) (.int i) (.int j) M P := fun x y G H Q r1 r2 hy q => by
  cases r1
  cases r2
  exact ⟨i, j, rfl, rfl, c, q.go hy (.int _) k⟩
theorem br_bl {f : Int → Int → Bool} {i j : Int} (k : P (.bl (f i j)) M) : BR K (rI0 fun i j => .bl (f i j)) (.int i) (.int j) M P := fun x y G H Q r1 r2 hy q => by
  cases r1
  cases r2
  exact ⟨i, j, rfl, rfl, q.go hy (.bl _) k⟩
theorem bu_int {f : Int → Int} {i : Int} (k : P (.int (f i)) M) : BU K (rU fun i => .int (f i)) (.int i) M P := fun x G H Q r1 hy q => by
  cases r1
  exact ⟨i, rfl, q.go hy (.int _) k⟩
theorem br_or1 {r r' : R2} {dx dy : D} (h : BR K r dx dy M P) : BR K (fun x y H Q => r x y H Q ∨ r' x y H Q) dx dy M P := fun x y G H Q r1 r2 hy q => .inl (h x y G H Q r1 r2 hy q)
theorem br_or2 {r r' : R2} {dx dy : D} (h : BR K r' dx dy M P) : BR K (fun x y H Q => r x y H Q ∨ r' x y H Q) dx dy M P := fun x y G H Q r1 r2 hy q => .inr (h x y G H Q r1 r2 hy q)

/-! ### ==, !=, is None -/
theorem br_eqI {i j : Int} (k : P (.bl (decide (i = j))) M) : BR K rEq (.int i) (.int j) M P := fun x y G H Q r1 r2 hy q => by
  cases r1
  cases r2
  refine ⟨rfl, ?_⟩
  have e : decide (V.int i = V.int j) = decide (i = j) := by
    by_cases h : i = j
    · rw [decide_eq_true h, decide_eq_true (congrArg V.int h)]
    · rw [decide_eq_false h, decide_eq_false (fun z => h (V.int.inj z))]
  rw [e]
  exact q.go hy (.bl _) k
theorem br_neI {i j : Int} (k : P (.bl (!decide (i = j))) M) : BR K rNe (.int i) (.int j) M P := fun x y G H Q r1 r2 hy q => by
  cases r1
  cases r2
  refine ⟨rfl, ?_⟩
  have e : decide (V.int i = V.int j) = decide (i = j) := by
    by_cases h : i = j
    · rw [decide_eq_true h, decide_eq_true (congrArg V.int h)]
    · rw [decide_eq_false h, decide_eq_false (fun z => h (V.int.inj z))]
  rw [e]
  exact q.go hy (.bl _) k
theorem br_eqS {i j : Str} (k : P (.bl (decide (i = j))) M) : BR K rEq (.str i) (.str j) M P := fun x y G H Q r1 r2 hy q => by
  cases r1
  cases r2
  refine ⟨rfl, ?_⟩
  have e : decide (V.str i = V.str j) = decide (i = j) := by
    by_cases h : i = j
    · rw [decide_eq_true h, decide_eq_true (congrArg V.str h)]
    · rw [decide_eq_false h, decide_eq_false (fun z => h (V.str.inj z))]
  rw [e]
  exact q.go hy (.bl _) k
theorem br_neS {i j : Str} (k : P (.bl (!decide (i = j))) M) : BR K rNe (.str i) (.str j) M P := fun x y G H Q r1 r2 hy q => by
  cases r1
  cases r2
  refine ⟨rfl, ?_⟩
  have e : decide (V.str i = V.str j) = decide (i = j) := by
    by_cases h : i = j
    · rw [decide_eq_true h, decide_eq_true (congrArg V.str h)]
    · rw [decide_eq_false h, decide_eq_false (fun z => h (V.str.inj z))]
  rw [e]
  exact q.go hy (.bl _) k
theorem br_eqB {i j : Bool} (k : P (.bl (decide (i = j))) M) : BR K rEq (.bl i) (.bl j) M P := fun x y G H Q r1 r2 hy q => by
  cases r1
  cases r2
  refine ⟨rfl, ?_⟩
  have e : decide (V.bl i = V.bl j) = decide (i = j) := by
    by_cases h : i = j
    · rw [decide_eq_true h, decide_eq_true (congrArg V.bl h)]
    · rw [decide_eq_false h, decide_eq_false (fun z => h (V.bl.inj z))]
  rw [e]
  exact q.go hy (.bl _) k
theorem br_neB {i j : Bool} (k : P (.bl (!decide (i = j))) M) : BR K rNe (.bl i) (.bl j) M P := fun x y G H Q r1 r2 hy q => by
  cases r1
  cases r2
  refine ⟨rfl, ?_⟩
  have e : decide (V.bl i = V.bl j) = decide (i = j) := by
    by_cases h : i = j
    · rw [decide_eq_true h, decide_eq_true (congrArg V.bl h)]
    · rw [decide_eq_false h, decide_eq_false (fun z => h (V.bl.inj z))]
  rw [e]
  exact q.go hy (.bl _) k
/-- data of two kinds, neither a list: unlike -/
def kindNo : D → Nat
  | .non => 0 | .bl _ => 1 | .int _ => 2 | .str _ => 3 | _ => 9
mutual
def pyOf : D → Option PyData
  | .non => some .none
  | .bl b => some (.bool b)
  | .int i => some (.int i)
  | .str x => some (.str x)
  | .tup ds => (pyAll ds).map .tuple
  | .lst ds => (pyAll ds).map .list
  | .fls ds => (pyAll ds).map .list
  | .dic => none
  | .raw _ => none
def pyAll : List D → Option (List PyData)
  | [] => some []
  | d :: ds => match pyOf d, pyAll ds with
    | some x, some xs => some (x :: xs)
    | _, _ => none
end
theorem pyAll_cons {d : D} {ds : List D} {ps : List PyData} (h : pyAll (d :: ds) = some ps) : ∃ x xs, pyOf d = some x ∧ pyAll ds = some xs ∧ ps = x :: xs := by
  unfold pyAll at h
  cases h1 : pyOf d with
  | none =>
    rw [h1] at h
    cases h
  | some x =>
    cases h2 : pyAll ds with
    | none =>
      rw [h1, h2] at h
      cases h
    | some xs =>
      rw [h1, h2] at h
      exact ⟨x, xs, rfl, rfl, (Option.some.inj h).symm⟩
mutual
theorem dp_of (e : Ex G H) : ∀ (d : D) (v : V) (p : PyData), Rp K G v d → pyOf d = some p → Dp K H v p
  | .non, _, _, h, q => by cases h; cases q; exact .non
  | .bl b, _, _, h, q => by cases h; cases q; exact .bl b
  | .int i, _, _, h, q => by cases h; cases q; exact .int i
  | .str i, _, _, h, q => by cases h; cases q; exact .str i
  | .tup ds, _, _, h, q => by
    unfold pyOf at q
    cases h with
    | tup hs ha =>
      cases z : pyAll ds with
      | none =>
        rw [z] at q
        cases q
      | some ps =>
        rw [z] at q
        cases q
        exact .tup (ex_t e hs) (dpAll_of e ds _ _ ha z)
  | .lst ds, _, _, h, q => by
    unfold pyOf at q
    cases h with
    | lst hs ha =>
      cases z : pyAll ds with
      | none =>
        rw [z] at q
        cases q
      | some ps =>
        rw [z] at q
        cases q
        exact .lst (sq_of (e _ _ hs)) (dpAll_of e ds _ _ ha z)
  | .fls ds, _, _, h, q => by
    unfold pyOf at q
    cases h with
    | fls hs ha =>
      cases z : pyAll ds with
      | none =>
        rw [z] at q
        cases q
      | some ps =>
        rw [z] at q
        cases q
        exact .lst (ex_l e hs) (dpAll_of e ds _ _ ha z)
  | .dic, _, _, _, q => by cases q
  | .raw _, _, _, _, q => by cases q
theorem dpAll_of (e : Ex G H) : ∀ (ds : List D) (vs : List V) (ps : List PyData), RpL K G vs ds → pyAll ds = some ps → DpAll K H vs ps
  | [], _, _, h, q => by cases h; cases q; exact .nil
  | d :: ds, _, _, h, q => by
    cases h with
    | cons h1 h2 =>
      obtain ⟨x, xs, q1, q2, rfl⟩ := pyAll_cons q
      exact .cons (dp_of e d _ x h1 q1) (dpAll_of e ds _ xs h2 q2)
end
/-- == of any data, an owned list among them (DpO) -/
def PyIs (K : PySem.W.Frag) (M : Own) (d : D) (p : PyData) : Prop := ∀ v G H, Rp K G v d → Sy K M G H → Dp K H v p
theorem PyIs.of {d : D} {p : PyData} (h : pyOf d = some p) : PyIs K M d p := fun v G H r y => dp_of y.ex d v p r h
theorem PyIs.own {a : Addr} {n : Nat} {ds : List D} {ps : List PyData} (hk : M[n]? = some (a, .lst ds)) (h : pyAll ds = some ps) : PyIs K M (.raw (.ref a)) (.list ps) := fun v G H r y => by
  cases r
  obtain ⟨xs, h1, h2⟩ := y.getL hk
  exact .lst (sq_of h1) (dpAll_of y.ex ds xs ps h2 h)
theorem br_eqD {dx dy : D} {p q : PyData} (hx : PyIs K M dx p) (hy : PyIs K M dy q) (sp : SeqAt.shaped p = true) (sq : SeqAt.shaped q = true) (k : P (.bl (PyData.eqv p q)) M) : BR K (rEqD K) dx dy M P := fun x y G H Q r1 r2 h qq =>
  ⟨p, q, hx x G H r1 h, hy y G H r2 h, sp, sq, qq.go h (.bl _) k⟩
theorem br_neD {dx dy : D} {p q : PyData} (hx : PyIs K M dx p) (hy : PyIs K M dy q) (sp : SeqAt.shaped p = true) (sq : SeqAt.shaped q = true) (k : P (.bl (!PyData.eqv p q)) M) : BR K (rNeD K) dx dy M P := fun x y G H Q r1 r2 h qq =>
  ⟨p, q, hx x G H r1 h, hy y G H r2 h, sp, sq, qq.go h (.bl _) k⟩
def isNon : D → Bool
  | .non => true
  | .raw .non => true
  | _ => false
theorem isNon_of {v : V} {d : D} (r : Rp K G v d) : decide (v = .non) = isNon d := by
  cases r with
  | raw v => cases v <;> rfl
  | _ => rfl
theorem br_isN {dx : D} (k : P (.bl (isNon dx)) M) : BR K (fun x y H Q => y = .non ∧ Q (.bl (decide (x = .non))) H) dx .non M P := fun x y G H Q r1 r2 hy q => by
  cases r2
  refine ⟨rfl, ?_⟩
  rw [isNon_of r1]
  exact q.go hy (.bl _) k
theorem br_notN {dx : D} (k : P (.bl (!isNon dx)) M) : BR K (fun x y H Q => y = .non ∧ Q (.bl (!decide (x = .non))) H) dx .non M P := fun x y G H Q r1 r2 hy q => by
  cases r2
  refine ⟨rfl, ?_⟩
  rw [isNon_of r1]
  exact q.go hy (.bl _) k

/-! ### lists and tuples as they are read -/
/-- d is a list of the data ds: a tracked one | any sequence -/
inductive IsL (M : Own) : D → List D → Prop
  | own {n : Nat} {a : Addr} {ds : List D} : M[n]? = some (a, .lst ds) → IsL M (.raw (.ref a)) ds
  | lst {ds : List D} : IsL M (.lst ds) ds
inductive IsSL (M : Own) : D → List D → Prop
  | of {d : D} {ds : List D} : IsL M d ds → IsSL M d ds
  | fls {ds : List D} : IsSL M (.fls ds) ds
theorem IsL.at {d : D} {ds : List D} (h : IsL M d ds) {v : V} (r : Rp K G v d) (y : Sy K M G H) : ∃ a xs, v = .ref a ∧ H a = some (.lst xs) ∧ RpL K G xs ds := by
  cases h with
  | own hk =>
    cases r
    obtain ⟨xs, h1, h2⟩ := y.getL hk
    exact ⟨_, xs, rfl, h1, h2⟩
  | lst =>
    cases r with
    | lst h1 h2 => exact ⟨_, _, rfl, y.ex _ _ h1, h2⟩
theorem IsSL.at {d : D} {ds : List D} (h : IsSL M d ds) {v : V} (r : Rp K G v d) (y : Sy K M G H) : ∃ a xs, v = .ref a ∧ SqL K H a xs ∧ RpL K G xs ds := by
  cases h with
  | of h =>
    obtain ⟨a, xs, e, h1, h2⟩ := h.at r y
    exact ⟨a, xs, e, sq_of h1, h2⟩
  | fls =>
    cases r with
    | fls h1 h2 => exact ⟨_, _, rfl, ex_l y.ex h1, h2⟩
theorem tup_at {ds : List D} {v : V} (r : Rp K G v (.tup ds)) (y : Sy K M G H) : ∃ a xs, v = .ref a ∧ SqT K H a xs ∧ RpL K G xs ds := by
  cases r with
  | tup h1 h2 => exact ⟨_, _, rfl, ex_t y.ex h1, h2⟩

theorem atI_map {ds : List D} {xs : List V} {i : Int} {d : D} (r : RpL K G xs ds) (h : atI ds i = some d) : ∃ v, atI xs i = some v ∧ Rp K G v d := by
  unfold atI at h ⊢
  rw [r.length]
  cases q : ixN ds.length i with
  | none =>
    rw [q] at h
    cases h
  | some j =>
    rw [q] at h
    exact r.get h
theorem atI_nn {α : Type} {xs : List α} {n : Nat} {x : α} (h : xs[n]? = some x) : atI xs (n : Int) = some x := by
  have hl := (List.getElem?_eq_some_iff.mp h).1
  unfold atI ixN
  rw [if_pos (by omega), if_pos (by omega)]
  show xs[((n : Int)).toNat]? = some x
  rw [Int.toNat_natCast]
  exact h
theorem atI_pos {α : Type} {xs : List α} {i : Int} {x : α} (h0 : 0 ≤ i) (h : xs[i.toNat]? = some x) : atI xs i = some x := by
  have e : i = ((i.toNat : Nat) : Int) := (Int.toNat_of_nonneg h0).symm
  rw [e]
  exact atI_nn h
theorem atI_neg {α : Type} {xs : List α} {i : Int} {x : α} (h0 : i < 0) (hl : 0 ≤ i + xs.length) (h : xs[(i + xs.length).toNat]? = some x) : atI xs i = some x := by
  unfold atI ixN
  rw [if_neg (by omega), if_pos (by omega)]
  exact h
theorem br_ixL {dx d : D} {ds : List D} {i : Int} (h : IsSL M dx ds) (ha : atI ds i = some d) (k : P d M) : BR K (rIx K) dx (.int i) M P := fun x y G H Q r1 r2 hy q => by
  cases r2
  obtain ⟨a, xs, rfl, h1, h2⟩ := h.at r1 hy
  obtain ⟨v, h3, h4⟩ := atI_map h2 ha
  exact .inl ⟨a, xs, i, v, rfl, rfl, h1, h3, q.go hy h4 k⟩
theorem br_ixT {d : D} {ds : List D} {i : Int} (ha : atI ds i = some d) (k : P d M) : BR K (rIx K) (.tup ds) (.int i) M P := fun x y G H Q r1 r2 hy q => by
  cases r2
  obtain ⟨a, xs, rfl, h1, h2⟩ := tup_at r1 hy
  obtain ⟨v, h3, h4⟩ := atI_map h2 ha
  exact .inr (.inl ⟨a, xs, i, v, rfl, rfl, h1, h3, q.go hy h4 k⟩)
theorem br_ixS {z : Str} {i : Int} {c : Nat} (hz : z.length ≤ sizeLine) (ha : atI z.cps.toList i = some c) (k : P (.str ⟨#[c]⟩) M) : BR K (rIx K) (.str z) (.int i) M P := fun x y G H Q r1 r2 hy q => by
  cases r1
  cases r2
  exact .inr (.inr ⟨z, i, c, rfl, rfl, hz, ha, q.go hy (.str _) k⟩)

/-! ### arguments, displays -/
theorem ba_nil {P : List D → Own → Prop} (k : P [] M) : BA K tNil ρ M P := fun σ G H Q hs hy q => q [] G H M [] (Ex.refl G) hy .nil k
theorem ba_cons {tr : TA} {P : List D → Own → Prop} (h : BE K ta ρ M fun d M1 => BA K tr ρ M1 fun ds M2 => P (d :: ds) M2) : BA K (tCons ta tr) ρ M P := fun σ G H Q hs hy q =>
  h σ G H _ hs hy fun x G1 H1 M1 d e1 y1 r1 h1 => h1 σ G1 H1 _ (hs.mono e1) y1 fun vs G2 H2 M2 ds e2 y2 r2 p =>
    q (x :: vs) G2 H2 M2 (d :: ds) (e1.trans e2) y2 (.cons (r1.mono e2) r2) p
theorem Kt.new {p : Addr} {o : HO} {d : D} (q : Kt K G P Q) (y : Sy K M G H) (n : H p = none) (r : Rp K (upd G p o) (.ref p) d) (k : P d M) : Q (.ref p) (upd H p o) :=
  q (.ref p) (upd G p o) (upd H p o) M d (exG (y.free n)) (y.laid n o) r k
theorem be_tup {ta : TA} (h : BA K ta ρ M fun ds M1 => ds.length ≤ sizeLine ∧ P (.tup ds) M1) : BE K (tTup ta) ρ M P := fun σ G H Q hs hy q =>
  h σ G H _ hs hy fun vs G1 H1 M1 ds e1 y1 r1 ⟨hl, p⟩ => ⟨by rw [r1.length]; exact hl, fun a n =>
    (q.mono e1).new y1 n (.tup (st_of upd_same) (r1.mono (exG (y1.free n)))) p⟩
theorem Kt.newL {p : Addr} {xs : List V} {ds : List D} (q : Kt K G P Q) (y : Sy K M G H) (n : H p = none) (r : RpL K G xs ds) (k : ∀ p, p ∉ keysO M → P (.raw (.ref p)) ((p, .lst ds) :: M)) : Q (.ref p) (upd H p (.lst xs)) :=
  q (.ref p) G _ _ (.raw (.ref p)) (Ex.refl G) (y.ownL n r) (.raw _) (k p (y.newKey n))
theorem be_lst {ta : TA} (h : BA K ta ρ M fun ds M1 => ds.length ≤ sizeLine ∧ ∀ p, p ∉ keysO M1 → P (.raw (.ref p)) ((p, .lst ds) :: M1)) : BE K (tLst ta) ρ M P := fun σ G H Q hs hy q =>
  h σ G H _ hs hy fun vs G1 H1 M1 ds e1 y1 r1 ⟨hl, p⟩ => ⟨by rw [r1.length]; exact hl, fun a n => (q.mono e1).newL y1 n r1 p⟩
/-- a list display that is never changed: frozen at once -/
theorem be_lstF {ta : TA} (h : BA K ta ρ M fun ds M1 => ds.length ≤ sizeLine ∧ P (.lst ds) M1) : BE K (tLst ta) ρ M P := fun σ G H Q hs hy q =>
  h σ G H _ hs hy fun vs G1 H1 M1 ds e1 y1 r1 ⟨hl, p⟩ => ⟨by rw [r1.length]; exact hl, fun a n =>
    (q.mono e1).new y1 n (.lst upd_same (r1.mono (exG (y1.free n)))) p⟩

/-! ### calls -/
theorem be_cb {r : List V → Hp → VK → Prop} {ta : TA} (h : BA K ta ρ M fun ds M1 => BC K r ds M1 P) : BE K (tCB r ta) ρ M P := fun σ G H Q hs hy q =>
  h σ G H _ hs hy fun vs G1 H1 M1 ds e1 y1 r1 p => p vs G1 H1 Q r1 y1 (q.mono e1)
theorem RpL.one_inv {vs : List V} {d : D} (h : RpL K G vs [d]) : ∃ v, vs = [v] ∧ Rp K G v d := by
  cases h with
  | cons h1 h2 =>
    cases h2
    exact ⟨_, rfl, h1⟩
theorem RpL.two_inv {vs : List V} {d e : D} (h : RpL K G vs [d, e]) : ∃ v w, vs = [v, w] ∧ Rp K G v d ∧ Rp K G w e := by
  cases h with
  | cons h1 h2 =>
    obtain ⟨w, rfl, h3⟩ := h2.one_inv
    exact ⟨_, w, rfl, h1, h3⟩
abbrev rInt1 : List V → Hp → VK → Prop := fun xs H Q => (∃ i, xs = [.int i] ∧ Q (.int i) H) ∨ ∃ k, xs = [.bl k] ∧ Q (.int (if k then 1 else 0)) H
theorem bc_int {i : Int} (k : P (.int i) M) : BC K rInt1 [.int i] M P := fun vs G H Q r hy q => by
  obtain ⟨v, rfl, r1⟩ := r.one_inv
  cases r1
  exact .inl ⟨i, rfl, q.go hy (.int i) k⟩
theorem bc_intB {b : Bool} (k : P (.int (if b then 1 else 0)) M) : BC K rInt1 [.bl b] M P := fun vs G H Q r hy q => by
  obtain ⟨v, rfl, r1⟩ := r.one_inv
  cases r1
  exact .inr ⟨b, rfl, q.go hy (.int _) k⟩
abbrev rLenP (K : PySem.W.Frag) : List V → Hp → VK → Prop := fun xs H Q => ∃ x n, xs = [x] ∧ LenV K x H n ∧ Q (.int n) H
theorem bc_lenL {d : D} {ds : List D} (h : IsSL M d ds) (k : P (.int ds.length) M) : BC K (rLenP K) [d] M P := fun vs G H Q r hy q => by
  obtain ⟨v, rfl, r1⟩ := r.one_inv
  obtain ⟨a, xs, rfl, h1, h2⟩ := h.at r1 hy
  refine ⟨_, _, rfl, .inl ⟨xs, h1, rfl⟩, ?_⟩
  rw [h2.length]
  exact q.go hy (.int _) k
theorem bc_lenT {ds : List D} (k : P (.int ds.length) M) : BC K (rLenP K) [.tup ds] M P := fun vs G H Q r hy q => by
  obtain ⟨v, rfl, r1⟩ := r.one_inv
  obtain ⟨a, xs, rfl, h1, h2⟩ := tup_at r1 hy
  refine ⟨_, _, rfl, .inr ⟨xs, h1, rfl⟩, ?_⟩
  rw [h2.length]
  exact q.go hy (.int _) k
theorem bc_lenS {z : Str} (hz : z.length ≤ sizeLine) (k : P (.int z.length) M) : BC K (rLenP K) [.str z] M P := fun vs G H Q r hy q => by
  obtain ⟨v, rfl, r1⟩ := r.one_inv
  cases r1
  exact ⟨_, _, rfl, ⟨hz, rfl⟩, q.go hy (.int _) k⟩
/-- a def of the text: what it does to data, told by what is wanted behind it -/
def spB (K : PySem.W.Frag) (pre : List D → Own → KD → Prop) : Sp := fun vs H Q _ => ∃ G M ds P, RpL K G vs ds ∧ Sy K M G H ∧ pre ds M P ∧ Kt K G P Q
theorem be_call {pre : List D → Own → KD → Prop} {E : XK} {ta : TA} (h : BA K ta ρ M fun ds M1 => pre ds M1 P) : BE K (tCall (spB K pre) [] E ta) ρ M P := fun σ G H Q hs hy q =>
  h σ G H _ hs hy fun vs G1 H1 M1 ds e1 y1 r1 p => by
    show spB K pre (vs ++ []) H1 Q E
    rw [List.append_nil]
    exact ⟨G1, M1, ds, P, r1, y1, p, q.mono e1⟩

/-! ### tests -/
section
variable {P : Bool → Own → Prop} {t u : TT}
theorem bt_test (h : BE K te ρ M fun d M1 => ∃ b, d = .bl b ∧ P b M1) : BT K (tTest te) ρ M P := fun σ G H Q hs hy q =>
  h σ G H _ hs hy fun v G1 H1 M1 d e1 y1 r1 ⟨b, e, p⟩ => by
    subst e
    cases r1
    exact ⟨b, rfl, q b G1 H1 M1 e1 y1 p⟩
theorem bt_B (h : BE K te ρ M fun d M1 => ∃ b, d = .bl b ∧ P b M1) : BT K (tB te) ρ M P := fun σ G H Q hs hy q =>
  h σ G H _ hs hy fun v G1 H1 M1 d e1 y1 r1 ⟨b, e, p⟩ => by
    subst e
    cases r1
    exact ⟨b, rfl, q b G1 H1 M1 e1 y1 p⟩
theorem bt_not (h : BT K t ρ M fun b M1 => P (!b) M1) : BT K (tNot t) ρ M P := fun σ G H Q hs hy q =>
  h σ G H _ hs hy fun b G1 H1 M1 e1 y1 p => q (!b) G1 H1 M1 e1 y1 p
theorem bt_and (h : BT K t ρ M fun b M1 => if b = true then BT K u ρ M1 P else P false M1) : BT K (tAnd t u) ρ M P := fun σ G H Q hs hy q =>
  h σ G H _ hs hy fun b G1 H1 M1 e1 y1 p => by
    cases b with
    | true =>
      show u σ H1 Q
      exact p σ G1 H1 Q (hs.mono e1) y1 fun b G2 H2 M2 e2 y2 p2 => q b G2 H2 M2 (e1.trans e2) y2 p2
    | false =>
      show Q false H1
      exact q false G1 H1 M1 e1 y1 p
theorem bt_or (h : BT K t ρ M fun b M1 => if b = true then P true M1 else BT K u ρ M1 P) : BT K (tOr t u) ρ M P := fun σ G H Q hs hy q =>
  h σ G H _ hs hy fun b G1 H1 M1 e1 y1 p => by
    cases b with
    | true =>
      show Q true H1
      exact q true G1 H1 M1 e1 y1 p
    | false =>
      show u σ H1 Q
      exact p σ G1 H1 Q (hs.mono e1) y1 fun b G2 H2 M2 e2 y2 p2 => q b G2 H2 M2 (e1.trans e2) y2 p2
end
theorem be_if {t : TT} (h : BT K t ρ M fun b M1 => if b = true then BE K ta ρ M1 P else BE K tb ρ M1 P) : BE K (tIf t ta tb) ρ M P := fun σ G H Q hs hy q =>
  h σ G H _ hs hy fun b G1 H1 M1 e1 y1 p => by
    cases b with
    | true =>
      show ta σ H1 Q
      exact p σ G1 H1 Q (hs.mono e1) y1 (q.mono e1)
    | false =>
      show tb σ H1 Q
      exact p σ G1 H1 Q (hs.mono e1) y1 (q.mono e1)
theorem be_andV (h : BE K ta ρ M fun d M1 => ∃ b, d = .bl b ∧ if b = true then BE K tb ρ M1 P else P (.bl false) M1) : BE K (tAndV ta tb) ρ M P := fun σ G H Q hs hy q =>
  h σ G H _ hs hy fun v G1 H1 M1 d e1 y1 r1 ⟨b, e, p⟩ => by
    subst e
    cases r1
    refine ⟨b, rfl, ?_⟩
    cases b with
    | true =>
      show tb σ H1 Q
      exact p σ G1 H1 Q (hs.mono e1) y1 (q.mono e1)
    | false =>
      show Q (.bl false) H1
      exact (q.mono e1).go y1 (.bl _) p
theorem be_orV (h : BE K ta ρ M fun d M1 => ∃ b, d = .bl b ∧ if b = true then P (.bl true) M1 else BE K tb ρ M1 P) : BE K (tOrV ta tb) ρ M P := fun σ G H Q hs hy q =>
  h σ G H _ hs hy fun v G1 H1 M1 d e1 y1 r1 ⟨b, e, p⟩ => by
    subst e
    cases r1
    refine ⟨b, rfl, ?_⟩
    cases b with
    | true =>
      show Q (.bl true) H1
      exact (q.mono e1).go y1 (.bl _) p
    | false =>
      show tb σ H1 Q
      exact p σ G1 H1 Q (hs.mono e1) y1 (q.mono e1)
theorem be_notV (h : BE K ta ρ M fun d M1 => ∃ b, d = .bl b ∧ P (.bl (!b)) M1) : BE K (tNotV ta) ρ M P := fun σ G H Q hs hy q =>
  h σ G H _ hs hy fun v G1 H1 M1 d e1 y1 r1 ⟨b, e, p⟩ => by
    subst e
    cases r1
    exact ⟨b, rfl, (q.mono e1).go y1 (.bl _) p⟩
/-- a < b <= c -/
theorem be_chain {r r' : R2} (h : BE K ta ρ M fun dx M1 => BE K tb ρ M1 fun dy M2 => BR K r dx dy M2 fun dz M3 => ∃ b, dz = .bl b ∧ if b = true then BE K tc ρ M3 fun dw M4 => BR K r' dy dw M4 P else P (.bl false) M3) :
    BE K (tChain r r' ta tb tc) ρ M P := fun σ G H Q hs hy q =>
  h σ G H _ hs hy fun x G1 H1 M1 dx e1 y1 r1 h1 => h1 σ G1 H1 _ (hs.mono e1) y1 fun y G2 H2 M2 dy e2 y2 r2 h2 =>
    h2 x y G2 H2 _ (r1.mono e2) r2 y2 fun z G3 H3 M3 dz e3 y3 r3 ⟨b, e, p⟩ => by
      subst e
      cases r3
      refine ⟨b, rfl, ?_⟩
      cases b with
      | true =>
        show tc σ H3 _
        exact p σ G3 H3 _ (hs.mono ((e1.trans e2).trans e3)) y3 fun w G4 H4 M4 dw e4 y4 r4 h4 => h4 y w G4 H4 Q (r2.mono (e3.trans e4)) r4 y4 (q.mono (((e1.trans e2).trans e3).trans e4))
      | false =>
        show Q (.bl false) H3
        exact (q.mono ((e1.trans e2).trans e3)).go y3 (.bl _) p
end
end Pv

namespace Pv
open PySem PySem.Spec PyProof.Rows L2 Evl

/-! ### statements -/
abbrev KS := Env → Own → Prop
structure AE where
  nx : KS
  rt : KD
  bk : KS := fun _ _ => False
  ct : KS := fun _ _ => False
  ex : Value → Own → Prop := fun _ _ => False
def Ks (K : PySem.W.Frag) (G : Hp) (N : KS) (Q : L2.St → Hp → Prop) : Prop := ∀ σ' G' H' ρ' M', Ex G G' → Slots K G' σ' ρ' → Sy K M' G' H' → N ρ' M' → Q σ' H'
def Kx (K : PySem.W.Frag) (G : Hp) (R : Value → Own → Prop) (E : XK) : Prop := ∀ cls G' H' M', Ex G G' → Sy K M' G' H' → R cls M' → E cls none H'
structure EndsOk (K : PySem.W.Frag) (E : XK) (G : Hp) (A : AE) (De : Ends) : Prop where
  nx : Ks K G A.nx De.nx
  rt : Kt K G A.rt De.rt
  bk : Ks K G A.bk De.bk
  ct : Ks K G A.ct De.ct
  ex : Kx K G A.ex E
def BS (K : PySem.W.Frag) (E : XK) (ts : TS) (ρ : Env) (M : Own) (A : AE) : Prop := ∀ σ G H De, Slots K G σ ρ → Sy K M G H → EndsOk K E G A De → ts De σ H
def BG (K : PySem.W.Frag) (g : TG) (d : D) (ρ : Env) (M : Own) (N : KS) : Prop := ∀ v σ G H (Q : L2.St → Hp → Prop), Rp K G v d → Slots K G σ ρ → Sy K M G H → Ks K G N Q → g v σ H Q
def BGs (K : PySem.W.Frag) (g : TGs) (ds : List D) (ρ : Env) (M : Own) (N : KS) : Prop := ∀ vs σ G H (Q : L2.St → Hp → Prop), RpL K G vs ds → Slots K G σ ρ → Sy K M G H → Ks K G N Q → g vs σ H Q
section
variable {K : PySem.W.Frag} {E : XK} {ρ ρ' : Env} {M : Own} {A : AE} {N : KS} {ta tb tc te tl : TE} {t u : TS} {c : TT} {g : TG} {G G' H : Hp}
theorem Ks.mono {Q : L2.St → Hp → Prop} (e : Ex G G') (k : Ks K G N Q) : Ks K G' N Q := fun σ' G2 H' ρ' M' e2 s y p => k σ' G2 H' ρ' M' (e.trans e2) s y p
theorem Ks.go {Q : L2.St → Hp → Prop} {σ : L2.St} (k : Ks K G N Q) (s : Slots K G σ ρ) (y : Sy K M G H) (p : N ρ M) : Q σ H := k σ G H ρ M (Ex.refl G) s y p
theorem Kx.mono {R : Value → Own → Prop} (e : Ex G G') (k : Kx K G R E) : Kx K G' R E := fun cls G2 H' M' e2 y p => k cls G2 H' M' (e.trans e2) y p
theorem EndsOk.mono {De : Ends} (e : Ex G G') (k : EndsOk K E G A De) : EndsOk K E G' A De := ⟨k.nx.mono e, k.rt.mono e, k.bk.mono e, k.ct.mono e, k.ex.mono e⟩
theorem bs_seq (h : BS K E t ρ M { A with nx := fun ρ' M' => BS K E u ρ' M' A }) : BS K E (tSeq t u) ρ M A := fun σ G H De hs hy ok =>
  h σ G H { De with nx := u De } hs hy ⟨fun σ' G' H' ρ' M' e s y p => p σ' G' H' De s y (ok.mono e), ok.rt, ok.bk, ok.ct, ok.ex⟩
theorem bs_next (k : A.nx ρ M) : BS K E tNext ρ M A := fun σ G H De hs hy ok => ok.nx.go hs hy k
theorem bs_brk (k : A.bk ρ M) : BS K E tBreak ρ M A := fun σ G H De hs hy ok => ok.bk.go hs hy k
theorem bs_cont (k : A.ct ρ M) : BS K E tCont ρ M A := fun σ G H De hs hy ok => ok.ct.go hs hy k
theorem bs_asg (h : BE K te ρ M fun d M1 => BG K g d ρ M1 A.nx) : BS K E (tAsg te g) ρ M A := fun σ G H De hs hy ok =>
  h σ G H _ hs hy fun v G1 H1 M1 d e1 y1 r1 p => p v σ G1 H1 De.nx r1 (hs.mono e1) y1 (ok.nx.mono e1)
theorem bs_drop (h : BE K te ρ M fun _ M1 => A.nx ρ M1) : BS K E (tDrop te) ρ M A := fun σ G H De hs hy ok =>
  h σ G H _ hs hy fun v G1 H1 M1 d e1 y1 r1 p => ok.nx σ G1 H1 ρ M1 e1 (hs.mono e1) y1 p
theorem bs_ret (h : BE K te ρ M A.rt) : BS K E (tRet te) ρ M A := fun σ G H De hs hy ok => h σ G H _ hs hy ok.rt
theorem bs_retN (k : A.rt .non M) : BS K E tRetN ρ M A := fun σ G H De hs hy ok => ok.rt.go (v := .non) hy .non k
theorem bs_if (h : BT K c ρ M fun b M1 => if b = true then BS K E t ρ M1 A else BS K E u ρ M1 A) : BS K E (tIfS c t u) ρ M A := fun σ G H De hs hy ok =>
  h σ G H _ hs hy fun b G1 H1 M1 e1 y1 p => by
    cases b with
    | true =>
      show t De σ H1
      exact p σ G1 H1 De (hs.mono e1) y1 (ok.mono e1)
    | false =>
      show u De σ H1
      exact p σ G1 H1 De (hs.mono e1) y1 (ok.mono e1)
theorem bs_aug {i : Nat} {f : Int → Int → Int} {a : Int} (hx : ρ[i]? = some (some (.int a))) (h : BE K te ρ M fun d M1 => ∃ b, d = .int b ∧ A.nx (ρ.set i (some (.int (f a b)))) M1) : BS K E (tAug i te (ipI f)) ρ M A := fun σ G H De hs hy ok => by
  obtain ⟨v, h1, h2⟩ := hs.get hx
  cases h2
  exact ⟨.int a, h1, h σ G H _ hs hy fun w G1 H1 M1 d e1 y1 r1 ⟨b, e, p⟩ => by
    subst e
    cases r1
    exact ⟨a, b, rfl, rfl, ok.nx _ G1 H1 _ M1 e1 ((hs.mono e1).set (.int _) i) y1 p⟩⟩
theorem bs_raise {cls : Value} (k : A.ex cls M) : BS K E (fun _ _ H => E cls none H) ρ M A := fun σ G H De hs hy ok => ok.ex cls G H M (Ex.refl G) hy k
theorem bs_par {i j : Nat} {ta : TA} (h : BA K ta ρ M fun ds M1 => ∃ d e, ds = [d, e] ∧ A.nx ((ρ.set i (some d)).set j (some e)) M1) : BS K E (tPar i j ta) ρ M A := fun σ G H De hs hy ok =>
  h σ G H _ hs hy fun vs G1 H1 M1 ds e1 y1 r1 ⟨d, e, z, p⟩ => by
    subst z
    obtain ⟨v, w, rfl, rv, rw'⟩ := r1.two_inv
    exact ⟨v, w, rfl, ok.nx _ G1 H1 _ M1 e1 (((hs.mono e1).set rv i).set rw' j) y1 p⟩
theorem bs_par3 {i j l : Nat} {ta : TA} (h : BA K ta ρ M fun ds M1 => ∃ d e f, ds = [d, e, f] ∧ A.nx (((ρ.set i (some d)).set j (some e)).set l (some f)) M1) : BS K E (tPar3 i j l ta) ρ M A := fun σ G H De hs hy ok =>
  h σ G H _ hs hy fun vs G1 H1 M1 ds e1 y1 r1 ⟨d, e, f, z, p⟩ => by
    subst z
    cases r1 with
    | cons r1 r2 =>
      obtain ⟨v, w, rfl, rv, rw'⟩ := r2.two_inv
      exact ⟨_, v, w, rfl, ok.nx _ G1 H1 _ M1 e1 ((((hs.mono e1).set r1 i).set rv j).set rw' l) y1 p⟩
/-- slots forgotten, owned things forgotten -/
theorem bs_le (l : Le ρ ρ') (h : BS K E t ρ' M A) : BS K E t ρ M A := fun σ G H De hs hy ok => h σ G H De (hs.le l) hy ok
theorem bs_sub {M' : Own} (l : M'.Sublist M) (h : BS K E t ρ M' A) : BS K E t ρ M A := fun σ G H De hs hy ok => h σ G H De hs (hy.sub l) ok
theorem bs_imp {A' : AE} (h : BS K E t ρ M A') (i1 : ∀ ρ M, A'.nx ρ M → A.nx ρ M) (i2 : ∀ d M, A'.rt d M → A.rt d M) (i3 : ∀ ρ M, A'.bk ρ M → A.bk ρ M) (i4 : ∀ ρ M, A'.ct ρ M → A.ct ρ M) (i5 : ∀ d M, A'.ex d M → A.ex d M) : BS K E t ρ M A := fun σ G H De hs hy ok =>
  h σ G H De hs hy ⟨fun σ' G' H' ρ' M' e s y p => ok.nx σ' G' H' ρ' M' e s y (i1 _ _ p), fun v G' H' M' d e y r p => ok.rt v G' H' M' d e y r (i2 _ _ p), fun σ' G' H' ρ' M' e s y p => ok.bk σ' G' H' ρ' M' e s y (i3 _ _ p),
    fun σ' G' H' ρ' M' e s y p => ok.ct σ' G' H' ρ' M' e s y (i4 _ _ p), fun cls G' H' M' e y p => ok.ex cls G' H' M' e y (i5 _ _ p)⟩
/-- an owned list is frozen: the slot i that names it holds its data from here on -/
inductive Frz (a : Addr) (ds : List D) : Env → Env → Prop
  | nil : Frz a ds [] []
  | here {x y : Env} : Frz a ds x y → Frz a ds (some (.raw (.ref a)) :: x) (some (.lst ds) :: y)
  | keep {o : Option D} {x y : Env} : Frz a ds x y → Frz a ds (o :: x) (o :: y)
theorem Slots.frz {a : Addr} {ds : List D} (r : Rp K G (.ref a) (.lst ds)) : ∀ {σ : L2.St} {x y : Env}, Slots K G σ x → Frz a ds x y → Slots K G σ y
  | _, _, _, h, .nil => h
  | _, _, _, .val q t, .here f => by
    cases q
    exact .val r (Slots.frz r t f)
  | _, _, _, .any t, .keep f => .any (Slots.frz r t f)
  | _, _, _, .val q t, .keep f => .val q (Slots.frz r t f)
theorem bs_freeze {k : Nat} {a : Addr} {ds : List D} (hk : M[k]? = some (a, .lst ds)) (f : Frz a ds ρ ρ') (h : BS K E t ρ' (M.eraseIdx k) A) : BS K E t ρ M A := fun σ G H De hs hy ok => by
  obtain ⟨G', e, y, r⟩ := hy.freeze hk
  exact h σ G' H De ((hs.mono e).frz r f) y (ok.mono e)
/-- what is wanted behind is shown by a middle word -/
theorem bs_mid {A' : AE} (h : BS K E t ρ M A') (i1 : ∀ ρ' M', A'.nx ρ' M' → BS K E u ρ' M' A) (i2 : ∀ d M, A'.rt d M → A.rt d M) (i3 : ∀ ρ M, A'.bk ρ M → A.bk ρ M) (i4 : ∀ ρ M, A'.ct ρ M → A.ct ρ M) (i5 : ∀ d M, A'.ex d M → A.ex d M) : BS K E (tSeq t u) ρ M A :=
  bs_seq (bs_imp h i1 i2 i3 i4 i5)

/-! ### targets -/
theorem bg_name {i : Nat} {d : D} (k : N (ρ.set i (some d)) M) : BG K (gName i) d ρ M N := fun v σ G H Q r hs hy q => q.go (hs.set r i) hy k
theorem bgs_nil (k : N ρ M) : BGs K gNil [] ρ M N := fun vs σ G H Q r hs hy q => by
  cases r
  exact ⟨rfl, q.go hs hy k⟩
theorem bgs_cons {gs : TGs} {d : D} {ds : List D} (h : BG K g d ρ M fun ρ' M' => BGs K gs ds ρ' M' N) : BGs K (gCons g gs) (d :: ds) ρ M N := fun vs σ G H Q r hs hy q => by
  cases r with
  | cons r1 r2 => exact ⟨_, _, rfl, h _ σ G H _ r1 hs hy fun σ' G' H' ρ' M' e s y p => p _ σ' G' H' Q (r2.mono e) s y (q.mono e)⟩
theorem bg_tup {n : Nat} {gs : TGs} {ds : List D} (hl : ds.length = n) (h : BGs K gs ds ρ M N) : BG K (gTup K n gs) (.tup ds) ρ M N := fun v σ G H Q r hs hy q => by
  obtain ⟨a, xs, rfl, h1, h2⟩ := tup_at r hy
  exact ⟨a, xs, rfl, h1, h2.length.trans hl, h xs σ G H Q h2 hs hy q⟩
theorem bg_setL {to ti : TE} {d : D} (h : BE K to ρ M fun dO M1 => BE K ti ρ M1 fun di M2 => ∃ k a ds i j, dO = .raw (.ref a) ∧ di = .int i ∧ M2[k]? = some (a, .lst ds) ∧ ixN ds.length i = some j ∧ N ρ (M2.set k (a, .lst (ds.set j d)))) :
    BG K (gSub to ti rSetL) d ρ M N := fun v σ G H Q r hs hy q =>
  h σ G H _ hs hy fun o G1 H1 M1 dO e1 y1 r1 h1 => h1 σ G1 H1 _ (hs.mono e1) y1 fun iv G2 H2 M2 di e2 y2 r2 ⟨k, a, ds, i, j, z1, z2, hk, hj, p⟩ => by
    subst z1
    subst z2
    cases r1
    cases r2
    obtain ⟨xs, hx, rx⟩ := y2.getL hk
    exact ⟨a, xs, i, j, rfl, rfl, hx, by rw [rx.length]; exact hj, q σ G2 _ ρ _ (e1.trans e2) (hs.mono (e1.trans e2)) (y2.putL hk (rx.set (r.mono (e1.trans e2)) j)) p⟩

/-! ### loops -/
/-- for over the list at d: Iv by the turn -/
def ForL (K : PySem.W.Frag) (E : XK) (d : D) (ρ : Env) (M : Own) (g : TG) (t : TS) (A : AE) : Prop := ∃ ds, IsSL M d ds ∧ ∃ Iv : Nat → KS, Iv 0 ρ M ∧ (∀ i ρ' M', Iv i ρ' M' → IsSL M' d ds) ∧
  (∀ i x ρ' M', ds[i]? = some x → Iv i ρ' M' → BG K g x ρ' M' fun ρ2 M2 => BS K E t ρ2 M2 { A with nx := Iv (i + 1), bk := A.nx, ct := Iv (i + 1) }) ∧ (∀ ρ' M', Iv ds.length ρ' M' → A.nx ρ' M')
theorem bs_forL (h : BE K tl ρ M fun d M1 => ForL K E d ρ M1 g t A) : BS K E (tFor (iList K tl) g t) ρ M A := fun σ G H De hs hy ok =>
  h σ G H _ hs hy fun v G1 H1 M1 d e1 y1 r1 ⟨ds, hd, Iv, i0, ik, it, ie⟩ => by
    obtain ⟨a, xs, rfl, hx, rx⟩ := hd.at r1 y1
    refine ⟨a, rfl, ⟨xs, hx⟩, fun i m σ' H' => m = ds.length - i ∧ i ≤ ds.length ∧ ∃ G' ρ' M', Ex G1 G' ∧ Slots K G' σ' ρ' ∧ Sy K M' G' H' ∧ Iv i ρ' M', ⟨ds.length, by simp, Nat.zero_le _, G1, ρ, M1, Ex.refl G1, hs.mono e1, y1, i0⟩, ?_⟩
    rintro i m σ' H' ⟨rfl, hi, G', ρ', M', e', s', y', p⟩
    obtain ⟨a', xs', z, hx', rx'⟩ := (ik i ρ' M' p).at (r1.mono e') y'
    cases z
    by_cases hlt : i < ds.length
    · have hg : ds[i]? = some ds[i] := List.getElem?_eq_getElem hlt
      obtain ⟨x, q1, q2⟩ := rx'.get hg
      refine .inr ⟨⟨xs', x, hx', q1⟩, fun σ2 H2 => ∃ G2 ρ2 M2, Ex G1 G2 ∧ Slots K G2 σ2 ρ2 ∧ Sy K M2 G2 H2 ∧ Iv (i + 1) ρ2 M2, fun σ2 H2 w => ⟨ds.length - (i + 1), by omega, rfl, hlt, w⟩, fun y H2 hyl => ?_⟩
      obtain ⟨ey, hyl⟩ := hyl
      subst ey
      have exy : x = y := Option.some.inj (q1.symm.trans (hyl xs' hx'))
      subst exy
      refine it i _ ρ' M' hg p x σ' G' H2 _ q2 s' y' fun σ2 G2 H2 ρ2 M2 e2 s2 y2 b2 => b2 σ2 G2 H2 _ s2 y2 ?_
      exact ⟨fun σ3 G3 H3 ρ3 M3 e3 s3 y3 p3 => ⟨G3, ρ3, M3, (e'.trans e2).trans e3, s3, y3, p3⟩, ok.rt.mono ((e1.trans e').trans e2), ok.nx.mono ((e1.trans e').trans e2),
        fun σ3 G3 H3 ρ3 M3 e3 s3 y3 p3 => ⟨G3, ρ3, M3, (e'.trans e2).trans e3, s3, y3, p3⟩, ok.ex.mono ((e1.trans e').trans e2)⟩
    · have ei : i = ds.length := by omega
      subst ei
      exact .inl ⟨⟨xs', hx', by rw [rx'.length]; exact Nat.le_refl _⟩, ok.nx σ' G' H' ρ' M' (e1.trans e') s' y' (ie ρ' M' p)⟩
/-- for over a range: lo, lo + 1, .. (n turns) -/
def ForR (K : PySem.W.Frag) (E : XK) (lo : Int) (n : Nat) (ρ : Env) (M : Own) (g : TG) (t : TS) (A : AE) : Prop := ∃ Iv : Nat → KS, Iv 0 ρ M ∧
  (∀ (i : Nat) ρ' M', i < n → Iv i ρ' M' → BG K g (.int (lo + i)) ρ' M' fun ρ2 M2 => BS K E t ρ2 M2 { A with nx := Iv (i + 1), bk := A.nx, ct := Iv (i + 1) }) ∧ (∀ ρ' M', Iv n ρ' M' → A.nx ρ' M')
theorem for_itr {lo : Int} {n : Nat} {σ : L2.St} {De : Ends} (hs : Slots K G σ ρ) (hy : Sy K M G H) (ok : EndsOk K E G A De) (h : ForR K E lo n ρ M g t A) :
    ∃ W : Nat → Nat → L2.St → Hp → Prop, (∃ m, W 0 m σ H) ∧ ∀ i m σ H, W i m σ H →
      ((Itr lo n).stop i H ∧ De.nx σ H) ∨ ((Itr lo n).go i H ∧ ∃ N : L2.St → Hp → Prop, (∀ σ' H', N σ' H' → ∃ m', m' < m ∧ W (i + 1) m' σ' H') ∧ ∀ x H', (Itr lo n).yld i H x H' → g x σ H' fun σ2 H2 => t { De with nx := N, ct := N, bk := De.nx } σ2 H2) := by
  obtain ⟨Iv, i0, it, ie⟩ := h
  refine ⟨fun i m σ' H' => m = n - i ∧ i ≤ n ∧ ∃ G' ρ' M', Ex G G' ∧ Slots K G' σ' ρ' ∧ Sy K M' G' H' ∧ Iv i ρ' M', ⟨n, by simp, Nat.zero_le _, G, ρ, M, Ex.refl G, hs, hy, i0⟩, ?_⟩
  rintro i m σ' H' ⟨rfl, hi, G', ρ', M', e', s', y', p⟩
  by_cases hlt : i < n
  · refine .inr ⟨hlt, fun σ2 H2 => ∃ G2 ρ2 M2, Ex G G2 ∧ Slots K G2 σ2 ρ2 ∧ Sy K M2 G2 H2 ∧ Iv (i + 1) ρ2 M2, fun σ2 H2 w => ⟨n - (i + 1), by omega, rfl, hlt, w⟩, fun y H2 hyl => ?_⟩
    obtain ⟨ey, hyl⟩ := hyl
    subst ey
    subst hyl
    refine it i ρ' M' hlt p (.int (lo + i)) σ' G' _ _ (.int _) s' y' fun σ2 G2 H2 ρ2 M2 e2 s2 y2 b2 => b2 σ2 G2 H2 _ s2 y2 ?_
    exact ⟨fun σ3 G3 H3 ρ3 M3 e3 s3 y3 p3 => ⟨G3, ρ3, M3, (e'.trans e2).trans e3, s3, y3, p3⟩, ok.rt.mono (e'.trans e2), ok.nx.mono (e'.trans e2),
      fun σ3 G3 H3 ρ3 M3 e3 s3 y3 p3 => ⟨G3, ρ3, M3, (e'.trans e2).trans e3, s3, y3, p3⟩, ok.ex.mono (e'.trans e2)⟩
  · have ei : i = n := by omega
    subst ei
    exact .inl ⟨Nat.le_refl _, ok.nx σ' G' H' ρ' M' e' s' y' (ie ρ' M' p)⟩
theorem bs_forR1 {ta : TA} (h : BA K ta ρ M fun ds M1 => ∃ n : Int, ds = [.int n] ∧ -(2 ^ 62) ≤ n ∧ n < 2 ^ 62 ∧ ForR K E 0 n.toNat ρ M1 g t A) : BS K E (tFor (iRng1 ta) g t) ρ M A := fun σ G H De hs hy ok =>
  h σ G H _ hs hy fun vs G1 H1 M1 ds e1 y1 r1 ⟨n, z, b1, b2, w⟩ => by
    subst z
    obtain ⟨v, rfl, rv⟩ := r1.one_inv
    cases rv
    exact ⟨n, rfl, b1, b2, for_itr (hs.mono e1) y1 (ok.mono e1) w⟩
theorem bs_forR2 {ta : TA} (h : BA K ta ρ M fun ds M1 => ∃ lo n : Int, ds = [.int lo, .int n] ∧ (-(2 ^ 62) ≤ lo ∧ lo < 2 ^ 62 ∧ -(2 ^ 62) ≤ n ∧ n < 2 ^ 62) ∧ ForR K E lo (n - lo).toNat ρ M1 g t A) : BS K E (tFor (iRng2 ta) g t) ρ M A := fun σ G H De hs hy ok =>
  h σ G H _ hs hy fun vs G1 H1 M1 ds e1 y1 r1 ⟨lo, n, z, b, w⟩ => by
    subst z
    obtain ⟨v, v', rfl, rv, rv'⟩ := r1.two_inv
    cases rv
    cases rv'
    exact ⟨lo, n, rfl, b, for_itr (hs.mono e1) y1 (ok.mono e1) w⟩
/-- for i, x in enumerate(list at d) -/
def ForE (K : PySem.W.Frag) (E : XK) (d : D) (ρ : Env) (M : Own) (g : TG) (t : TS) (A : AE) : Prop := ∃ ds, IsSL M d ds ∧ ∃ Iv : Nat → KS, Iv 0 ρ M ∧ (∀ i ρ' M', Iv i ρ' M' → IsSL M' d ds) ∧
  (∀ (i : Nat) x ρ' M', ds[i]? = some x → Iv i ρ' M' → BG K g (.tup [.int i, x]) ρ' M' fun ρ2 M2 => BS K E t ρ2 M2 { A with nx := Iv (i + 1), bk := A.nx, ct := Iv (i + 1) }) ∧ (∀ ρ' M', Iv ds.length ρ' M' → A.nx ρ' M')
theorem bs_forE {ta : TA} (h : BA K ta ρ M fun vs M1 => ∃ d, vs = [d] ∧ ForE K E d ρ M1 g t A) : BS K E (tFor (iEnum K ta) g t) ρ M A := fun σ G H De hs hy ok =>
  h σ G H _ hs hy fun vs G1 H1 M1 dz e1 y1 r1 ⟨d, z, ds, hd, Iv, i0, ik, it, ie⟩ => by
    subst z
    obtain ⟨v, rfl, r1v⟩ := r1.one_inv
    obtain ⟨a, xs, rfl, hx, rx⟩ := hd.at r1v y1
    refine ⟨a, xs, rfl, hx, fun i m σ' H' => m = ds.length - i ∧ i ≤ ds.length ∧ ∃ G' ρ' M', Ex G1 G' ∧ Slots K G' σ' ρ' ∧ Sy K M' G' H' ∧ Iv i ρ' M', ⟨ds.length, by simp, Nat.zero_le _, G1, ρ, M1, Ex.refl G1, hs.mono e1, y1, i0⟩, ?_⟩
    rintro i m σ' H' ⟨rfl, hi, G', ρ', M', e', s', y', p⟩
    obtain ⟨a', xs', z, hx', rx'⟩ := (ik i ρ' M' p).at (r1v.mono e') y'
    cases z
    by_cases hlt : i < ds.length
    · have hg : ds[i]? = some ds[i] := List.getElem?_eq_getElem hlt
      obtain ⟨x, q1, q2⟩ := rx'.get hg
      refine .inr ⟨⟨xs', x, hx', q1⟩, fun σ2 H2 => ∃ G2 ρ2 M2, Ex G1 G2 ∧ Slots K G2 σ2 ρ2 ∧ Sy K M2 G2 H2 ∧ Iv (i + 1) ρ2 M2, fun σ2 H2 w => ⟨ds.length - (i + 1), by omega, rfl, hlt, w⟩, fun y H2 hyl => ?_⟩
      obtain ⟨T, x2, rfl, nT, rfl, hyl⟩ := hyl
      have exy : x = x2 := Option.some.inj (q1.symm.trans (hyl xs' hx'))
      subst exy
      have eT : Ex G' (upd G' T (.tup [.int (i : Nat), x])) := exG (y'.free nT)
      refine it i _ ρ' M' hg p (.ref T) σ' _ _ _ (.tup (st_of upd_same) (.cons (.int _) (.one (q2.mono eT)))) (s'.mono eT) (y'.laid nT _) fun σ2 G2 H2 ρ2 M2 e2 s2 y2 b2 => b2 σ2 G2 H2 _ s2 y2 ?_
      exact ⟨fun σ3 G3 H3 ρ3 M3 e3 s3 y3 p3 => ⟨G3, ρ3, M3, ((e'.trans eT).trans e2).trans e3, s3, y3, p3⟩, ok.rt.mono (((e1.trans e').trans eT).trans e2), ok.nx.mono (((e1.trans e').trans eT).trans e2),
        fun σ3 G3 H3 ρ3 M3 e3 s3 y3 p3 => ⟨G3, ρ3, M3, ((e'.trans eT).trans e2).trans e3, s3, y3, p3⟩, ok.ex.mono (((e1.trans e').trans eT).trans e2)⟩
    · have ei : i = ds.length := by omega
      subst ei
      exact .inl ⟨⟨xs', hx', by rw [rx'.length]; exact Nat.le_refl _⟩, ok.nx σ' G' H' ρ' M' (e1.trans e') s' y' (ie ρ' M' p)⟩
/-- for x in reversed(list at d) -/
def ForV (K : PySem.W.Frag) (E : XK) (d : D) (ρ : Env) (M : Own) (g : TG) (t : TS) (A : AE) : Prop := ∃ ds, IsSL M d ds ∧ ∃ Iv : Nat → KS, Iv 0 ρ M ∧ (∀ i ρ' M', Iv i ρ' M' → IsSL M' d ds) ∧
  (∀ (i : Nat) x ρ' M', i < ds.length → ds[ds.length - 1 - i]? = some x → Iv i ρ' M' → BG K g x ρ' M' fun ρ2 M2 => BS K E t ρ2 M2 { A with nx := Iv (i + 1), bk := A.nx, ct := Iv (i + 1) }) ∧ (∀ ρ' M', Iv ds.length ρ' M' → A.nx ρ' M')
theorem bs_forV {ta : TA} (h : BA K ta ρ M fun vs M1 => ∃ d, vs = [d] ∧ ForV K E d ρ M1 g t A) : BS K E (tFor (iRev K ta) g t) ρ M A := fun σ G H De hs hy ok =>
  h σ G H _ hs hy fun vs G1 H1 M1 dz e1 y1 r1 ⟨d, z, ds, hd, Iv, i0, ik, it, ie⟩ => by
    subst z
    obtain ⟨v, rfl, r1v⟩ := r1.one_inv
    obtain ⟨a, xs, rfl, hx, rx⟩ := hd.at r1v y1
    refine ⟨a, xs, rfl, hx, ?_⟩
    rw [rx.length]
    refine ⟨fun i m σ' H' => m = ds.length - i ∧ i ≤ ds.length ∧ ∃ G' ρ' M', Ex G1 G' ∧ Slots K G' σ' ρ' ∧ Sy K M' G' H' ∧ Iv i ρ' M', ⟨ds.length, by simp, Nat.zero_le _, G1, ρ, M1, Ex.refl G1, hs.mono e1, y1, i0⟩, ?_⟩
    rintro i m σ' H' ⟨rfl, hi, G', ρ', M', e', s', y', p⟩
    obtain ⟨a', xs', z, hx', rx'⟩ := (ik i ρ' M' p).at (r1v.mono e') y'
    cases z
    by_cases hlt : i < ds.length
    · have hlt' : ds.length - 1 - i < ds.length := by omega
      have hg : ds[ds.length - 1 - i]? = some ds[ds.length - 1 - i] := List.getElem?_eq_getElem hlt'
      obtain ⟨x, q1, q2⟩ := rx'.get hg
      refine .inr ⟨⟨hlt, xs', x, hx', q1⟩, fun σ2 H2 => ∃ G2 ρ2 M2, Ex G1 G2 ∧ Slots K G2 σ2 ρ2 ∧ Sy K M2 G2 H2 ∧ Iv (i + 1) ρ2 M2, fun σ2 H2 w => ⟨ds.length - (i + 1), by omega, rfl, hlt, w⟩, fun y H2 hyl => ?_⟩
      obtain ⟨ey, hyl⟩ := hyl
      subst ey
      have exy : x = y := Option.some.inj (q1.symm.trans (hyl xs' hx'))
      subst exy
      refine it i _ ρ' M' hlt hg p x σ' G' H2 _ q2 s' y' fun σ2 G2 H2 ρ2 M2 e2 s2 y2 b2 => b2 σ2 G2 H2 _ s2 y2 ?_
      exact ⟨fun σ3 G3 H3 ρ3 M3 e3 s3 y3 p3 => ⟨G3, ρ3, M3, (e'.trans e2).trans e3, s3, y3, p3⟩, ok.rt.mono ((e1.trans e').trans e2), ok.nx.mono ((e1.trans e').trans e2),
        fun σ3 G3 H3 ρ3 M3 e3 s3 y3 p3 => ⟨G3, ρ3, M3, (e'.trans e2).trans e3, s3, y3, p3⟩, ok.ex.mono ((e1.trans e').trans e2)⟩
    · have ei : i = ds.length := by omega
      subst ei
      exact .inl ⟨Nat.le_refl _, ok.nx σ' G' H' ρ' M' (e1.trans e') s' y' (ie ρ' M' p)⟩
/-- while, by a word with a measure -/
theorem bs_while (Iv : Nat → KS) (m0 : Nat) (i0 : Iv m0 ρ M) (it : ∀ m ρ' M', Iv m ρ' M' → BT K c ρ' M' fun b M1 => if b = true then BS K E t ρ' M1 { A with nx := fun ρ2 M2 => ∃ m', m' < m ∧ Iv m' ρ2 M2, bk := A.nx, ct := fun ρ2 M2 => ∃ m', m' < m ∧ Iv m' ρ2 M2 } else A.nx ρ' M1) :
    BS K E (tWhile c t) ρ M A := fun σ G H De hs hy ok => by
  refine ⟨fun m σ' H' => ∃ G' ρ' M', Ex G G' ∧ Slots K G' σ' ρ' ∧ Sy K M' G' H' ∧ Iv m ρ' M', ⟨m0, G, ρ, M, Ex.refl G, hs, hy, i0⟩, ?_⟩
  rintro m σ' H' ⟨G', ρ', M', e', s', y', p⟩
  refine it m ρ' M' p σ' G' H' _ s' y' fun b G1 H1 M1 e1 y1 q => ?_
  cases b with
  | true =>
    refine ⟨fun σ2 H2 => ∃ m', m' < m ∧ ∃ G2 ρ2 M2, Ex G G2 ∧ Slots K G2 σ2 ρ2 ∧ Sy K M2 G2 H2 ∧ Iv m' ρ2 M2, fun σ2 H2 w => w, ?_⟩
    refine q σ' G1 H1 _ (s'.mono e1) y1 ?_
    exact ⟨fun σ3 G3 H3 ρ3 M3 e3 s3 y3 ⟨m', hm, p3⟩ => ⟨m', hm, G3, ρ3, M3, (e'.trans e1).trans e3, s3, y3, p3⟩, ok.rt.mono (e'.trans e1), ok.nx.mono (e'.trans e1),
      fun σ3 G3 H3 ρ3 M3 e3 s3 y3 ⟨m', hm, p3⟩ => ⟨m', hm, G3, ρ3, M3, (e'.trans e1).trans e3, s3, y3, p3⟩, ok.ex.mono (e'.trans e1)⟩
  | false => exact ok.nx σ' G1 H1 ρ' M1 (e'.trans e1) (s'.mono e1) y1 q
end

/-! ### a def -/
section
variable {P : Program} {w : World} {K : PySem.W.Frag} {mg : Str → Option Value} {base : Heap}
theorem fnB {x qual : Str} {st : Stmt} {f : Addr} {fd : FuncData} {N ps : List Str} {k : Nat} {pre : List D → Own → KD → Prop} (F : Fun K x qual st f fd) (S : FnScope N ps (defScope st)) (len : ∀ ds M P, pre ds M P → ds.length = ps.length)
    (body : ∀ (cdv : Value) (A : Around) (outer : List PySem.Env) (s : Shared) (H : Hp) (E : XK), Room k (A.deeper (envOfC qual (defScope st) s.heap.objs.size f cdv)) →
      ∃ t, PSs (cxOf CX0 P w K mg base N qual (defScope st) f cdv A outer s H E).nox (defBody st) t ∧ ∀ ds M P, pre ds M P → BS K E t (startE N.length ds) M { nx := fun _ M' => P .non M', rt := P }) :
    FnOk P w K mg base CX0 (k + 1) f fd ps (spB K pre) := by
  refine F.ok S (fun vs H Q E h => ?_) (fun cdv A outer s H vs Q E hr h => ?_)
  · obtain ⟨G, M, ds, P, r, y, p, q⟩ := h
    rw [r.length]
    exact len ds M P p
  · obtain ⟨G, M, ds, P, r, y, p, q⟩ := h
    obtain ⟨t, h1, h2⟩ := body cdv A outer s H E hr
    refine ⟨t, h1, h2 ds M P p (start N vs) G H _ (Slots.start r) y ⟨fun σ' G' H' ρ' M' e _ y' p' => q .non G' H' M' .non e y' .non p', q, fun _ _ _ _ _ _ _ _ z => z.elim, fun _ _ _ _ _ _ _ _ z => z.elim, fun _ _ _ _ _ _ z => z.elim⟩⟩
/-- a def that may raise: R tells what is raised -/
def spX (K : PySem.W.Frag) (pre : List D → Own → KD → (Value → Own → Prop) → Prop) : Sp := fun vs H Q E => ∃ G M ds P R, RpL K G vs ds ∧ Sy K M G H ∧ pre ds M P R ∧ Kt K G P Q ∧ Kx K G R E
theorem fnX {x qual : Str} {st : Stmt} {f : Addr} {fd : FuncData} {N ps : List Str} {k : Nat} {pre : List D → Own → KD → (Value → Own → Prop) → Prop} (F : Fun K x qual st f fd) (S : FnScope N ps (defScope st)) (len : ∀ ds M P R, pre ds M P R → ds.length = ps.length)
    (body : ∀ (cdv : Value) (A : Around) (outer : List PySem.Env) (s : Shared) (H : Hp) (E : XK), Room k (A.deeper (envOfC qual (defScope st) s.heap.objs.size f cdv)) →
      ∃ t, PSs (cxOf (L2.CX P w) P w K mg base N qual (defScope st) f cdv A outer s H E) (defBody st) t ∧ ∀ ds M P R, pre ds M P R → BS K E t (startE N.length ds) M { nx := fun _ M' => P .non M', rt := P, ex := R }) :
    FnOk P w K mg base (L2.CX P w) (k + 1) f fd ps (spX K pre) := by
  refine F.okX S (fun vs H Q E h => ?_) (fun cdv A outer s H vs Q E hr h => ?_)
  · obtain ⟨G, M, ds, P, R, r, y, p, q⟩ := h
    rw [r.length]
    exact len ds M P R p
  · obtain ⟨G, M, ds, P, R, r, y, p, q, x⟩ := h
    obtain ⟨t, h1, h2⟩ := body cdv A outer s H E hr
    exact ⟨t, h1, h2 ds M P R p (start N vs) G H _ (Slots.start r) y ⟨fun σ' G' H' ρ' M' e _ y' p' => q .non G' H' M' .non e y' .non p', q, fun _ _ _ _ _ _ _ _ z => z.elim, fun _ _ _ _ _ _ _ _ z => z.elim, x⟩⟩
end
/-! ### calls that may raise, as statements -/
section
variable {K : PySem.W.Frag} {E : XK} {ρ : Env} {M : Own} {A : AE} {g : TG} {ta : TA} {pre : List D → Own → KD → (Value → Own → Prop) → Prop}
theorem bx_drop (h : BA K ta ρ M fun ds M1 => pre ds M1 (fun _ M2 => A.nx ρ M2) A.ex) : BS K E (tDrop (tCall (spX K pre) [] E ta)) ρ M A := fun σ G H De hs hy ok =>
  h σ G H _ hs hy fun vs G1 H1 M1 ds e1 y1 r1 p => by
    show spX K pre (vs ++ []) H1 _ E
    rw [List.append_nil]
    exact ⟨G1, M1, ds, _, _, r1, y1, p, fun v G2 H2 M2 d e2 y2 r2 p2 => ok.nx σ G2 H2 ρ M2 (e1.trans e2) (hs.mono (e1.trans e2)) y2 p2, ok.ex.mono e1⟩
theorem bx_ret (h : BA K ta ρ M fun ds M1 => pre ds M1 A.rt A.ex) : BS K E (tRet (tCall (spX K pre) [] E ta)) ρ M A := fun σ G H De hs hy ok =>
  h σ G H _ hs hy fun vs G1 H1 M1 ds e1 y1 r1 p => by
    show spX K pre (vs ++ []) H1 _ E
    rw [List.append_nil]
    exact ⟨G1, M1, ds, _, _, r1, y1, p, ok.rt.mono e1, ok.ex.mono e1⟩
theorem bx_asg (h : BA K ta ρ M fun ds M1 => pre ds M1 (fun d M2 => BG K g d ρ M2 A.nx) A.ex) : BS K E (tAsg (tCall (spX K pre) [] E ta) g) ρ M A := fun σ G H De hs hy ok =>
  h σ G H _ hs hy fun vs G1 H1 M1 ds e1 y1 r1 p => by
    show spX K pre (vs ++ []) H1 _ E
    rw [List.append_nil]
    exact ⟨G1, M1, ds, _, _, r1, y1, p, fun v G2 H2 M2 d e2 y2 r2 p2 => p2 v σ G2 H2 De.nx r2 (hs.mono (e1.trans e2)) y2 (ok.nx.mono (e1.trans e2)), ok.ex.mono e1⟩
end
end Pv

namespace Pv
open PySem PySem.Spec PyProof.Rows L2 Evl
section
variable {K : PySem.W.Frag} {E : XK} {ρ : Env} {M : Own} {P : KD} {A : AE} {ta tb tc te tl to : TE} {G G' H : Hp} {Q : VK}

/-! ### sequences: +, *, slices, in -/
theorem br_cat {dx dy : D} {ds es : List D} (h1 : IsL M dx ds) (h2 : IsL M dy es) (hz : ds.length + es.length ≤ sizeLine) (k : ∀ p, p ∉ keysO M → P (.raw (.ref p)) ((p, .lst (ds ++ es)) :: M)) : BR K rCat dx dy M P := fun x y G H Q r1 r2 hy q => by
  obtain ⟨a, xs, rfl, a1, a2⟩ := h1.at r1 hy
  obtain ⟨b, ys, rfl, b1, b2⟩ := h2.at r2 hy
  exact ⟨a, b, xs, ys, rfl, rfl, a1, b1, by rw [a2.length, b2.length]; exact hz, fun p n => q.newL hy n (a2.append b2) k⟩
theorem br_catT {ds es : List D} (hz : ds.length + es.length ≤ sizeLine) (k : P (.tup (ds ++ es)) M) : BR K (rCatA K) (.tup ds) (.tup es) M P := fun x y G H Q r1 r2 hy q => by
  obtain ⟨a, xs, rfl, a1, a2⟩ := tup_at r1 hy
  obtain ⟨b, ys, rfl, b1, b2⟩ := tup_at r2 hy
  refine ⟨a, b, xs, ys, rfl, rfl, a1, b1, by rw [a2.length, b2.length]; exact hz, fun e => ?_, fun _ e => ?_, fun _ _ p n => ?_⟩
  · subst e
    cases a2
    exact q.go hy r2 k
  · subst e
    cases b2
    rw [List.append_nil] at k
    exact q.go hy r1 k
  · exact q.new hy n (.tup (st_of upd_same) ((a2.append b2).mono (exG (hy.free n)))) k
theorem br_catS {i j : Str} (hz : i.length + j.length ≤ sizeLine) (k : P (.str (i ++ j)) M) : BR K (fun x y H Q => ∃ i j, x = .str i ∧ y = .str j ∧ i.length + j.length ≤ sizeLine ∧ Q (.str (i ++ j)) H) (.str i) (.str j) M P := fun x y G H Q r1 r2 hy q => by
  cases r1
  cases r2
  exact ⟨i, j, rfl, rfl, hz, q.go hy (.str _) k⟩
/-- a + b, of whatever kind -/
def rPlus (K : PySem.W.Frag) : R2 := fun x y H Q => rI0 (fun i j => .int (i + j)) x y H Q ∨ rCat x y H Q ∨ rCatA K x y H Q ∨ ∃ i j, x = .str i ∧ y = .str j ∧ i.length + j.length ≤ sizeLine ∧ Q (.str (i ++ j)) H
theorem op_plus {X : Cx} : OpR X (binaryOp .Add) (rPlus X.K) := op_add.or (op_cat.or (op_catA.or op_add_str))
theorem br_plusI {i j : Int} (k : P (.int (i + j)) M) : BR K (rPlus K) (.int i) (.int j) M P := br_or1 (br_int (f := fun i j => i + j) k)
theorem br_plusL {dx dy : D} {ds es : List D} (h1 : IsL M dx ds) (h2 : IsL M dy es) (hz : ds.length + es.length ≤ sizeLine) (k : ∀ p, p ∉ keysO M → P (.raw (.ref p)) ((p, .lst (ds ++ es)) :: M)) : BR K (rPlus K) dx dy M P := br_or2 (br_or1 (br_cat h1 h2 hz k))
theorem br_plusT {ds es : List D} (hz : ds.length + es.length ≤ sizeLine) (k : P (.tup (ds ++ es)) M) : BR K (rPlus K) (.tup ds) (.tup es) M P := br_or2 (br_or2 (br_or1 (br_catT hz k)))
theorem br_plusS {i j : Str} (hz : i.length + j.length ≤ sizeLine) (k : P (.str (i ++ j)) M) : BR K (rPlus K) (.str i) (.str j) M P := br_or2 (br_or2 (br_or2 (br_catS hz k)))
theorem br_rep {dx : D} {ds : List D} {n : Int} (h1 : IsL M dx ds) (b : -(2 ^ 63) ≤ n ∧ n < 2 ^ 63) (hz : ds.length * n.toNat ≤ sizeLine) (k : ∀ p, p ∉ keysO M → P (.raw (.ref p)) ((p, .lst (List.replicate n.toNat ds).flatten) :: M)) : BR K rRep dx (.int n) M P := fun x y G H Q r1 r2 hy q => by
  obtain ⟨a, xs, rfl, a1, a2⟩ := h1.at r1 hy
  cases r2
  refine ⟨a, n, xs, rfl, rfl, a1, b.1, b.2, by rw [a2.length]; exact hz, fun p np => q.newL hy np ?_ k⟩
  induction n.toNat with
  | zero => exact .nil
  | succ m ih =>
    rw [List.replicate_succ, List.flatten_cons, List.replicate_succ, List.flatten_cons]
    exact a2.append ih
def rTimes : R2 := fun x y H Q => rI CMul (fun i j => .int (i * j)) x y H Q ∨ rRep x y H Q
theorem op_times {X : Cx} : OpR X (binaryOp .Mult) rTimes := op_mul.or op_rep
theorem br_timesI {i j : Int} (c : CMul i j) (k : P (.int (i * j)) M) : BR K rTimes (.int i) (.int j) M P := br_or1 (br_intC (f := fun i j => i * j) c k)
theorem br_timesL {dx : D} {ds : List D} {n : Int} (h1 : IsL M dx ds) (b : -(2 ^ 63) ≤ n ∧ n < 2 ^ 63) (hz : ds.length * n.toNat ≤ sizeLine) (k : ∀ p, p ∉ keysO M → P (.raw (.ref p)) ((p, .lst (List.replicate n.toNat ds).flatten) :: M)) : BR K rTimes dx (.int n) M P := br_or2 (br_rep h1 b hz k)
/-- slices -/
def BO (K : PySem.W.Frag) (to : TO) (ρ : Env) (M : Own) (P : Option Int → Own → Prop) : Prop := ∀ σ G H (Q : Option Int → Hp → Prop), Slots K G σ ρ → Sy K M G H → (∀ o G' H' M', Ex G G' → Sy K M' G' H' → P o M' → Q o H') → to σ H Q
theorem bo_none {P : Option Int → Own → Prop} (k : P none M) : BO K tNoPart ρ M P := fun σ G H Q hs hy q => q none G H M (Ex.refl G) hy k
theorem bo_some {P : Option Int → Own → Prop} (h : BE K te ρ M fun d M1 => ∃ i, d = .int i ∧ P (some i) M1) : BO K (tPart te) ρ M P := fun σ G H Q hs hy q => h σ G H _ hs hy fun v G1 H1 M1 d e1 y1 r1 ⟨i, e, p⟩ => by
  subst e
  cases r1
  exact ⟨i, rfl, q (some i) G1 H1 M1 e1 y1 p⟩
def BSl (K : PySem.W.Frag) (r : V → Option Int → Option Int → Hp → VK → Prop) (d : D) (lo hi : Option Int) (M : Own) (P : KD) : Prop := ∀ x G H Q, Rp K G x d → Sy K M G H → Kt K G P Q → r x lo hi H Q
theorem be_sl {r : V → Option Int → Option Int → Hp → VK → Prop} {tl th : TO} (h : BE K te ρ M fun d M1 => BO K tl ρ M1 fun lo M2 => BO K th ρ M2 fun hi M3 => BSl K r d lo hi M3 P) : BE K (tSl r te tl th) ρ M P := fun σ G H Q hs hy q =>
  h σ G H _ hs hy fun x G1 H1 M1 d e1 y1 r1 h1 => h1 σ G1 H1 _ (hs.mono e1) y1 fun lo G2 H2 M2 e2 y2 h2 => h2 σ G2 H2 _ (hs.mono (e1.trans e2)) y2 fun hi G3 H3 M3 e3 y3 h3 =>
    h3 x G3 H3 Q (r1.mono (e2.trans e3)) y3 (q.mono ((e1.trans e2).trans e3))
def cutD (ds : List D) (lo hi : Option Int) : List D := (ds.drop (HT.sIx ds.length 0 lo)).take (HT.sIx ds.length ds.length hi - HT.sIx ds.length 0 lo)
theorem rpl_cut {xs : List V} {ds : List D} (r : RpL K G xs ds) (lo hi : Option Int) : RpL K G (cutV xs lo hi) (cutD ds lo hi) := by
  unfold cutV cutD
  rw [r.length]
  exact (r.drop _).take _
def rSlice (K : PySem.W.Frag) : V → Option Int → Option Int → Hp → VK → Prop := fun x lo hi H Q => rSlL K x lo hi H Q ∨ rSlA K x lo hi H Q
theorem sl_any {X : Cx} : SlR X (rSlice X.K) := sl_list.or sl_tupA
theorem bsl_L {d : D} {ds : List D} {lo hi : Option Int} (h : IsSL M d ds) (k : ∀ p, p ∉ keysO M → P (.raw (.ref p)) ((p, .lst (cutD ds lo hi)) :: M)) : BSl K (rSlice K) d lo hi M P := fun x G H Q r1 hy q => by
  obtain ⟨a, xs, rfl, a1, a2⟩ := h.at r1 hy
  exact .inl ⟨a, xs, rfl, a1, fun p n => q.newL hy n (rpl_cut a2 lo hi) k⟩
theorem bsl_T {ds : List D} {lo hi : Option Int} (k : P (.tup (cutD ds lo hi)) M) : BSl K (rSlice K) (.tup ds) lo hi M P := fun x G H Q r1 hy q => by
  obtain ⟨a, xs, rfl, a1, a2⟩ := tup_at r1 hy
  refine .inr ⟨a, xs, rfl, a1, fun w => ?_, fun _ p n => q.new hy n (.tup (st_of upd_same) ((rpl_cut a2 lo hi).mono (exG (hy.free n)))) k⟩
  have e : cutD ds lo hi = ds := by
    unfold cutD
    rw [a2.length] at w
    rw [w.1, w.2, List.drop_zero, Nat.sub_zero]
    exact List.take_length
  rw [e] at k
  exact q.go hy r1 k
/-- flat data as values -/
def vOf : D → Option V
  | .non => some .non
  | .bl b => some (.bl b)
  | .int i => some (.int i)
  | .str x => some (.str x)
  | _ => none
def vAll : List D → Option (List V)
  | [] => some []
  | d :: ds => match vOf d, vAll ds with
    | some x, some xs => some (x :: xs)
    | _, _ => none
theorem vOf_of {d : D} {x v : V} (h : vOf d = some x) (r : Rp K G v d) : v = x ∧ flatV x = true := by
  cases r with
  | non => cases h; exact ⟨rfl, rfl⟩
  | bl b => cases h; exact ⟨rfl, rfl⟩
  | int b => cases h; exact ⟨rfl, rfl⟩
  | str b => cases h; exact ⟨rfl, rfl⟩
  | _ => cases h
theorem vAll_of : ∀ {ds : List D} {vs xs : List V}, vAll ds = some xs → RpL K G vs ds → vs = xs ∧ xs.all flatV = true
  | [], _, _, h, r => by
    cases r
    cases h
    exact ⟨rfl, rfl⟩
  | d :: ds, _, _, h, r => by
    cases r with
    | cons r1 r2 =>
      unfold vAll at h
      cases h1 : vOf d with
      | none =>
        rw [h1] at h
        cases h
      | some x =>
        cases h2 : vAll ds with
        | none =>
          rw [h1, h2] at h
          cases h
        | some xs =>
          rw [h1, h2] at h
          cases h
          obtain ⟨rfl, f1⟩ := vOf_of h1 r1
          obtain ⟨rfl, f2⟩ := vAll_of h2 r2
          exact ⟨rfl, by rw [List.all_cons, f1, f2]; rfl⟩
theorem br_in {dx dy : D} {ds : List D} {x : V} {xs : List V} {neg : Bool} (h : (dy = .tup ds) ∨ IsSL M dy ds) (hx : vOf dx = some x) (hs : vAll ds = some xs) (k : P (.bl (if neg then !inV x xs else inV x xs)) M) : BR K (rIn K neg) dx dy M P := fun v y G H Q r1 r2 hy q => by
  obtain ⟨rfl, f1⟩ := vOf_of hx r1
  rcases h with e | h
  · subst e
    obtain ⟨a, ys, rfl, a1, a2⟩ := tup_at r2 hy
    obtain ⟨rfl, f2⟩ := vAll_of hs a2
    exact ⟨a, ys, rfl, .inr a1, f1, f2, q.go hy (.bl _) k⟩
  · obtain ⟨a, ys, rfl, a1, a2⟩ := h.at r2 hy
    obtain ⟨rfl, f2⟩ := vAll_of hs a2
    exact ⟨a, ys, rfl, .inl a1, f1, f2, q.go hy (.bl _) k⟩

/-! ### built-ins -/
inductive TyD (M : Own) : D → String → Prop
  | non : TyD M .non "NoneType"
  | bl (b : Bool) : TyD M (.bl b) "bool"
  | int (i : Int) : TyD M (.int i) "int"
  | str (x : Str) : TyD M (.str x) "str"
  | tup (ds : List D) : TyD M (.tup ds) "tuple"
  | lst {d : D} {ds : List D} (h : IsL M d ds) : TyD M d "list"
  | dic : TyD M .dic "dict"
  | dct {n : Nat} {a : Addr} {kvs : List (Key × D)} (h : M[n]? = some (a, .dct kvs)) : TyD M (.raw (.ref a)) "dict"
theorem TyD.at {d : D} {T : String} (h : TyD M d T) {v : V} (r : Rp K G v d) (y : Sy K M G H) : TyX K H v (.type T) := by
  cases h with
  | non => cases r; exact .base .non
  | bl b => cases r; exact .base (.bl _)
  | int b => cases r; exact .base (.int _)
  | str b => cases r; exact .base (.str _)
  | tup ds =>
    obtain ⟨a, xs, rfl, h1, h2⟩ := tup_at r y
    rcases h1 with (h1 | ⟨o, h1⟩) | ⟨o, its, n, h1, h3, _⟩
    · exact .base (.tup h1)
    · exact .fTuple h1
    · exact .kTuple h1 h3
  | lst h =>
    obtain ⟨a, xs, rfl, h1, h2⟩ := h.at r y
    exact .base (.lst h1)
  | dic =>
    cases r with
    | dic h => exact .base (.dK (y.ex _ _ h))
  | dct h =>
    cases r
    obtain ⟨ys, h1, h2⟩ := y.getD h
    exact .base (.dK h1)
theorem bc_isi {d : D} {T T' : String} {b : Bool} (h : TyD M d T) (hb : kitB T T' = some b) (k : P (.bl b) M) : BC K (rIsi K) [d, .raw (.ty T')] M P := fun vs G H Q r hy q => by
  obtain ⟨v, c, rfl, r1, r2⟩ := r.two_inv
  cases r2
  exact ⟨v, _, _, _, b, rfl, .ty T', h.at r1 hy, kit_ty hb, q.go hy (.bl _) k⟩
abbrev rListP (K : PySem.W.Frag) : List V → Hp → VK → Prop := fun xs H Q => ∃ p ys, xs = [.ref p] ∧ (SqL K H p ys ∨ SqT K H p ys) ∧ ∀ l, H l = none → Q (.ref l) (upd H l (.lst ys))
theorem bc_list {d : D} {ds : List D} (h : (d = .tup ds) ∨ IsSL M d ds) (k : ∀ p, p ∉ keysO M → P (.raw (.ref p)) ((p, .lst ds) :: M)) : BC K (rListP K) [d] M P := fun vs G H Q r hy q => by
  obtain ⟨v, rfl, r1⟩ := r.one_inv
  rcases h with e | h
  · subst e
    obtain ⟨a, xs, rfl, h1, h2⟩ := tup_at r1 hy
    exact ⟨a, xs, rfl, .inr h1, fun l n => q.newL hy n h2 k⟩
  · obtain ⟨a, xs, rfl, h1, h2⟩ := h.at r1 hy
    exact ⟨a, xs, rfl, .inl h1, fun l n => q.newL hy n h2 k⟩
abbrev rTupP (K : PySem.W.Frag) : List V → Hp → VK → Prop := fun xs H Q => ∃ p ys, xs = [.ref p] ∧ ((SqL K H p ys ∧ ∀ l, H l = none → Q (.ref l) (upd H l (.tup ys))) ∨ (SqT K H p ys ∧ Q (.ref p) H))
theorem bc_tuple {d : D} {ds : List D} (h : (d = .tup ds) ∨ IsSL M d ds) (k : P (.tup ds) M) : BC K (rTupP K) [d] M P := fun vs G H Q r hy q => by
  obtain ⟨v, rfl, r1⟩ := r.one_inv
  rcases h with e | h
  · subst e
    obtain ⟨a, xs, rfl, h1, h2⟩ := tup_at r1 hy
    exact ⟨a, xs, rfl, .inr ⟨h1, q.go hy r1 k⟩⟩
  · obtain ⟨a, xs, rfl, h1, h2⟩ := h.at r1 hy
    exact ⟨a, xs, rfl, .inl ⟨h1, fun l n => q.new hy n (.tup (st_of upd_same) (h2.mono (exG (hy.free n)))) k⟩⟩
theorem bc_all {d : D} {bs : List Bool} (h : IsSL M d (bs.map D.bl)) (k : P (.bl (bs.all id)) M) : BC K (rAll K) [d] M P := fun vs G H Q r hy q => by
  obtain ⟨v, rfl, r1⟩ := r.one_inv
  obtain ⟨a, xs, rfl, h1, h2⟩ := h.at r1 hy
  have e := RpL.bls_inv bs h2
  subst e
  exact ⟨a, bs, rfl, h1, q.go hy (.bl _) k⟩
theorem bc_any {d : D} {bs : List Bool} (h : IsSL M d (bs.map D.bl)) (k : P (.bl (bs.any id)) M) : BC K (rAny K) [d] M P := fun vs G H Q r hy q => by
  obtain ⟨v, rfl, r1⟩ := r.one_inv
  obtain ⟨a, xs, rfl, h1, h2⟩ := h.at r1 hy
  have e := RpL.bls_inv bs h2
  subst e
  exact ⟨a, bs, rfl, h1, q.go hy (.bl _) k⟩
theorem bc_sum {d : D} {ns : List Int} (h : IsSL M d (ns.map D.int)) (k : P (.int ns.sum) M) : BC K (rSum K) [d] M P := fun vs G H Q r hy q => by
  obtain ⟨v, rfl, r1⟩ := r.one_inv
  obtain ⟨a, xs, rfl, h1, h2⟩ := h.at r1 hy
  have e := RpL.ints_inv ns h2
  subst e
  exact ⟨a, ns, rfl, h1, q.go hy (.int _) k⟩
theorem bc_max {d : D} {ns : List Int} (h : IsSL M d (ns.map D.int)) (hn : 0 < ns.length) (k : ∀ m, m ∈ ns → (∀ y, y ∈ ns → y ≤ m) → P (.int m) M) : BC K (rMax K) [d] M P := fun vs G H Q r hy q => by
  obtain ⟨v, rfl, r1⟩ := r.one_inv
  obtain ⟨a, xs, rfl, h1, h2⟩ := h.at r1 hy
  have e := RpL.ints_inv ns h2
  subst e
  exact ⟨a, ns, rfl, h1, hn, fun m hm hl => q.go hy (.int _) (k m hm hl)⟩
theorem bc_min {d : D} {ns : List Int} (h : IsSL M d (ns.map D.int)) (hn : 0 < ns.length) (k : ∀ m, m ∈ ns → (∀ y, y ∈ ns → m ≤ y) → P (.int m) M) : BC K (rMin K) [d] M P := fun vs G H Q r hy q => by
  obtain ⟨v, rfl, r1⟩ := r.one_inv
  obtain ⟨a, xs, rfl, h1, h2⟩ := h.at r1 hy
  have e := RpL.ints_inv ns h2
  subst e
  exact ⟨a, ns, rfl, h1, hn, fun m hm hl => q.go hy (.int _) (k m hm hl)⟩
abbrev rMax2P : List V → Hp → VK → Prop := fun xs H Q => ∃ i j, xs = [.int i, .int j] ∧ Q (.int (if j > i then j else i)) H
abbrev rMin2P : List V → Hp → VK → Prop := fun xs H Q => ∃ i j, xs = [.int i, .int j] ∧ Q (.int (if j < i then j else i)) H
theorem bc_max2 {i j : Int} (k : P (.int (max i j)) M) : BC K rMax2P [.int i, .int j] M P := fun vs G H Q r hy q => by
  obtain ⟨v, c, rfl, r1, r2⟩ := r.two_inv
  cases r1
  cases r2
  have e : (if j > i then j else i) = max i j := by
    split <;> omega
  exact ⟨i, j, rfl, by rw [e]; exact q.go hy (.int _) k⟩
theorem bc_min2 {i j : Int} (k : P (.int (min i j)) M) : BC K rMin2P [.int i, .int j] M P := fun vs G H Q r hy q => by
  obtain ⟨v, c, rfl, r1, r2⟩ := r.two_inv
  cases r1
  cases r2
  have e : (if j < i then j else i) = min i j := by
    split <;> omega
  exact ⟨i, j, rfl, by rw [e]; exact q.go hy (.int _) k⟩

/-! ### methods of lists -/
theorem be_bm {r : V → List V → Hp → VK → Prop} {T : String} {ta : TA} (h : BE K to ρ M fun d M1 => (∀ v G H, Rp K G v d → Sy K M1 G H → tyV K T v H) ∧ BA K ta ρ M1 fun ds M2 => BM K r d ds M2 P) : BE K (tBM K T r to ta) ρ M P := fun σ G H Q hs hy q =>
  h σ G H _ hs hy fun x G1 H1 M1 d e1 y1 r1 ⟨ht, h1⟩ => ⟨ht x G1 H1 r1 y1, h1 σ G1 H1 _ (hs.mono e1) y1 fun vs G2 H2 M2 ds e2 y2 r2 h2 => h2 x vs G2 H2 Q (r1.mono e2) r2 y2 (q.mono (e1.trans e2))⟩
theorem be_bm0 {r : V → List V → Hp → VK → Prop} {T : String} (h : BE K to ρ M fun d M1 => (∀ v G H, Rp K G v d → Sy K M1 G H → tyV K T v H) ∧ BM K r d [] M1 P) : BE K (tBM0 K T r to) ρ M P := fun σ G H Q hs hy q =>
  h σ G H _ hs hy fun x G1 H1 M1 d e1 y1 r1 ⟨ht, h1⟩ => ⟨ht x G1 H1 r1 y1, h1 x [] G1 H1 Q r1 .nil y1 (q.mono e1)⟩
theorem ty_list {d : D} {ds : List D} (h : IsSL M d ds) : ∀ v G H, Rp K G v d → Sy K M G H → tyV K "list" v H := fun v G H r y => by
  obtain ⟨a, xs, rfl, h1, h2⟩ := h.at r y
  exact .inl ⟨rfl, xs, h1⟩
theorem ty_str {x : Str} : ∀ v G H, Rp K G v (.str x) → Sy K M G H → tyV K "str" v H := fun v G H r y => by
  cases r
  rfl
theorem bm_append {n : Nat} {a : Addr} {ds : List D} {d : D} (hk : M[n]? = some (a, .lst ds)) (hz : ds.length < sizeLine) (k : P .non (M.set n (a, .lst (ds ++ [d])))) : BM K rAppend (.raw (.ref a)) [d] M P := fun x vs G H Q r1 r2 hy q => by
  cases r1
  obtain ⟨v, rfl, rv⟩ := r2.one_inv
  obtain ⟨xs, h1, h2⟩ := hy.getL hk
  exact ⟨a, xs, v, rfl, rfl, h1, by rw [h2.length]; exact hz, q .non G _ _ .non (Ex.refl G) (hy.putL hk (h2.append (.one rv))) .non k⟩
theorem bm_extend {n : Nat} {a : Addr} {ds es : List D} {d : D} (hk : M[n]? = some (a, .lst ds)) (he : IsL M d es) (hz : ds.length + es.length ≤ sizeLine) (k : P .non (M.set n (a, .lst (ds ++ es)))) : BM K rExtend (.raw (.ref a)) [d] M P := fun x vs G H Q r1 r2 hy q => by
  cases r1
  obtain ⟨v, rfl, rv⟩ := r2.one_inv
  obtain ⟨xs, h1, h2⟩ := hy.getL hk
  obtain ⟨b, ys, rfl, b1, b2⟩ := he.at rv hy
  exact ⟨a, b, xs, ys, rfl, rfl, h1, b1, by rw [h2.length, b2.length]; exact hz, q .non G _ _ .non (Ex.refl G) (hy.putL hk (h2.append b2)) .non k⟩
theorem bm_pop {n : Nat} {a : Addr} {ds : List D} {d : D} (hk : M[n]? = some (a, .lst ds)) (he : ds[ds.length - 1]? = some d) (k : P d (M.set n (a, .lst ds.dropLast))) : BM K rPop (.raw (.ref a)) [] M P := fun x vs G H Q r1 r2 hy q => by
  cases r1
  cases r2
  obtain ⟨xs, h1, h2⟩ := hy.getL hk
  obtain ⟨v, h3, h4⟩ := h2.get he
  exact ⟨a, xs, v, rfl, rfl, h1, by rw [h2.length]; exact h3, q v G _ _ d (Ex.refl G) (hy.putL hk h2.dropLast) h4 k⟩
theorem bm_reverse {n : Nat} {a : Addr} {ds : List D} (hk : M[n]? = some (a, .lst ds)) (k : P .non (M.set n (a, .lst ds.reverse))) : BM K rReverse (.raw (.ref a)) [] M P := fun x vs G H Q r1 r2 hy q => by
  cases r1
  cases r2
  obtain ⟨xs, h1, h2⟩ := hy.getL hk
  exact ⟨a, xs, rfl, rfl, h1, q .non G _ _ .non (Ex.refl G) (hy.putL hk h2.reverse) .non k⟩
def rInsert : V → List V → Hp → VK → Prop := fun x vs H Q => ∃ (l : Addr) (xs : List V) (i : Int) (y : V), x = .ref l ∧ vs = [.int i, y] ∧ H l = some (.lst xs) ∧ xs.length < sizeLine ∧ 0 ≤ i ∧ i < 2 ^ 63 ∧
    Q .non (upd H l (.lst (xs.take i.toNat ++ [y] ++ xs.drop i.toNat)))
theorem mt_insert1 {X : Cx} : MtR X "list.insert" rInsert := mt_insert
theorem bm_insert {n : Nat} {a : Addr} {ds : List D} {d : D} {i : Int} (hk : M[n]? = some (a, .lst ds)) (hz : ds.length < sizeLine) (hi : 0 ≤ i ∧ i < 2 ^ 63) (k : P .non (M.set n (a, .lst (ds.take i.toNat ++ [d] ++ ds.drop i.toNat)))) : BM K rInsert (.raw (.ref a)) [.int i, d] M P := fun x vs G H Q r1 r2 hy q => by
  cases r1
  obtain ⟨v, w, rfl, rv, rw'⟩ := r2.two_inv
  cases rv
  obtain ⟨xs, h1, h2⟩ := hy.getL hk
  exact ⟨a, xs, i, w, rfl, rfl, h1, by rw [h2.length]; exact hz, hi.1, hi.2, q .non G _ _ .non (Ex.refl G) (hy.putL hk (((h2.take _).append (.one rw')).append (h2.drop _))) .non k⟩

/-! ### a written dict -/
def BPs (K : PySem.W.Frag) (trs : List (TE × TE)) (ρ : Env) (M : Own) (P : List (Key × D) → Own → Prop) : Prop := ∀ σ G H (Q : List (V × V) → Hp → Prop), Slots K G σ ρ → Sy K M G H →
  (∀ ps G' H' M' kvs, Ex G G' → Sy K M' G' H' → Paired (fun (p : V × V) (q : Key × D) => p.1 = kV q.1 ∧ Rp K G' p.2 q.2) ps kvs → P kvs M' → Q ps H') → tPairs trs σ H Q
end
end Pv

namespace Pv
open PySem PySem.Spec PyProof.Rows L2 Evl
section
variable {K : PySem.W.Frag} {E : XK} {ρ : Env} {M : Own} {P : KD} {A : AE} {ta tb tc te tl to : TE} {tt : TT} {g : TG} {G G' H : Hp} {Q : VK}

/-! ### written dicts -/
theorem bps_nil {P : List (Key × D) → Own → Prop} (k : P [] M) : BPs K [] ρ M P := fun σ G H Q hs hy q => q [] G H M [] (Ex.refl G) hy .nil k
def keyD : D → Option Key
  | .int i => some (.inl i)
  | .str x => some (.inr x)
  | _ => none
theorem keyD_of {d : D} {k : Key} {v : V} (h : keyD d = some k) (r : Rp K G v d) : v = kV k := by
  cases r with
  | int i => cases h; rfl
  | str i => cases h; rfl
  | _ => cases h
theorem bps_cons {tk tv : TE} {r : List (TE × TE)} {P : List (Key × D) → Own → Prop} (h : BE K tk ρ M fun dk M1 => ∃ k, keyD dk = some k ∧ BE K tv ρ M1 fun d M2 => BPs K r ρ M2 fun kvs M3 => P ((k, d) :: kvs) M3) : BPs K ((tk, tv) :: r) ρ M P := fun σ G H Q hs hy q =>
  h σ G H _ hs hy fun x G1 H1 M1 dk e1 y1 r1 ⟨k, hk, h1⟩ => h1 σ G1 H1 _ (hs.mono e1) y1 fun y G2 H2 M2 d e2 y2 r2 h2 => h2 σ G2 H2 _ (hs.mono (e1.trans e2)) y2 fun ps G3 H3 M3 kvs e3 y3 pr p =>
    q ((x, y) :: ps) G3 H3 M3 ((k, d) :: kvs) ((e1.trans e2).trans e3) y3 (.cons ⟨keyD_of hk r1, r2.mono e3⟩ pr) p
def putD (kvs : List (Key × D)) (k : Key) (v : D) : List (Key × D) :=
  if (kvs.any fun kv => decide (kv.1 = k)) = true then kvs.map (fun kv => if kv.1 = k then (kv.1, v) else kv) else kvs ++ [(k, v)]
def getD (kvs : List (Key × D)) (k : Key) : Option D := (kvs.find? fun kv => decide (kv.1 = k)).map (·.2)
def mergeD (kvs more : List (Key × D)) : List (Key × D) := more.foldl (fun acc kv => putD acc kv.1 kv.2) kvs
theorem kvrp_append : ∀ {ys ys' : List (Key × V)} {kvs kvs' : List (Key × D)}, KvRp K G ys kvs → KvRp K G ys' kvs' → KvRp K G (ys ++ ys') (kvs ++ kvs')
  | _, _, _, _, .nil, s => s
  | _, _, _, _, .cons r t, s => .cons r (kvrp_append t s)
theorem kvrp_any {k : Key} : ∀ {ys : List (Key × V)} {kvs : List (Key × D)}, KvRp K G ys kvs → (ys.any fun kv => decide (kv.1 = k)) = (kvs.any fun kv => decide (kv.1 = k))
  | _, _, .nil => rfl
  | _, _, .cons r t => by
    rw [List.any_cons, List.any_cons, r.1, kvrp_any t]
theorem kvrp_map {k : Key} {v : V} {d : D} (rv : Rp K G v d) : ∀ {ys : List (Key × V)} {kvs : List (Key × D)}, KvRp K G ys kvs → KvRp K G (ys.map fun kv => if kv.1 = k then (kv.1, v) else kv) (kvs.map fun kv => if kv.1 = k then (kv.1, d) else kv)
  | _, _, .nil => .nil
  | _, _, @Paired.cons _ _ _ x y xs ys r t => by
    refine .cons ?_ (kvrp_map rv t)
    by_cases h : x.1 = k
    · have h' : y.1 = k := by rw [← r.1]; exact h
      dsimp only
      rw [if_pos h, if_pos h']
      exact ⟨r.1, rv⟩
    · have h' : ¬ y.1 = k := by rw [← r.1]; exact h
      dsimp only
      rw [if_neg h, if_neg h']
      exact r
theorem kvrp_put {k : Key} {v : V} {d : D} (rv : Rp K G v d) {ys : List (Key × V)} {kvs : List (Key × D)} (r : KvRp K G ys kvs) : KvRp K G (putK ys k v) (putD kvs k d) := by
  unfold putK putD
  rw [kvrp_any r]
  split
  · exact kvrp_map rv r
  · exact kvrp_append r (.cons ⟨rfl, rv⟩ .nil)
theorem kvrp_merge : ∀ {ms : List (Key × V)} {more : List (Key × D)} {ys : List (Key × V)} {kvs : List (Key × D)}, KvRp K G ms more → KvRp K G ys kvs → KvRp K G (mergeK ys ms) (mergeD kvs more)
  | _, _, _, _, .nil, s => s
  | _, _, _, _, @Paired.cons _ _ _ x y xs zs r t, s => by
    have e : x.1 = y.1 := r.1
    show KvRp K G (mergeK (putK _ x.1 x.2) xs) (mergeD (putD _ y.1 y.2) zs)
    rw [e]
    exact kvrp_merge t (kvrp_put r.2 s)
theorem kvrp_get {k : Key} {d : D} : ∀ {ys : List (Key × V)} {kvs : List (Key × D)}, KvRp K G ys kvs → getD kvs k = some d → ∃ v, valV ys k = some v ∧ Rp K G v d
  | _, _, .nil, h => by cases h
  | _, _, @Paired.cons _ _ _ x y xs zs r t, h => by
    by_cases e : y.1 = k
    · have e' : x.1 = k := r.1.trans e
      refine ⟨x.2, valV_pos e', ?_⟩
      have : getD (y :: zs) k = some y.2 := by simp [getD, List.find?_cons, e]
      rw [this] at h
      cases h
      exact r.2
    · have e' : ¬ x.1 = k := fun z => e (r.1 ▸ z)
      have : getD (y :: zs) k = getD zs k := by simp [getD, List.find?_cons, e]
      rw [this] at h
      rw [valV_neg e']
      exact kvrp_get t h
theorem kvrp_getNone {k : Key} : ∀ {ys : List (Key × V)} {kvs : List (Key × D)}, KvRp K G ys kvs → getD kvs k = none → valV ys k = none
  | _, _, .nil, h => rfl
  | _, _, @Paired.cons _ _ _ x y xs zs r t, h => by
    by_cases e : y.1 = k
    · have : getD (y :: zs) k = some y.2 := by simp [getD, List.find?_cons, e]
      rw [this] at h
      cases h
    · have e' : ¬ x.1 = k := fun z => e (r.1 ▸ z)
      have : getD (y :: zs) k = getD zs k := by simp [getD, List.find?_cons, e]
      rw [this] at h
      rw [valV_neg e']
      exact kvrp_getNone t h
theorem kvrp_len : ∀ {ys : List (Key × V)} {kvs : List (Key × D)}, KvRp K G ys kvs → ys.length = kvs.length
  | _, _, .nil => rfl
  | _, _, .cons _ t => congrArg (· + 1) (kvrp_len t)
theorem disp_split : ∀ {ps : List (V × V)} {kvs : List (Key × D)}, Paired (fun (p : V × V) (q : Key × D) => p.1 = kV q.1 ∧ Rp K G p.2 q.2) ps kvs → ∃ ys : List (Key × V), ps = ys.map (fun kv => (kV kv.1, kv.2)) ∧ KvRp K G ys kvs
  | _, _, .nil => ⟨[], rfl, .nil⟩
  | _, _, @Paired.cons _ _ _ x y xs zs r t => by
    obtain ⟨ys, e, h⟩ := disp_split t
    refine ⟨(y.1, x.2) :: ys, ?_, .cons ⟨rfl, r.2⟩ h⟩
    rw [List.map_cons, e, ← r.1]
/-- {k: v, ..}: owned -/
theorem be_disp {trs : List (TE × TE)} (h : ∀ p, p ∉ keysO M → BPs K trs ρ ((p, .dct []) :: M) fun kvs M1 => ∃ n, M1[n]? = some (p, .dct []) ∧ kvs.length ≤ 15 ∧ P (.raw (.ref p)) (M1.set n (p, .dct (mergeD [] kvs)))) : BE K (tDisp trs) ρ M P := fun σ G H Q hs hy q => fun p np =>
  h p (hy.newKey np) σ G _ _ hs (hy.ownD np .nil) fun ps G1 H1 M1 kvs e1 y1 pr ⟨n, hn, hl, k⟩ => by
    obtain ⟨ys, z, r⟩ := disp_split pr
    obtain ⟨ys0, h1, h2⟩ := y1.getD hn
    cases h2
    exact ⟨h1, ys, z, by rw [kvrp_len r]; exact hl, q _ G1 _ _ _ e1 (y1.putD hn (kvrp_merge r .nil)) (.raw _) k⟩
/-- d[k] -/
theorem be_dget {td ty : TE} (h : BE K td ρ M fun dx M1 => BE K ty ρ M1 fun dy M2 => ∃ (n : Nat) (a : Addr) (kvs : List (Key × D)) (k : Key) (d : D), dx = .raw (.ref a) ∧ M2[n]? = some (a, .dct kvs) ∧ keyD dy = some k ∧ getD kvs k = some d ∧ P d M2) : BE K (tDGet td ty) ρ M P := fun σ G H Q hs hy q =>
  h σ G H _ hs hy fun x G1 H1 M1 dx e1 y1 r1 h1 => h1 σ G1 H1 _ (hs.mono e1) y1 fun y G2 H2 M2 dy e2 y2 r2 ⟨n, a, kvs, k, d, z, hn, hk, hg, p⟩ => by
    subst z
    cases r1
    obtain ⟨ys, h3, h4⟩ := y2.getD hn
    obtain ⟨v, h5, h6⟩ := kvrp_get h4 hg
    have e := keyD_of hk r2
    subst e
    refine ⟨a, v, rfl, ?_, q v G2 H2 M2 d (e1.trans e2) y2 h6 p⟩
    rw [← h5]
    exact DGet.k h3
/-- k in d, k not in d, d.get(k), d[k] = v -/
theorem be_din {td ty : TE} (h : BE K ty ρ M fun dy M1 => BE K td ρ M1 fun dx M2 => ∃ (n : Nat) (a : Addr) (kvs : List (Key × D)) (k : Key), dx = .raw (.ref a) ∧ M2[n]? = some (a, .dct kvs) ∧ keyD dy = some k ∧ P (.bl (getD kvs k).isSome) M2) : BE K (tDIn ty td) ρ M P := fun σ G H Q hs hy q =>
  h σ G H _ hs hy fun y G1 H1 M1 dy e1 y1 r1 h1 => h1 σ G1 H1 _ (hs.mono e1) y1 fun x G2 H2 M2 dx e2 y2 r2 ⟨n, a, kvs, k, z, hn, hk, p⟩ => by
    subst z
    cases r2
    obtain ⟨ys, h3, h4⟩ := y2.getD hn
    have e := keyD_of hk r1
    subst e
    refine ⟨a, _, rfl, DGet.k h3, ?_⟩
    cases hg : getD kvs k with
    | none =>
      rw [hg] at p
      rw [kvrp_getNone h4 hg]
      exact q _ G2 H2 M2 _ (e1.trans e2) y2 (.bl _) p
    | some d =>
      rw [hg] at p
      obtain ⟨v, h5, h6⟩ := kvrp_get h4 hg
      rw [h5]
      exact q _ G2 H2 M2 _ (e1.trans e2) y2 (.bl _) p
theorem bs_dput {td ty tv : TE} (h : BE K tv ρ M fun d M1 => BE K td ρ M1 fun dx M2 => BE K ty ρ M2 fun dy M3 => ∃ (n : Nat) (a : Addr) (kvs : List (Key × D)) (k : Key), dx = .raw (.ref a) ∧ M3[n]? = some (a, .dct kvs) ∧ keyD dy = some k ∧ kvs.length < sizeLine ∧ A.nx ρ (M3.set n (a, .dct (putD kvs k d)))) : BS K E (sDPut td ty tv) ρ M A := fun σ G H De hs hy ok =>
  h σ G H _ hs hy fun v G1 H1 M1 d e1 y1 r1 h1 => h1 σ G1 H1 _ (hs.mono e1) y1 fun x G2 H2 M2 dx e2 y2 r2 h2 => h2 σ G2 H2 _ (hs.mono (e1.trans e2)) y2 fun y G3 H3 M3 dy e3 y3 r3 ⟨n, a, kvs, k, z, hn, hk, hl, p⟩ => by
    subst z
    cases r2
    obtain ⟨ys, h3, h4⟩ := y3.getD hn
    have e := keyD_of hk r3
    subst e
    exact ⟨a, _, rfl, DPut.k h3 (by rw [kvrp_len h4]; exact hl), ok.nx σ G3 _ ρ _ ((e1.trans e2).trans e3) (hs.mono ((e1.trans e2).trans e3)) (y3.putD hn (kvrp_put (r1.mono (e2.trans e3)) h4)) p⟩
theorem be_dnew (k : ∀ p, p ∉ keysO M → P (.raw (.ref p)) ((p, .dct []) :: M)) : BE K tDNewK ρ M P := fun σ G H Q hs hy q => fun p np => q _ G _ _ _ (Ex.refl G) (hy.ownD np .nil) (.raw _) (k p (hy.newKey np))

theorem be_dnewF (k : P .dic M) : BE K tDNewK ρ M P := fun σ G H Q hs hy q => fun p np => q.new hy np (.dic upd_same) k

/-! ### comprehensions -/
/-- a target that stores names of the block alone -/
def CT (K : PySem.W.Frag) (g : TG) (vs : List Nat) (x : D) (ρ ρ2 : Env) : Prop := ∀ v σ G H (Q : L2.St → Hp → Prop), Ex G H → Rp K G v x → Slots K G σ ρ → (∀ σ2, L2.wipe σ2 vs = L2.wipe σ vs → Slots K G σ2 ρ2 → Q σ2 H) → g v σ H Q
theorem wipe_setN {σ : L2.St} {j : Nat} {o : Option V} : ∀ {vs : List Nat}, j ∈ vs → L2.wipe (σ.set j o) vs = L2.wipe σ vs
  | [], h => by cases h
  | v :: vs, h => by
    show (L2.wipe (σ.set j o) vs).set v none = (L2.wipe σ vs).set v none
    by_cases e : j ∈ vs
    · rw [wipe_setN e]
    · have ej : j = v := by
        rcases List.mem_cons.mp h with h | h
        · exact h
        · exact absurd h e
      subst ej
      have comm : ∀ (σ : L2.St) (vs : List Nat), j ∉ vs → (L2.wipe (σ.set j o) vs) = (L2.wipe σ vs).set j o := by
        intro σ vs
        induction vs with
        | nil => intro _; rfl
        | cons w ws ih =>
          intro hn
          show (L2.wipe (σ.set j o) ws).set w none = ((L2.wipe σ ws).set w none).set j o
          have h1 : j ∉ ws := fun q => hn (List.mem_cons_of_mem _ q)
          have h2 : j ≠ w := fun q => hn (by rw [q]; exact List.mem_cons_self)
          rw [ih h1, List.set_comm _ _ h2]
      rw [comm σ vs e, List.set_set]
theorem ct_name {j : Nat} {vs : List Nat} {x : D} {ρ : Env} (h : j ∈ vs) : CT K (gName j) vs x ρ (ρ.set j (some x)) := fun v σ G H Q e r s q => q _ (wipe_setN h) (s.set r j)
def CTs (K : PySem.W.Frag) (g : TGs) (vs : List Nat) (xs : List D) (ρ ρ2 : Env) : Prop := ∀ ws σ G H (Q : L2.St → Hp → Prop), Ex G H → RpL K G ws xs → Slots K G σ ρ → (∀ σ2, L2.wipe σ2 vs = L2.wipe σ vs → Slots K G σ2 ρ2 → Q σ2 H) → g ws σ H Q
theorem cts_nil {vs : List Nat} : CTs K gNil vs [] ρ ρ := fun ws σ G H Q e r s q => by
  cases r
  exact ⟨rfl, q σ rfl s⟩
theorem cts_cons {gs : TGs} {vs : List Nat} {x : D} {xs : List D} {ρ ρ1 ρ2 : Env} (h1 : CT K g vs x ρ ρ1) (h2 : CTs K gs vs xs ρ1 ρ2) : CTs K (gCons g gs) vs (x :: xs) ρ ρ2 := fun ws σ G H Q e r s q => by
  cases r with
  | cons r1 r2 => exact ⟨_, _, rfl, h1 _ σ G H _ e r1 s fun σ1 w1 s1 => h2 _ σ1 G H Q e r2 s1 fun σ2 w2 s2 => q σ2 (w2.trans w1) s2⟩
theorem ct_tup {n : Nat} {gs : TGs} {vs : List Nat} {xs : List D} {ρ ρ2 : Env} (hl : xs.length = n) (h : CTs K gs vs xs ρ ρ2) : CT K (gTup K n gs) vs (.tup xs) ρ ρ2 := fun v σ G H Q e r s q => by
  cases r with
  | tup h1 h2 => exact ⟨_, _, rfl, ex_t e h1, h2.length.trans hl, h _ σ G H Q e h2 s q⟩
theorem wipe_wipe {σ : L2.St} : ∀ {vs : List Nat}, L2.wipe (L2.wipe σ vs) vs = L2.wipe σ vs := by
  intro vs
  have gen : ∀ (ws vs : List Nat) (σ : L2.St), (∀ w ∈ ws, w ∈ vs) → L2.wipe (L2.wipe σ ws) vs = L2.wipe σ vs := by
    intro ws
    induction ws with
    | nil => intro vs σ _; rfl
    | cons w ws ih =>
      intro vs σ h
      show L2.wipe ((L2.wipe σ ws).set w none) vs = L2.wipe σ vs
      rw [wipe_setN (h w List.mem_cons_self)]
      exact ih vs σ fun x hx => h x (List.mem_cons_of_mem _ hx)
  exact gen vs vs σ fun _ h => h
/-- one turn of a comprehension: the list so far stands at D, owned, ahead of all -/
def CStep (K : PySem.W.Frag) (g : TG) (tt : TT) (te : TE) (vs : List Nat) (x : D) (ρ : Env) (Dl : Addr) (acc : List D) (M : Own) (Nx : List D → Own → Prop) : Prop := ∃ ρ2, CT K g vs x (wipeE ρ vs) ρ2 ∧ BT K tt ρ2 ((Dl, .lst acc) :: M) fun b M2 =>
  if b = true then BE K te ρ2 M2 fun d M4 => ∃ k, M4[k]? = some (Dl, .lst acc) ∧ acc.length < sizeLine ∧ Nx (acc ++ [d]) (M4.eraseIdx k) else ∃ k, M2[k]? = some (Dl, .lst acc) ∧ Nx acc (M2.eraseIdx k)
theorem mem_erase_perm {M : Own} {k : Nat} {x : Addr × Cell} (h : M[k]? = some x) : (x :: M.eraseIdx k).Perm M := by
  induction M generalizing k with
  | nil => simp at h
  | cons y r ih =>
    cases k with
    | zero =>
      simp at h
      subst h
      exact List.Perm.refl _
    | succ k =>
      have h' : r[k]? = some x := by simpa using h
      show (x :: y :: r.eraseIdx k).Perm (y :: r)
      exact (List.Perm.swap y x _).trans (List.Perm.cons y (ih h'))
theorem set_erase_perm {M : Own} {k : Nat} {x y : Addr × Cell} (h : M[k]? = some x) : (y :: M.eraseIdx k).Perm (M.set k y) := by
  have hl := (List.getElem?_eq_some_iff.mp h).1
  have e : (M.set k y)[k]? = some y := by
    rw [List.getElem?_set_self hl]
  have p := mem_erase_perm e
  rw [List.eraseIdx_set_eq] at p
  exact p
theorem cstep_run {vs : List Nat} {x : D} {v : V} {Dl : Addr} {acc : List D} {Nx : List D → Own → Prop} {σ : L2.St} {NX : Hp → Prop} (hs : Slots K G σ ρ) (hy : Sy K ((Dl, .lst acc) :: M) G H) (r : Rp K G v x) (h : CStep K g tt te vs x ρ Dl acc M Nx)
    (k : ∀ acc' G' H' M', Ex G G' → Sy K ((Dl, .lst acc') :: M') G' H' → Nx acc' M' → NX H') :
    g v (L2.wipe σ vs) H fun σ2 H2 => L2.wipe σ2 vs = L2.wipe σ vs ∧ tt σ2 H2 fun b H3 => if b = true then te σ2 H3 fun y H4 => ∃ acc, H4 Dl = some (.lst acc) ∧ acc.length < sizeLine ∧ NX (upd H4 Dl (.lst (acc ++ [y]))) else NX H3 := by
  obtain ⟨ρ2, h1, h2⟩ := h
  refine h1 v _ G H _ hy.ex r (hs.wipe vs) fun σ2 w2 s2 => ⟨w2.trans wipe_wipe, ?_⟩
  refine h2 σ2 G H _ s2 hy fun b G1 H1 M1 e1 y1 q => ?_
  cases b with
  | true =>
    show te σ2 H1 _
    refine q σ2 G1 H1 _ (s2.mono e1) y1 fun y G2 H2 M2 d e2 y2 r2 ⟨n, hn, hz, p⟩ => ?_
    obtain ⟨xs, h3, h4⟩ := y2.getL hn
    exact ⟨xs, h3, by rw [h4.length]; exact hz, k (acc ++ [d]) G2 _ _ (e1.trans e2) ((y2.putL hn (h4.append (.one r2))).perm (set_erase_perm hn)) p⟩
  | false =>
    show NX H1
    obtain ⟨n, hn, p⟩ := q
    exact k acc G1 H1 _ e1 (y1.perm (mem_erase_perm hn)) p
/-- [e for x in list at d if ..] -/
def LcL (K : PySem.W.Frag) (d : D) (ρ : Env) (M : Own) (g : TG) (tt : TT) (te : TE) (vs : List Nat) (P : KD) : Prop := ∃ ds, IsSL M d ds ∧ ∃ Iv : Nat → List D → Own → Prop, Iv 0 [] M ∧ (∀ i acc M', Iv i acc M' → IsSL M' d ds) ∧
  (∀ (i : Nat) x acc M' Dl, ds[i]? = some x → Iv i acc M' → Dl ∉ keysO M' → CStep K g tt te vs x ρ Dl acc M' (Iv (i + 1))) ∧ ∀ acc M' Dl, Iv ds.length acc M' → Dl ∉ keysO M' → P (.raw (.ref Dl)) ((Dl, .lst acc) :: M')
theorem IsSL.cons {x : Addr × Cell} {d : D} {ds : List D} (h : IsSL M d ds) : IsSL (x :: M) d ds := by
  cases h with
  | of h =>
    cases h with
    | @own n a ds hk => exact .of (.own (n := n + 1) hk)
    | lst => exact .of .lst
  | fls => exact .fls
theorem be_lcL {vs : List Nat} (h : BE K tl ρ M fun d M1 => LcL K d ρ M1 g tt te vs P) : BE K (tLc (iList K tl) g tt te vs) ρ M P := fun σ G H Q hs hy q =>
  h σ G H _ hs hy fun v G1 H1 M1 d e1 y1 r1 ⟨ds, hd, Iv, i0, ik, it, ie⟩ => by
    obtain ⟨a, xs, rfl, hx, rx⟩ := hd.at r1 y1
    refine ⟨a, rfl, ⟨xs, hx⟩, fun Dl nD => ⟨fun i m H' => m = ds.length - i ∧ i ≤ ds.length ∧ ∃ G' acc M', Ex G1 G' ∧ Sy K ((Dl, .lst acc) :: M') G' H' ∧ Iv i acc M', ⟨ds.length, by simp, Nat.zero_le _, G1, [], M1, Ex.refl G1, y1.ownL nD .nil, i0⟩, ?_⟩⟩
    rintro i m H' ⟨rfl, hi, G', acc, M', e', y', p⟩
    obtain ⟨a', xs', z, hx', rx'⟩ := ((ik i acc M' p).cons (x := (Dl, .lst acc))).at (r1.mono e') y'
    cases z
    by_cases hlt : i < ds.length
    · have hg : ds[i]? = some ds[i] := List.getElem?_eq_getElem hlt
      obtain ⟨x, q1, q2⟩ := rx'.get hg
      refine .inr ⟨⟨xs', x, hx', q1⟩, fun H2 => ∃ G2 acc2 M2, Ex G1 G2 ∧ Sy K ((Dl, .lst acc2) :: M2) G2 H2 ∧ Iv (i + 1) acc2 M2, fun H2 w => ⟨ds.length - (i + 1), by omega, rfl, hlt, w⟩, fun y H2 hyl => ?_⟩
      obtain ⟨ey, hyl⟩ := hyl
      subst ey
      have exy : x = y := Option.some.inj (q1.symm.trans (hyl xs' hx'))
      subst exy
      exact cstep_run (hs.mono (e1.trans e')) y' q2 (it i _ acc M' Dl hg p (List.nodup_cons.mp y'.nd).1) fun acc2 G2 H2 M2 e2 y2 p2 => ⟨G2, acc2, M2, e'.trans e2, y2, p2⟩
    · have ei : i = ds.length := by omega
      subst ei
      exact .inl ⟨⟨xs', hx', by rw [rx'.length]; exact Nat.le_refl _⟩, q _ G' H' _ _ (e1.trans e') y' (.raw _) (ie acc M' Dl p (List.nodup_cons.mp y'.nd).1)⟩
/-- [e for x in range(lo ..) if ..], n turns -/
def LcR (K : PySem.W.Frag) (lo : Int) (n : Nat) (ρ : Env) (M : Own) (g : TG) (tt : TT) (te : TE) (vs : List Nat) (P : KD) : Prop := ∃ Iv : Nat → List D → Own → Prop, Iv 0 [] M ∧
  (∀ (i : Nat) acc M' Dl, i < n → Iv i acc M' → Dl ∉ keysO M' → CStep K g tt te vs (.int (lo + i)) ρ Dl acc M' (Iv (i + 1))) ∧ ∀ acc M' Dl, Iv n acc M' → Dl ∉ keysO M' → P (.raw (.ref Dl)) ((Dl, .lst acc) :: M')
theorem lc_itr {lo : Int} {n : Nat} {vs : List Nat} {σ : L2.St} (hs : Slots K G σ ρ) (hy : Sy K M G H) (q : Kt K G P Q) (h : LcR K lo n ρ M g tt te vs P) : ∀ Dl, H Dl = none → ∃ W : Nat → Nat → Hp → Prop, (∃ m, W 0 m (upd H Dl (.lst []))) ∧ ∀ i m H, W i m H →
      ((Itr lo n).stop i H ∧ Q (.ref Dl) H) ∨ ((Itr lo n).go i H ∧ ∃ Nx : Hp → Prop, (∀ H', Nx H' → ∃ m', m' < m ∧ W (i + 1) m' H') ∧ ∀ x H', (Itr lo n).yld i H x H' → g x (L2.wipe σ vs) H' fun σ2 H2 => L2.wipe σ2 vs = L2.wipe σ vs ∧ tt σ2 H2 fun b H3 =>
        if b = true then te σ2 H3 fun y H4 => ∃ acc, H4 Dl = some (.lst acc) ∧ acc.length < sizeLine ∧ Nx (upd H4 Dl (.lst (acc ++ [y]))) else Nx H3) := by
  obtain ⟨Iv, i0, it, ie⟩ := h
  intro Dl nD
  refine ⟨fun i m H' => m = n - i ∧ i ≤ n ∧ ∃ G' acc M', Ex G G' ∧ Sy K ((Dl, .lst acc) :: M') G' H' ∧ Iv i acc M', ⟨n, by simp, Nat.zero_le _, G, [], M, Ex.refl G, hy.ownL nD .nil, i0⟩, ?_⟩
  rintro i m H' ⟨rfl, hi, G', acc, M', e', y', p⟩
  by_cases hlt : i < n
  · refine .inr ⟨hlt, fun H2 => ∃ G2 acc2 M2, Ex G G2 ∧ Sy K ((Dl, .lst acc2) :: M2) G2 H2 ∧ Iv (i + 1) acc2 M2, fun H2 w => ⟨n - (i + 1), by omega, rfl, hlt, w⟩, fun y H2 hyl => ?_⟩
    obtain ⟨ey, hyl⟩ := hyl
    subst ey
    subst hyl
    exact cstep_run (hs.mono e') y' (.int _) (it i acc M' Dl hlt p (List.nodup_cons.mp y'.nd).1) fun acc2 G2 H2 M2 e2 y2 p2 => ⟨G2, acc2, M2, e'.trans e2, y2, p2⟩
  · have ei : i = n := by omega
    subst ei
    exact .inl ⟨Nat.le_refl _, q _ G' H' _ _ e' y' (.raw _) (ie acc M' Dl p (List.nodup_cons.mp y'.nd).1)⟩
theorem be_lcR1 {ta : TA} {vs : List Nat} (h : BA K ta ρ M fun ds M1 => ∃ n : Int, ds = [.int n] ∧ -(2 ^ 62) ≤ n ∧ n < 2 ^ 62 ∧ LcR K 0 n.toNat ρ M1 g tt te vs P) : BE K (tLc (iRng1 ta) g tt te vs) ρ M P := fun σ G H Q hs hy q =>
  h σ G H _ hs hy fun ws G1 H1 M1 ds e1 y1 r1 ⟨n, z, b1, b2, w⟩ => by
    subst z
    obtain ⟨v, rfl, rv⟩ := r1.one_inv
    cases rv
    exact ⟨n, rfl, b1, b2, lc_itr (hs.mono e1) y1 (q.mono e1) w⟩
theorem be_lcR2 {ta : TA} {vs : List Nat} (h : BA K ta ρ M fun ds M1 => ∃ lo n : Int, ds = [.int lo, .int n] ∧ (-(2 ^ 62) ≤ lo ∧ lo < 2 ^ 62 ∧ -(2 ^ 62) ≤ n ∧ n < 2 ^ 62) ∧ LcR K lo (n - lo).toNat ρ M1 g tt te vs P) : BE K (tLc (iRng2 ta) g tt te vs) ρ M P := fun σ G H Q hs hy q =>
  h σ G H _ hs hy fun ws G1 H1 M1 ds e1 y1 r1 ⟨lo, n, z, b, w⟩ => by
    subst z
    obtain ⟨v, v', rfl, rv, rv'⟩ := r1.two_inv
    cases rv
    cases rv'
    exact ⟨lo, n, rfl, b, lc_itr (hs.mono e1) y1 (q.mono e1) w⟩
/-- [e for i, x in enumerate(list at d) if ..] -/
def LcE (K : PySem.W.Frag) (d : D) (ρ : Env) (M : Own) (g : TG) (tt : TT) (te : TE) (vs : List Nat) (P : KD) : Prop := ∃ ds, IsSL M d ds ∧ ∃ Iv : Nat → List D → Own → Prop, Iv 0 [] M ∧ (∀ i acc M', Iv i acc M' → IsSL M' d ds) ∧
  (∀ (i : Nat) x acc M' Dl, ds[i]? = some x → Iv i acc M' → Dl ∉ keysO M' → CStep K g tt te vs (.tup [.int i, x]) ρ Dl acc M' (Iv (i + 1))) ∧ ∀ acc M' Dl, Iv ds.length acc M' → Dl ∉ keysO M' → P (.raw (.ref Dl)) ((Dl, .lst acc) :: M')
theorem be_lcE {ta : TA} {vs : List Nat} (h : BA K ta ρ M fun ws M1 => ∃ d, ws = [d] ∧ LcE K d ρ M1 g tt te vs P) : BE K (tLc (iEnum K ta) g tt te vs) ρ M P := fun σ G H Q hs hy q =>
  h σ G H _ hs hy fun ws G1 H1 M1 dz e1 y1 r1z ⟨d, z, ds, hd, Iv, i0, ik, it, ie⟩ => by
    subst z
    obtain ⟨v, rfl, r1⟩ := r1z.one_inv
    obtain ⟨a, xs, rfl, hx, rx⟩ := hd.at r1 y1
    refine ⟨a, xs, rfl, hx, fun Dl nD => ⟨fun i m H' => m = ds.length - i ∧ i ≤ ds.length ∧ ∃ G' acc M', Ex G1 G' ∧ Sy K ((Dl, .lst acc) :: M') G' H' ∧ Iv i acc M', ⟨ds.length, by simp, Nat.zero_le _, G1, [], M1, Ex.refl G1, y1.ownL nD .nil, i0⟩, ?_⟩⟩
    rintro i m H' ⟨rfl, hi, G', acc, M', e', y', p⟩
    obtain ⟨a', xs', z, hx', rx'⟩ := ((ik i acc M' p).cons (x := (Dl, .lst acc))).at (r1.mono e') y'
    cases z
    by_cases hlt : i < ds.length
    · have hg : ds[i]? = some ds[i] := List.getElem?_eq_getElem hlt
      obtain ⟨x, q1, q2⟩ := rx'.get hg
      refine .inr ⟨⟨xs', x, hx', q1⟩, fun H2 => ∃ G2 acc2 M2, Ex G1 G2 ∧ Sy K ((Dl, .lst acc2) :: M2) G2 H2 ∧ Iv (i + 1) acc2 M2, fun H2 w => ⟨ds.length - (i + 1), by omega, rfl, hlt, w⟩, fun y H2 hyl => ?_⟩
      obtain ⟨T, x2, rfl, nT, rfl, hyl⟩ := hyl
      have exy : x = x2 := Option.some.inj (q1.symm.trans (hyl xs' hx'))
      subst exy
      have eT : Ex G' (upd G' T (.tup [.int (i : Nat), x])) := exG (y'.free nT)
      exact cstep_run (hs.mono ((e1.trans e').trans eT)) (y'.laid nT _) (.tup (st_of upd_same) (.cons (.int _) (.one (q2.mono eT)))) (it i _ acc M' Dl hg p (List.nodup_cons.mp y'.nd).1) fun acc2 G2 H2 M2 e2 y2 p2 => ⟨G2, acc2, M2, (e'.trans eT).trans e2, y2, p2⟩
    · have ei : i = ds.length := by omega
      subst ei
      exact .inl ⟨⟨xs', hx', by rw [rx'.length]; exact Nat.le_refl _⟩, q _ G' H' _ _ (e1.trans e') y' (.raw _) (ie acc M' Dl p (List.nodup_cons.mp y'.nd).1)⟩
theorem bt_yes {P : Bool → Own → Prop} (k : P true M) : BT K tYes ρ M P := fun σ G H Q hs hy q => q true G H M (Ex.refl G) hy k
/-- a turn without a test whose element changes nothing that is owned -/
theorem cstep0 {vs : List Nat} {x : D} {Dl : Addr} {acc : List D} {Nx : List D → Own → Prop} {ρ2 : Env} (h1 : CT K g vs x (wipeE ρ vs) ρ2) (h2 : BE K te ρ2 ((Dl, .lst acc) :: M) fun d M4 => ∃ k, M4[k]? = some (Dl, .lst acc) ∧ acc.length < sizeLine ∧ Nx (acc ++ [d]) (M4.eraseIdx k)) :
    CStep K g tYes te vs x ρ Dl acc M Nx := ⟨ρ2, h1, bt_yes (by
  show BE K te ρ2 ((Dl, .lst acc) :: M) _
  exact h2)⟩
end
end Pv

namespace Pv
open PySem PySem.Spec PyProof.Rows L2 Evl
/-! ### raise X() of an own class, nothing handed to it -/
section
variable {X : Cx}
theorem mk_none {C : Addr} {bmB : List Value} {B newId initId : String} {x : Str} {p pos : Pos} (F : ExcBaseFacts B newId initId bmB) (q : PySem.W.excIn X.K C bmB newId = true) (gC : X.mg x = some (.ref C))
    (kC : PySem.W.keepIn X.K (.ref C) = true) (r : Raises X (.ref C)) (hg : Gl X x) (hdb : (x == ("__debug__" : Str)) = false := by decide) : PMk X (.Call (.Name x p) [] [] pos) (fun _ H Q => Q (.ref C) none H) := by
  intro pins s σ H Q I h
  refine wpAny_Call_Name_kw (ld_glob I hg gC ?_ hdb)
  refine PySem.W.callWith_K0 I.kIn kC ?_
  obtain ⟨bm, N, nm, qn, bs, hdct, sn, sub, ab, col, dd, k0, k1, k2, k3, k5, mN, hC, hN, hni, T⟩ := exc_obj I.kIn q
  exact wpAny_call_exc_subT F T hC hN hni (fun h' e hm => mk_of I hm r h (I.hok.gone hm.new)) (Nat.zero_le _)
end

/-! ### an except clause over a tuple of classes -/
section
variable {Md : Model} {K : PySem.W.Frag} {A : Around} {E : Value → Shared → Prop} {s : Shared}
theorem forIn_flag {β : Type} {f : Value → β → Sem (ForInStep β)} {b0 bT : β} {Q : β → Shared → Prop} : ∀ {cs : List Value} (fl : Value → Bool), (∀ c ∈ cs, ∀ R : ForInStep β → Shared → Prop, R (if fl c = true then .done bT else .yield b0) s → wpAny Md A (f c b0) R E s) →
    Q (if cs.any fl = true then bT else b0) s → wpAny Md A (forIn cs b0 f) Q E s
  | [], fl, h, q => by
    rw [List.forIn_nil]
    exact wpAny_pure q
  | c :: cs, fl, h, q => by
    rw [List.forIn_cons]
    refine wpAny_bind (h c List.mem_cons_self _ ?_)
    cases e : fl c with
    | true =>
      rw [List.any_cons, e, Bool.true_or] at q
      exact wpAny_pure q
    | false =>
      rw [List.any_cons, e, Bool.false_or] at q
      exact forIn_flag fl (fun c' hc => h c' (List.mem_cons_of_mem _ hc)) q
theorem exmAny_each : ∀ {cs : List Value} {cls : Value} {b : Bool}, PySem.W.exmAny K cls cs = some b → ∃ fl : Value → Bool, (∀ c ∈ cs, PySem.W.exmOne K cls c = some (fl c)) ∧ cs.any fl = b
  | [], cls, b, h => by
    cases h
    exact ⟨fun _ => false, fun c hc => (nomatch hc), rfl⟩
  | c :: r, cls, b, h => by
    obtain ⟨b1, d1, x1, y1, z1⟩ := PySem.W.exmAny_cons h
    refine ⟨fun c => (PySem.W.exmOne K cls c).getD false, ?_⟩
    have gen : ∀ {l : List Value} {d : Bool}, PySem.W.exmAny K cls l = some d → (∀ c ∈ l, PySem.W.exmOne K cls c = some ((PySem.W.exmOne K cls c).getD false)) ∧ (l.any fun c => (PySem.W.exmOne K cls c).getD false) = d := by
      intro l
      induction l with
      | nil =>
        intro d hd
        cases hd
        exact ⟨fun c hc => (nomatch hc), rfl⟩
      | cons c r ih =>
        intro d hd
        obtain ⟨b1, d1, x1, y1, z1⟩ := PySem.W.exmAny_cons hd
        obtain ⟨i1, i2⟩ := ih y1
        refine ⟨fun c' hc => ?_, ?_⟩
        · rcases List.mem_cons.mp hc with rfl | hc
          · rw [x1]
            rfl
          · exact i1 c' hc
        · rw [List.any_cons, i2, x1, z1]
          rfl
    exact gen h
theorem looks_of_pure_tuple {h : Heap} {tp : Addr} {o : Obj} (ho : h.get? tp = some o) (hc : o.cls = .type "tuple") : PySem.W.Looks Md h (isInstance (.ref tp) (.type "tuple")) true := fun A Q E s k q =>
  wpAny_isInstance ⟨o, k _ _ ho, hc⟩ isSubtype_tuple_tuple q
theorem exm_tupL {cs : List Value} {cls : Value} {tp e : Addr} {b : Bool} {h : Heap} {o : Obj} {n : Nat} (X : K.In h) (LT : PySem.W.Looks Md h (typeOf (.ref e)) cls) (ho : h.get? tp = some o) (hc : o.cls = .type "tuple") (hd : o.data = .seq cs.toArray n) (hx : PySem.W.exmAny K cls cs = some b) :
    PySem.W.Looks Md h (excMatches (.ref e) (.ref tp)) b := by
  intro A Q E s k q
  obtain ⟨fl, h1, h2⟩ := exmAny_each hx
  have ho' := k _ _ ho
  unfold excMatches
  refine wpAny_bind ((looks_of_pure_tuple ho' hc).here ?_)
  dsimp only
  rw [if_pos rfl]
  first
    | refine wpAny_bind (wpAny_seqItems ho' hd ?_)
    | refine wpAny_bind (wpAny_bind (wpAny_seqItems ho' hd (wpAny_pure ?_)))
  dsimp only [Option.getD_some, Option.getD]
  first | refine wpAny_bind (wpAny_pure ?_) | skip
  refine wpAny_bind (forIn_flag (bT := PUnit.unit) (fun _ => false) (fun c hm R r => ?_) ?_)
  · obtain ⟨e1, _⟩ := PySem.W.exm_cls (M := Md) X (h1 c hm)
    refine wpAny_bind ((e1.keeps k).here ?_)
    rw [if_neg (by decide)]
    exact wpAny_pure r
  · refine wpAny_bind ((LT.keeps k).here ?_)
    have fin : ∀ c ∈ cs, PySem.W.Looks Md s.heap (isSubtype cls c) (fl c) := fun c hm => ((PySem.W.exm_cls (M := Md) X (h1 c hm)).2).keeps k
    refine wpAny_bind (forIn_flag (bT := (some true, ())) fl (fun c hm R r => ?_) ?_)
    · refine wpAny_bind ((fin c hm).here ?_)
      cases z : fl c with
      | true =>
        rw [z] at r
        rw [if_pos rfl]
        exact wpAny_pure r
      | false =>
        rw [z] at r
        rw [if_neg Bool.false_ne_true]
        exact wpAny_pure r
    · rw [h2]
      cases b with
      | true => exact wpAny_pure q
      | false => exact wpAny_pure q
end

/-! ### try: body except (A, B, ..): suite except C: suite -/
section
variable {X : Cx}
/-- an exception at a has come to the clauses of X -/
structure Land (X : Cx) (pins : List (Addr × Obj)) (σ : L2.St) (H : Hp) (B : Heap) (sI : Shared) (a : Addr) (cls : Value) (d : Option Addr) (s : Shared) : Prop where
  J : Inv X pins σ H sI
  nb : ∀ b o, sI.heap.get? b = some o → b ∉ frs X.stack → B.get? b = some o
  up : sI.heap.UpToSlots s.heap
  fl : HandSPX.FlyingZ B (X.env :: X.outer) a (Zc cls d) s.heap
  na : H a = none
  os : s.os = sI.os
  ag : AllBare s.gens
  nL : a ≠ X.env.locals
  nF : a ∉ X.fs
section
variable {pins : List (Addr × Obj)} {σ : L2.St} {H : Hp} {B : Heap} {sI s : Shared} {a : Addr} {cls : Value} {d : Option Addr}
theorem Land.inv (l : Land X pins σ H B sI a cls d s) : Inv X pins σ H s := l.J.landed l.nb l.fl.1 l.up l.os l.ag
theorem Land.looks {Md : Model} (l : Land X pins σ H B sI a cls d s) : PySem.W.Looks Md s.heap (typeOf (.ref a)) cls := by
  obtain ⟨oe, vs, he, hz, hd⟩ := l.fl.there
  exact fun A Q E s k q => wpAny_typeOf_ref (k _ _ he) (by rw [hz.1]; exact q)
theorem Land.suite (l : Land X pins σ H B sI a cls d s) : ∃ oe vs, s.heap.get? a = some oe ∧ Zc cls d oe ∧ oe.data = .fields vs ∧ Inv (X.suite a ((a, oe) :: (X.pn ++ pins))) [] σ H s := by
  obtain ⟨oe, vs, he, hz, hd⟩ := l.fl.there
  exact ⟨oe, vs, he, hz, hd, l.inv.suite he hd l.na l.nL l.nF⟩
/-- a new thing beside it -/
theorem Land.more {h' : Heap} {t : Nat} (l : Land X pins σ H B sI a cls d s) (k : ∀ b o, s.heap.get? b = some o → h'.get? b = some o) : Land X pins σ H B sI a cls d { s with heap := h', toks := t } where
  J := l.J
  nb := l.nb
  up := l.up.trans fun b o e _ => ⟨o.slots, k b o e⟩
  fl := by
    obtain ⟨f1, f2, f3, oe, vs, T, oT, ts, g1, g2, g3, g4, g5, g6, g7, g8, g9⟩ := l.fl
    exact ⟨fun b o e => k b o (f1 b o e), f2, f3.of_keeps fun b o e _ => ⟨o, k b o e, rfl⟩, oe, vs, T, oT, ts, k _ _ g1, g2, g3, g4, g5, g6, k _ _ g7, g8, g9⟩
  na := l.na
  os := l.os
  ag := l.ag
  nL := l.nL
  nF := l.nF
end
/-- what clauses do: w tells what they ask -/
def HandW (X : Cx) (hds : List ExceptHandler) (w : Ends → WX) : Prop := ∀ (pins : List (Addr × Obj)) (De : Ends) (B : Heap) (sI : Shared) (a : Addr) (cls : Value) (d : Option Addr) (σ : L2.St) (H : Hp) (s : Shared),
  Land X pins σ H B sI a cls d s → w De cls d σ H → wpAny (model X.prog X.w) X.A (handleBy (.ref a) X.env hds) (SP X pins De) X.xe s
variable {W : Ends → WX} {Wout : WX} {hds : List ExceptHandler} {ts : Addr → Value → Option Addr → TS} {b₀ : Stmt} {suite : List Stmt} {pos pos' : Pos}
theorem hand_nil (hs : X.stack = X.env :: X.outer) (hf : X.env.frame = some X.env.locals) (tk : Takes X Wout) : HandW X [] (fun _ => Wout) := by
  intro pins De B sI a cls d σ H s l w
  refine wpAny_handleBy_nil ?_
  obtain ⟨k1, k2, k3, oe, vs, T, oT, ts', he, hz, hd, h1, hr⟩ := id l.fl
  unfold PySem.passOn
  refine wpAny_bind (wpAny_field he hd h1 ?_)
  rw [if_neg (show ¬ ((Value.ref T == Value.none) = true) from by simp)]
  have fin : wpAny (model X.prog X.w) X.A (setFlight (.ref a) X.env.frame) (fun _ s4 => wpAny (model X.prog X.w) X.A (throw (.ref a) : Sem Flow) (SP X pins De) X.xe s4) X.xe s := by
    rw [hf]
    refine HandSPX.setFlight_upZ l.fl fun h4 hh4 up4 => wpAny_throw (tk _ _ ?_)
    exact ⟨a, B, sI, pins, σ, H, cls, d, rfl, l.J, l.nb, l.up.trans up4, .inr (.inr (by rw [hs]; exact hh4)), l.na, l.os, l.ag, w⟩
  first
    | exact wpAny_bind (wpAny_pure (wpAny_bind fin))
    | exact wpAny_bind fin
/-- the suite of a clause that takes it -/
theorem suite_run {pins : List (Addr × Obj)} {σ : L2.St} {H : Hp} {B : Heap} {sI s : Shared} {a : Addr} {cls : Value} {d : Option Addr} {De : Ends} (l : Land X pins σ H B sI a cls d s)
    (hsu : ∀ (a : Addr) (oe : Obj) (cls : Value) (d : Option Addr) (pn : List (Addr × Obj)), Zc cls d oe → (∃ vs, oe.data = .fields vs) → PSs (X.suite a ((a, oe) :: pn)) (b₀ :: suite) (ts a cls d)) (q : ts a cls d De σ H) {E : Value → Shared → Prop} :
    wpAny (model X.prog X.w) (X.A.mark (some (.ref a))) (execs (b₀ :: suite) X.env) (SP X pins De) E s := by
  obtain ⟨oe, vs, he, hz, hd, S⟩ := l.suite
  refine wpAny_mono ((hsu a oe cls d (X.pn ++ pins) hz ⟨_, hd⟩).run [] _ _ H De S q) (fun f s6 hsp => ?_) (fun _ _ z => False.elim z)
  cases f with
  | next =>
    obtain ⟨σ6, H6, S6, q6⟩ := hsp
    exact ⟨_, _, S6.unsuite l.J.ok, q6⟩
  | brk =>
    obtain ⟨σ6, H6, S6, q6⟩ := hsp
    exact ⟨_, _, S6.unsuite l.J.ok, q6⟩
  | cont =>
    obtain ⟨σ6, H6, S6, q6⟩ := hsp
    exact ⟨_, _, S6.unsuite l.J.ok, q6⟩
  | ret u =>
    obtain ⟨v6, σ6, H6, S6, r6, q6⟩ := hsp
    exact ⟨_, _, _, S6.unsuite l.J.ok, r6, q6⟩
def wOne (K : PySem.W.Frag) (c : Value) (ts : Addr → Value → Option Addr → TS) (W : Ends → WX) : Ends → WX := fun De cls d σ H =>
  ∃ b, PySem.W.exmOne K cls c = some b ∧ (b = true → ∀ a, H a = none → ts a cls d De σ H) ∧ (b = false → W De cls d σ H)
def wTup (K : PySem.W.Frag) (cs : List Value) (ts : Addr → Value → Option Addr → TS) (W : Ends → WX) : Ends → WX := fun De cls d σ H =>
  ∃ b, PySem.W.exmAny K cls cs = some b ∧ (b = true → ∀ a, H a = none → ts a cls d De σ H) ∧ (b = false → W De cls d σ H)
theorem name_run {pins : List (Addr × Obj)} {σ : L2.St} {H : Hp} {s : Shared} {a : Addr} {q : Addr × Obj} {x : Str} {np : Pos} {c : Value} (S : Inv (X.suite a (q :: (X.pn ++ pins))) [] σ H s) (hc : Names X x c) {Q : Value → Shared → Prop} {E : Value → Shared → Prop} (h : Q c s) :
    wpAny (model X.prog X.w) (X.A.mark (some (.ref a))) (eval (.Name x np) X.env) Q E s := by
  obtain ⟨hg, hdbg, hm | ⟨hm, hv, hnn⟩⟩ := hc
  · exact ld_glob (X := X.suite a (q :: (X.pn ++ pins))) S hg hm h hdbg
  · exact ld_blt (X := X.suite a (q :: (X.pn ++ pins))) S hg hm hv h hnn hdbg
theorem hand_one {x : Str} {c : Value} {np : Pos} (hc : Names X x c) (hsu : ∀ (a : Addr) (oe : Obj) (cls : Value) (d : Option Addr) (pn : List (Addr × Obj)), Zc cls d oe → (∃ vs, oe.data = .fields vs) → PSs (X.suite a ((a, oe) :: pn)) (b₀ :: suite) (ts a cls d))
    (r : HandW X hds W) : HandW X (.ExceptHandler (some (.Name x np)) none (b₀ :: suite) pos' :: hds) (wOne X.K c ts W) := by
  intro pins De B sI a cls d σ H s l w
  obtain ⟨b, hb1, hyes, hno⟩ := w
  refine wpAny_handleBy_cons (codeAny_handlers_test ?_) (by intro q; cases q)
  obtain ⟨oe, vs, he, hz, hd, S⟩ := l.suite
  refine name_run S hc ((PySem.W.exm_one l.inv.kIn l.looks hb1).here ?_)
  cases b with
  | true =>
    refine codeAny_handlers_suite ?_
    refine HandSPX.lands_againZ l.fl fun h4 fl4 up4 => ?_
    exact suite_run (B := B) (sI := sI) (s := { s with heap := h4 }) ⟨l.J, l.nb, l.up.trans up4, fl4, l.na, l.os, l.ag, l.nL, l.nF⟩ hsu (hyes rfl a l.na)
  | false =>
    show wpAny _ X.A (handleBy (.ref a) X.env hds) _ _ _
    exact r pins De B sI a cls d σ H s l (hno rfl)
inductive NamesL (X : Cx) : List Expr → List Value → Prop
  | nil : NamesL X [] []
  | cons {x : Str} {c : Value} {np : Pos} {es : List Expr} {cs : List Value} : Names X x c → NamesL X es cs → NamesL X (.Name x np :: es) (c :: cs)
theorem names_run {pins : List (Addr × Obj)} {σ : L2.St} {H : Hp} {s : Shared} {a : Addr} {q : Addr × Obj} {E : Value → Shared → Prop} {pos : Pos} (S : Inv (X.suite a (q :: (X.pn ++ pins))) [] σ H s) : ∀ {es : List Expr} {cs : List Value} {Q : List Value → Shared → Prop}, NamesL X es cs → Q cs s →
    wpAny (model X.prog X.w) (X.A.mark (some (.ref a))) (spliced (backTo pos (starEach es X.env))) Q E s
  | _, _, Q, .nil, h => wpAny_items_nil h
  | _, _, Q, @NamesL.cons _ x c np es cs hc n, h => wpAny_items_cons (name_run S hc (names_run S (Q := fun vs s2 => Q (c :: vs) s2) n h)) (by rfl)
theorem names_len : ∀ {es : List Expr} {cs : List Value}, NamesL X es cs → es.length = cs.length
  | _, _, .nil => rfl
  | _, _, .cons _ n => congrArg (· + 1) (names_len n)
theorem hand_tup {es : List Expr} {cs : List Value} {k : Nat} {tpos : Pos} (hc : NamesL X es cs) (hl : cs.length ≤ sizeLine) (hsu : ∀ (a : Addr) (oe : Obj) (cls : Value) (d : Option Addr) (pn : List (Addr × Obj)), Zc cls d oe → (∃ vs, oe.data = .fields vs) → PSs (X.suite a ((a, oe) :: pn)) (b₀ :: suite) (ts a cls d))
    (r : HandW X hds W) : HandW X (.ExceptHandler (some (.Tuple es k tpos)) none (b₀ :: suite) pos' :: hds) (wTup X.K cs ts W) := by
  intro pins De B sI a cls d σ H s l w
  obtain ⟨b, hb1, hyes, hno⟩ := w
  refine wpAny_handleBy_cons (codeAny_handlers_test ?_) (by intro q; cases q)
  obtain ⟨oe, vs, he, hz, hd, S⟩ := l.suite
  refine wpAny_Tuple (names_run S hc ⟨hl, ?_⟩)
  have kp : ∀ q o, s.heap.get? q = some o → (s.heap.push { cls := .type "tuple", data := .seq cs.toArray }).get? q = some o := fun _ _ z => Heap.get?_push_of_some _ z
  have l2 : Land X pins σ H B sI a cls d { s with heap := s.heap.push { cls := .type "tuple", data := .seq cs.toArray } } := l.more (t := s.toks) kp
  refine (exm_tupL l2.inv.kIn l2.looks (Heap.get?_push_size s.heap rfl) rfl rfl hb1).here ?_
  cases b with
  | true =>
    refine codeAny_handlers_suite ?_
    refine HandSPX.lands_againZ l2.fl fun h4 fl4 up4 => ?_
    exact suite_run (B := B) (sI := sI) (s := { s with heap := h4 }) ⟨l2.J, l2.nb, l2.up.trans up4, fl4, l2.na, l2.os, l2.ag, l2.nL, l2.nF⟩ hsu (hyes rfl a l.na)
  | false =>
    show wpAny _ X.A (handleBy (.ref a) X.env hds) _ _ _
    exact r pins De B sI a cls d σ H _ l2 (hno rfl)
/-- the whole statement -/
theorem ps_tryW {body : List Stmt} {h₀ : ExceptHandler} {tb : WX → TS} (hs : X.stack = X.env :: X.outer) (hf : X.env.frame = some X.env.locals)
    (hb : ∀ (W : WX) (pn : List (Addr × Obj)) (xe : Value → Shared → Prop), Takes (X.tr pn xe) W → PassesOwn (model X.prog X.w) X.A X.env xe → PSs (X.tr pn xe) body (tb W))
    (hh : HandW X (h₀ :: hds) W) : PS X (.Try body (h₀ :: hds) [] [] pos) (fun De σ H => tb (W De) De σ H) := by
  refine ⟨fun pins s σ H De I h => ?_⟩
  have ok := I.ok
  have hfr : X.A.frames = some (X.env :: X.outer) := by rw [ok.frames, hs]
  refine wpAny_Try_except ?_
  refine wpAny_mono ((hb (W De) (X.pn ++ pins) (fun e s₁ => wpAny (model X.prog X.w) X.A (noteFrame e X.env) (fun _ s₂ => wpAny (model X.prog X.w) X.A (setFlight e none) (fun _ s₃ =>
    wpAny (model X.prog X.w) X.A (handleBy e X.env (h₀ :: hds)) (SP X pins De) X.xe s₃) X.xe s₂) X.xe s₁) (fun u s' xx => ?_) PassesOwn.looking).run [] s σ H De (I.toTry _) h) (fun f s1 hsp => ?_) (fun e s1 he => he)
  · obtain ⟨a, B, sI, pins', σ', H', cls, d, rfl, J', nb, up, sky, na, os, ag, w⟩ := xx
    have sky' : Sky B (X.env :: X.outer) a (Zc cls d) X.env.locals s'.heap := by rw [← hs]; exact sky
    show wpAny (model X.prog X.w) X.A (noteFrame (.ref a) X.env) _ _ _
    refine Sky.land Zc.steady hfr hf sky' fun h3 fl3 up3 => ?_
    obtain ⟨oe3, vs3, he3, hz3, hd3⟩ := fl3.there
    have nfr : a ∉ frs (X.env :: X.outer) := fun hm => by
      obtain ⟨_, o', e', hnf⟩ := fl3.2.2.1.mem hm
      rw [he3] at e'
      cases e'
      exact hnf _ hd3
    have nL : a ≠ X.env.locals := fun z => nfr (List.mem_filterMap.mpr ⟨X.env, List.mem_cons_self, by rw [hf, z]⟩)
    have nF : a ∉ X.fs := fun hm => by
      obtain ⟨e, he, q⟩ := List.mem_filterMap.mp hm
      exact nfr (List.mem_filterMap.mpr ⟨e, List.mem_cons_of_mem _ he, q⟩)
    exact hh pins De B sI a cls d σ' H' _ ⟨J'.ofTry ok, nb, up.trans up3, fl3, na, os, ag, nL, nF⟩ w
  · cases f with
    | next =>
      obtain ⟨σ', H', J', q⟩ := hsp
      exact wpAny_execs_nil ⟨σ', H', J'.ofTry ok, q⟩
    | brk =>
      obtain ⟨σ', H', J', q⟩ := hsp
      exact ⟨σ', H', J'.ofTry ok, q⟩
    | cont =>
      obtain ⟨σ', H', J', q⟩ := hsp
      exact ⟨σ', H', J'.ofTry ok, q⟩
    | ret u =>
      obtain ⟨v, σ', H', J', r, q⟩ := hsp
      exact ⟨v, σ', H', J'.ofTry ok, r, q⟩
end
/-! ### the same over data -/
section
variable {K : PySem.W.Frag} {E : XK} {ρ : Env} {M : Own} {A : AE} {G H : Hp}
/-- what the clauses do with an exception of the class cls -/
def BW (K : PySem.W.Frag) (E : XK) (w : Ends → WX) (cls : Value) (ρ : Env) (M : Own) (A : AE) : Prop := ∀ σ G H De, Slots K G σ ρ → Sy K M G H → EndsOk K E G A De → w De cls none σ H
theorem bw_one {c cls : Value} {ts : Addr → Value → Option Addr → TS} {W : Ends → WX} {b : Bool} (h : PySem.W.exmOne K cls c = some b) (h1 : b = true → ∀ a, BS K E (ts a cls none) ρ M A) (h2 : b = false → BW K E W cls ρ M A) : BW K E (wOne K c ts W) cls ρ M A := fun σ G H De hs hy ok =>
  ⟨b, h, fun e a _ => h1 e a σ G H De hs hy ok, fun e => h2 e σ G H De hs hy ok⟩
theorem bw_tup {cs : List Value} {cls : Value} {ts : Addr → Value → Option Addr → TS} {W : Ends → WX} {b : Bool} (h : PySem.W.exmAny K cls cs = some b) (h1 : b = true → ∀ a, BS K E (ts a cls none) ρ M A) (h2 : b = false → BW K E W cls ρ M A) : BW K E (wTup K cs ts W) cls ρ M A := fun σ G H De hs hy ok =>
  ⟨b, h, fun e a _ => h1 e a σ G H De hs hy ok, fun e => h2 e σ G H De hs hy ok⟩
/-- try: f(..) except ..: the call alone -/
theorem bs_try_drop {w : Ends → WX} {ta : TA} {pre : List D → Own → KD → (Value → Own → Prop) → Prop} (h : BA K ta ρ M fun ds M1 => pre ds M1 (fun _ M2 => A.nx ρ M2) (fun cls M2 => BW K E w cls ρ M2 A)) :
    BS K E (fun De σ H => tDrop (tCallS (spX K pre) (WE (w De)) ta) De σ H) ρ M A := fun σ G H De hs hy ok =>
  h σ G H _ hs hy fun vs G1 H1 M1 ds e1 y1 r1 p => ⟨G1, M1, ds, _, _, r1, y1, p, fun v G2 H2 M2 d e2 y2 r2 p2 => ok.nx σ G2 H2 ρ M2 (e1.trans e2) (hs.mono (e1.trans e2)) y2 p2,
    fun cls G2 H2 M2 e2 y2 p2 => p2 σ G2 H2 De (hs.mono (e1.trans e2)) y2 (ok.mono (e1.trans e2))⟩
/-- try: x = f(..) except ..: -/
theorem bs_try_asg {w : Ends → WX} {ta : TA} {g : TG} {pre : List D → Own → KD → (Value → Own → Prop) → Prop} (h : BA K ta ρ M fun ds M1 => pre ds M1 (fun d M2 => BG K g d ρ M2 A.nx) (fun cls M2 => BW K E w cls ρ M2 A)) :
    BS K E (fun De σ H => tAsg (tCallS (spX K pre) (WE (w De)) ta) g De σ H) ρ M A := fun σ G H De hs hy ok =>
  h σ G H _ hs hy fun vs G1 H1 M1 ds e1 y1 r1 p => ⟨G1, M1, ds, _, _, r1, y1, p, fun v G2 H2 M2 d e2 y2 r2 p2 => p2 v σ G2 H2 De.nx r2 (hs.mono (e1.trans e2)) y2 (ok.nx.mono (e1.trans e2)),
    fun cls G2 H2 M2 e2 y2 p2 => p2 σ G2 H2 De (hs.mono (e1.trans e2)) y2 (ok.mono (e1.trans e2))⟩
end
end Pv

namespace Pv
open PySem PySem.Spec PyProof.Rows L2 Evl
/-! ### sorted(xs) of data -/
def rSortedDt (K : PySem.W.Frag) (A : Around) : List V → Hp → VK → Prop := fun vs H Q => ∃ (a : Addr) (T : List (V × PyData)), vs = [V.ref a] ∧ SqL K H a (T.map (·.1)) ∧ (∀ t ∈ T, Dp K H t.1 t.2) ∧ PySem.W.AllAlike (T.map (·.2)) ∧ PySem.W.Sortable (T.map (·.2)) ∧
  (∀ t ∈ T, A.units + 2 + t.2.depth < cLine) ∧ ∀ p, H p = none → Q (.ref p) (upd H p (.lst ((T.mergeSort (PySem.W.dataLe false (·.2))).map (·.1))))
theorem each_zip {α β : Type} {R : α → β → Prop} : ∀ {as : List α} {bs : List β}, Paired R as bs → PySem.W.EachIs R as bs
  | _, _, .nil => .nil
  | _, _, .cons h t => .cons h (each_zip t)
theorem each_paired {α β : Type} {R : α → β → Prop} : ∀ {as : List α} {bs : List β}, PySem.W.EachIs R as bs → Paired R as bs
  | _, _, .nil => .nil
  | _, _, .cons h t => .cons h (each_paired t)
theorem vals_of_each {T : List (V × PyData)} : ∀ {us : List Value}, Vals (T.map (·.1)) us → PySem.W.EachIs (fun (u : Value) (t : V × PyData) => RelV t.1 u) us T := by
  induction T with
  | nil => intro us r; cases r; exact .nil
  | cons t T ih =>
    intro us r
    cases r with
    | cons h r => exact .cons h (ih r)
theorem each_vals {T : List (V × PyData)} : ∀ {us : List Value}, PySem.W.EachIs (fun (u : Value) (t : V × PyData) => RelV t.1 u) us T → Vals (T.map (·.1)) us := by
  induction T with
  | nil => intro us r; cases r; exact .nil
  | cons t T ih =>
    intro us r
    cases r with
    | cons h r => exact .cons h (ih r)
theorem each_impM {α β : Type} {R S : α → β → Prop} : ∀ {as : List α} {bs : List β}, PySem.W.EachIs R as bs → (∀ a b, b ∈ bs → R a b → S a b) → PySem.W.EachIs S as bs
  | _, _, .nil, _ => .nil
  | _, _, .cons h t, i => .cons (i _ _ List.mem_cons_self h) (each_impM t fun a b m r => i a b (List.mem_cons_of_mem _ m) r)
section
variable {X : Cx}
theorem cr_sortedDt : CallR X (.builtin "sorted") (rSortedDt X.K X.A) := by
  intro pins s σ H vs us Q I r h
  obtain ⟨a, T, rfl, hs, hT, h1, h2, h3, q⟩ := h
  obtain ⟨its, rv, hl, hz⟩ := I.list hs
  obtain ⟨u, rfl, ru⟩ := vals1 r
  obtain rfl : u = Value.ref a := ru
  have e := vals_of_each rv
  refine PySem.W.sorted_data (bs := T) (enc := (·.2)) (R := fun u t => RelV t.1 u) hl.isList e (each_impM e fun u t m rt => ?_) h1 h2 (by rw [List.length_map] at hz; exact hz) h3 fun out ho eo => ?_
  · obtain ⟨as, q⟩ := Dp.reads I t.2 t.1 u (hT t m) rt
    exact ⟨as, q⟩
  · obtain ⟨c, hc⟩ := sortedAll_at s.heap its out.toArray
    have kp : ∀ b o, s.heap.get? b = some o → (sortedAll s.heap its out.toArray).get? b = some o := fun _ _ => sortedAll_old
    have rv' := each_vals eo
    have hzz : ((T.mergeSort (PySem.W.dataLe false (·.2))).map (·.1)).length ≤ sizeLine := by
      rw [List.length_map, List.length_mergeSort]
      rw [List.length_map] at hz
      exact hz
    refine ⟨.ref (s.heap.objs.size + 1), upd H (s.heap.objs.size + 1) (.lst _), I.laid (t' := s.toks) kp (Nat.le_succ _) ⟨hzz, out, c, rv', hc⟩, rfl, q _ (I.hok.fresh (Nat.le_succ _))⟩
end
section
variable {K : PySem.W.Frag} {M : Own} {P : KD} {G H : Hp}
theorem rpl_paired : ∀ {vs : List V} {ds : List D}, RpL K G vs ds → Paired (fun v d => Rp K G v d) vs ds
  | _, _, .nil => .nil
  | _, _, .cons h r => .cons h (rpl_paired r)
/-- an item: its value, its datum, its plain datum -/
def zip3 : List V → List D → List PyData → List (V × D × PyData)
  | v :: vs, d :: ds, p :: ps => (v, d, p) :: zip3 vs ds ps
  | _, _, _ => []
theorem zip3_ok : ∀ {vs : List V} {ds : List D} {ps : List PyData}, RpL K G vs ds → pyAll ds = some ps → (zip3 vs ds ps).map (·.1) = vs ∧ (zip3 vs ds ps).map (fun t => (t.2.1, t.2.2)) = ds.zip ps ∧ (zip3 vs ds ps).map (·.2.2) = ps ∧ ∀ t ∈ zip3 vs ds ps, Rp K G t.1 t.2.1 ∧ pyOf t.2.1 = some t.2.2
  | [], [], ps, r, h => by
    cases h
    exact ⟨rfl, rfl, rfl, fun t m => (nomatch m)⟩
  | v :: vs, d :: ds, ps, r, h => by
    cases r with
    | cons r1 r2 =>
      obtain ⟨x, xs, h1, h2, rfl⟩ := pyAll_cons h
      obtain ⟨i1, i2, i3, i4⟩ := zip3_ok r2 h2
      refine ⟨by rw [zip3, List.map_cons, i1], by rw [zip3, List.map_cons, i2, List.zip_cons_cons], by rw [zip3, List.map_cons, i3], fun t m => ?_⟩
      rcases List.mem_cons.mp m with rfl | m
      · exact ⟨r1, h1⟩
      · exact i4 t m
theorem rpl_of_all : ∀ {T : List (V × D × PyData)}, (∀ t ∈ T, Rp K G t.1 t.2.1) → RpL K G (T.map (·.1)) (T.map (·.2.1))
  | [], _ => .nil
  | t :: T, h => .cons (h t List.mem_cons_self) (rpl_of_all fun x m => h x (List.mem_cons_of_mem _ m))
theorem bc_sorted {d : D} {ds : List D} {ps : List PyData} {Ar : Around} (h : IsSL M d ds) (hp : pyAll ds = some ps) (h1 : PySem.W.AllAlike ps) (h2 : PySem.W.Sortable ps) (h3 : ∀ p ∈ ps, Ar.units + 2 + p.depth < cLine)
    (k : ∀ p, p ∉ keysO M → P (.raw (.ref p)) ((p, .lst (((ds.zip ps).mergeSort (PySem.W.dataLe false (·.2))).map (·.1))) :: M)) : BC K (rSortedDt K Ar) [d] M P := fun vs G H Q r hy q => by
  obtain ⟨v, rfl, r1⟩ := r.one_inv
  obtain ⟨a, xs, rfl, a1, a2⟩ := h.at r1 hy
  obtain ⟨i1, i2, i3, i4⟩ := zip3_ok a2 hp
  have hT : ((zip3 xs ds ps).map fun t => (t.1, t.2.2)).map (·.1) = xs := by
    rw [List.map_map]
    exact i1
  have hT2 : ((zip3 xs ds ps).map fun t => (t.1, t.2.2)).map (·.2) = ps := by
    rw [List.map_map]
    exact i3
  refine ⟨a, (zip3 xs ds ps).map fun t => (t.1, t.2.2), rfl, by rw [hT]; exact a1, fun t m => ?_, by rw [hT2]; exact h1, by rw [hT2]; exact h2, fun t m => ?_, fun p n => ?_⟩
  · obtain ⟨z, hz, rfl⟩ := List.mem_map.mp m
    obtain ⟨r1, r2⟩ := i4 z hz
    exact dp_of hy.ex z.2.1 z.1 z.2.2 r1 r2
  · refine h3 t.2 ?_
    rw [← hT2]
    exact List.mem_map.mpr ⟨t, m, rfl⟩
  · have e1 : (((zip3 xs ds ps).map fun t => (t.1, t.2.2)).mergeSort (PySem.W.dataLe false (·.2))) = ((zip3 xs ds ps).mergeSort (PySem.W.dataLe false (·.2.2))).map fun t => (t.1, t.2.2) :=
      (List.map_mergeSort (r := PySem.W.dataLe false (·.2.2)) (s := PySem.W.dataLe false (·.2)) (f := fun t : V × D × PyData => (t.1, t.2.2)) (fun a _ b _ => rfl)).symm
    have e2 : (ds.zip ps).mergeSort (PySem.W.dataLe false (·.2)) = ((zip3 xs ds ps).mergeSort (PySem.W.dataLe false (·.2.2))).map fun t => (t.2.1, t.2.2) := by
      rw [← i2]
      exact (List.map_mergeSort (r := PySem.W.dataLe false (·.2.2)) (s := PySem.W.dataLe false (·.2)) (f := fun t : V × D × PyData => (t.2.1, t.2.2)) (fun a _ b _ => rfl)).symm
    rw [e1, List.map_map]
    rw [e2, List.map_map] at k
    refine q.newL hy n (ds := ((zip3 xs ds ps).mergeSort (PySem.W.dataLe false (·.2.2))).map (·.2.1)) ?_ k
    exact rpl_of_all fun t m => (i4 t (List.mem_mergeSort.mp m)).1
end
end Pv

namespace Pv
open PySem PySem.Spec PyProof.Rows L2 Evl
/-! ### str(x) of an int, None, a bool -/
def rStrAny (K : PySem.W.Frag) : List V → Hp → VK → Prop := fun xs H Q => (∃ i : Int, xs = [.int i] ∧ i.natAbs.log2 < 1920 ∧ Q (.str (toString i)) H) ∨ (xs = [.non] ∧ Q (.str "None") H) ∨ ∃ b : Bool, xs = [.bl b] ∧ Q (.str (if b then "True" else "False")) H
section
variable {X : Cx}
theorem call_str_any : CallR X (.type "str") (rStrAny X.K) := by
  intro pins s σ H xs us Q I r h
  rcases h with ⟨i, rfl, hz, q⟩ | ⟨rfl, q⟩ | ⟨b, rfl, q⟩
  · obtain ⟨u, rfl, t, rfl⟩ := vals1 r
    exact PySem.P.str_of_int hz ⟨.str _, H, I.tok _, ⟨_, rfl⟩, q⟩
  · obtain ⟨u, rfl, ru⟩ := vals1 r
    cases (show u = Value.none from ru)
    exact PySem.P.str_of_none ⟨.str _, H, I.tok _, ⟨_, rfl⟩, q⟩
  · obtain ⟨u, rfl, ru⟩ := vals1 r
    cases (show u = Value.bool b from ru)
    exact PySem.P.str_of_bool ⟨.str _, H, I.tok _, ⟨_, rfl⟩, q⟩
end
section
variable {K : PySem.W.Frag} {M : Own} {P : KD} {ρ : Env} {ta : TE}
theorem bc_strI {i : Int} (hz : i.natAbs.log2 < 1920) (k : P (.str (toString i)) M) : BC K (rStrAny K) [.int i] M P := fun vs G H Q r hy q => by
  obtain ⟨v, rfl, r1⟩ := r.one_inv
  cases r1
  exact .inl ⟨i, rfl, hz, q.go hy (.str _) k⟩
theorem bc_strN (k : P (.str "None") M) : BC K (rStrAny K) [.non] M P := fun vs G H Q r hy q => by
  obtain ⟨v, rfl, r1⟩ := r.one_inv
  cases r1
  exact .inr (.inl ⟨rfl, q.go hy (.str _) k⟩)
/-- a test by truth: lists, ints, None -/
inductive TruD (M : Own) : D → Bool → Prop
  | non : TruD M .non false
  | bl (b : Bool) : TruD M (.bl b) b
  | int (i : Int) : TruD M (.int i) (i != 0)
  | lst {d : D} {ds : List D} : IsSL M d ds → TruD M d (!ds.isEmpty)
  | tup {ds : List D} : TruD M (.tup ds) (!ds.isEmpty)
theorem rpl_empty {G : Hp} {xs : List V} {ds : List D} (r : RpL K G xs ds) : xs.isEmpty = ds.isEmpty := by
  cases r <;> rfl
theorem TruD.at {d : D} {b : Bool} (h : TruD M d b) {v : V} {G H : Hp} (r : Rp K G v d) (y : Sy K M G H) : TruV K v H b := by
  cases h with
  | non => cases r; rfl
  | bl b => cases r; rfl
  | int i => cases r; rfl
  | lst h =>
    obtain ⟨a, xs, rfl, h1, h2⟩ := h.at r y
    exact .inl ⟨xs, h1, by rw [rpl_empty h2]⟩
  | tup =>
    obtain ⟨a, xs, rfl, h1, h2⟩ := tup_at r y
    exact .inr (.inl ⟨xs, h1, by rw [rpl_empty h2]⟩)
theorem bt_tru {P : Bool → Own → Prop} (h : BE K ta ρ M fun d M1 => ∃ b, TruD M1 d b ∧ P b M1) : BT K (tTru K ta) ρ M P := fun σ G H Q hs hy q =>
  h σ G H _ hs hy fun v G1 H1 M1 d e1 y1 r1 ⟨b, e, p⟩ => ⟨b, e.at r1 y1, q b G1 H1 M1 e1 y1 p⟩
/-- tuples of ints by < -/
theorem br_ltT {ns ms : List Int} (k : P (.bl (HT.lexLt ns ms)) M) : BR K (rLtT K) (.tup (ns.map .int)) (.tup (ms.map .int)) M P := fun x y G H Q r1 r2 hy q => by
  obtain ⟨a, xs, rfl, a1, a2⟩ := tup_at r1 hy
  obtain ⟨b, ys, rfl, b1, b2⟩ := tup_at r2 hy
  have e1 := RpL.ints_inv ns a2
  have e2 := RpL.ints_inv ms b2
  subst e1
  subst e2
  exact ⟨a, b, ns, ms, rfl, rfl, a1, b1, q.go hy (.bl _) k⟩
end
end Pv

namespace Pv
open PySem PySem.Spec PyProof.Rows L2 Evl
section
variable {K : PySem.W.Frag} {E : XK} {ρ : Env} {M : Own} {P : KD} {A : AE} {te ta : TE} {g : TG} {N : KS}
/-! ### forgetting owned things behind an expression, a target -/
theorem be_sub (h : BE K te ρ M fun d M1 => ∃ M2, M2.Sublist M1 ∧ P d M2) : BE K te ρ M P := fun σ G H Q hs hy k =>
  h σ G H Q hs hy fun v G1 H1 M1 d e1 y1 r1 ⟨M2, s, p⟩ => k v G1 H1 M2 d e1 (y1.sub s) r1 p
theorem bg_sub {d : D} (h : BG K g d ρ M fun ρ1 M1 => ∃ M2, M2.Sublist M1 ∧ N ρ1 M2) : BG K g d ρ M N := fun v σ G H Q r hs hy k =>
  h v σ G H Q r hs hy fun σ1 G1 H1 ρ1 M1 e1 s1 y1 ⟨M2, s, p⟩ => k σ1 G1 H1 ρ1 M2 e1 s1 (y1.sub s) p
theorem be_perm {M' : Own} (s : M'.Perm M) (h : BE K te ρ M' P) : BE K te ρ M P := fun σ G H Q hs hy k => h σ G H Q hs (hy.perm s) k
/-- behind a statement -/
theorem bs_sub_nx {t : TS} (h : BS K E t ρ M { A with nx := fun ρ1 M1 => ∃ M2, M2.Sublist M1 ∧ A.nx ρ1 M2 }) : BS K E t ρ M A := fun σ G H De hs hy ok =>
  h σ G H De hs hy ⟨fun σ1 G1 H1 ρ1 M1 e1 s1 y1 ⟨M2, s, p⟩ => ok.nx σ1 G1 H1 ρ1 M2 e1 s1 (y1.sub s) p, ok.rt, ok.bk, ok.ct, ok.ex⟩
/-- the value of an expression is frozen: an owned list becomes data -/
theorem be_freeze (h : BE K te ρ M fun d M1 => ∃ (k : Nat) (a : Addr) (ds : List D), d = .raw (.ref a) ∧ M1[k]? = some (a, .lst ds) ∧ P (.lst ds) (M1.eraseIdx k)) : BE K te ρ M P := fun σ G H Q hs hy q =>
  h σ G H Q hs hy fun v G1 H1 M1 d e1 y1 r1 ⟨k, a, ds, z, hk, p⟩ => by
    subst z
    cases r1
    obtain ⟨G2, e2, y2, r2⟩ := y1.freeze hk
    exact q _ G2 H1 _ _ (e1.trans e2) y2 r2 p
/-- a call of a def that may raise, where it does not -/
theorem be_callC {ta : TA} {pre : List D → Own → KD → (Value → Own → Prop) → Prop} (h : BA K ta ρ M fun ds M1 => pre ds M1 P fun _ _ => False) : BE K (tCall (spX K pre) [] E0 ta) ρ M P := fun σ G H Q hs hy q =>
  h σ G H _ hs hy fun vs G1 H1 M1 ds e1 y1 r1 p => by
    show spX K pre (vs ++ []) H1 Q E0
    rw [List.append_nil]
    exact ⟨G1, M1, ds, P, _, r1, y1, p, q.mono e1, fun _ _ _ _ _ _ z => z.elim⟩

/-! ### a place of what is owned -/
/-- F tells what is owned by the cell that stands at p -/
def PlaceF (F : Cell → Own) (p : Addr) : Prop := ∃ k : Nat, ∀ c, (F c)[k]? = some (p, c) ∧ ∀ c', (F c).set k (p, c') = F c'
theorem PlaceF.head {M : Own} {p : Addr} : PlaceF (fun c => (p, c) :: M) p := ⟨0, fun c => ⟨rfl, fun c' => rfl⟩⟩
theorem PlaceF.cons {F : Cell → Own} {p : Addr} {x : Addr × Cell} (h : PlaceF F p) : PlaceF (fun c => x :: F c) p := by
  obtain ⟨k, hk⟩ := h
  refine ⟨k + 1, fun c => ⟨(hk c).1, fun c' => ?_⟩⟩
  show x :: (F c).set k (p, c') = x :: F c'
  rw [(hk c).2 c']
theorem PlaceF.keys {F : Cell → Own} {p : Addr} (h : PlaceF F p) (c c' : Cell) : keysO (F c) = keysO (F c') := by
  obtain ⟨k, hk⟩ := h
  rw [← (hk c).2 c', keys_set (hk c).1]
end

theorem ex_bl {P : Bool → Prop} {b : Bool} (h : P b) : ∃ b', D.bl b = .bl b' ∧ P b' := ⟨b, rfl, h⟩
theorem ex_int {P : Int → Prop} {b : Int} (h : P b) : ∃ b', D.int b = .int b' ∧ P b' := ⟨b, rfl, h⟩

/-! ### the laws' pool: its first number is the place of the next one, all others are below 60 -/
structure PoolOk (xs : List Int) (n : Nat) : Prop where
  len : xs.length = n
  two : 2 ≤ n
  line : n ≤ 100000
  first : ∃ p : Nat, xs[0]? = some (p : Int) ∧ 1 ≤ p ∧ p < n
  digit : ∀ (i : Nat) (x : Int), 1 ≤ i → xs[i]? = some x → 0 ≤ x ∧ x < 60
def IsPool (c : Cell) (n : Nat) : Prop := ∃ xs : List Int, c = .lst (xs.map D.int) ∧ PoolOk xs n
theorem getMap {xs : List Int} {i : Nat} {x : Int} (h : xs[i]? = some x) : (xs.map D.int)[i]? = some (.int x) := by
  rw [List.getElem?_map, h]
  rfl
theorem ixN_nn {n j : Nat} (h : j < n) : ixN n (j : Int) = some j := by
  unfold ixN
  rw [if_pos (by omega), if_pos (by omega)]
  simp
theorem setMap {xs : List Int} {i : Nat} {x : Int} : (xs.map D.int).set i (.int x) = (xs.set i x).map D.int := (List.map_set).symm
theorem PoolOk.turn {xs : List Int} {n q : Nat} (h : PoolOk xs n) (h1 : 1 ≤ q) (h2 : q < n) : PoolOk (xs.set 0 (q : Int)) n where
  len := by rw [List.length_set]; exact h.len
  two := h.two
  line := h.line
  first := ⟨q, by
    rw [List.getElem?_set_self (by have := h.len; have := h.two; omega)], h1, h2⟩
  digit := fun i x hi e => by
    rw [List.getElem?_set_ne (by omega)] at e
    exact h.digit i x hi e
theorem PoolOk.more {xs : List Int} {n : Nat} {x : Int} (h : PoolOk xs n) (h0 : 0 ≤ x) (h1 : x < 60) (hn : n + 1 ≤ 100000) : PoolOk (xs ++ [x]) (n + 1) where
  len := by rw [List.length_append, h.len]; rfl
  two := by have := h.two; omega
  line := hn
  first := by
    obtain ⟨p, e, a, b⟩ := h.first
    exact ⟨p, by rw [List.getElem?_append_left (by have := h.len; have := h.two; omega)]; exact e, a, by omega⟩
  digit := fun i y hi e => by
    by_cases hl : i < xs.length
    · rw [List.getElem?_append_left hl] at e
      exact h.digit i y hi e
    · rw [List.getElem?_append_right (by omega)] at e
      have hm := List.mem_of_getElem? e
      rw [List.mem_singleton] at hm
      subst hm
      exact ⟨h0, h1⟩
end Pv

namespace Pv
open PySem PySem.Spec PyProof.Rows L2 Evl
section
variable {a b : Prop} {p : Prop} [Decidable p]
theorem ifT {d : Decidable (true = true)} (h : a) : @ite Prop (true = true) d a b := by rw [if_pos rfl]; exact h
theorem ifF {d : Decidable (false = true)} (h : b) : @ite Prop (false = true) d a b := by rw [if_neg Bool.false_ne_true]; exact h
theorem ifNT {d : Decidable ((!true) = true)} (h : b) : @ite Prop ((!true) = true) d a b := by rw [if_neg (fun z => nomatch z)]; exact h
theorem ifNF {d : Decidable ((!false) = true)} (h : a) : @ite Prop ((!false) = true) d a b := by rw [if_pos (show (!false) = true from rfl)]; exact h
theorem ifD {d : Decidable (decide p = true)} (q : p) (h : a) : @ite Prop (decide p = true) d a b := by rw [if_pos (decide_eq_true q)]; exact h
theorem ifDn {d : Decidable (decide p = true)} (q : ¬ p) (h : b) : @ite Prop (decide p = true) d a b := by rw [if_neg (fun z => q (of_decide_eq_true z))]; exact h
theorem ifND {d : Decidable ((!decide p) = true)} (q : p) (h : b) : @ite Prop ((!decide p) = true) d a b := by rw [if_neg (by rw [decide_eq_true q]; decide)]; exact h
theorem ifNDn {d : Decidable ((!decide p) = true)} (q : ¬ p) (h : a) : @ite Prop ((!decide p) = true) d a b := by rw [if_pos (by rw [decide_eq_false q]; rfl)]; exact h
/-- what is left of a branch on a condition: both ways -/
theorem ifB {c : Bool} {d : Decidable (c = true)} (h1 : c = true → a) (h2 : c = false → b) : @ite Prop (c = true) d a b := by
  cases c with
  | true => rw [if_pos rfl]; exact h1 rfl
  | false => rw [if_neg Bool.false_ne_true]; exact h2 rfl
theorem ifP {d : Decidable (decide p = true)} (h1 : p → a) (h2 : ¬ p → b) : @ite Prop (decide p = true) d a b := by
  by_cases q : p
  · exact ifD q (h1 q)
  · exact ifDn q (h2 q)
theorem ifNP {d : Decidable ((!decide p) = true)} (h1 : ¬ p → a) (h2 : p → b) : @ite Prop ((!decide p) = true) d a b := by
  by_cases q : p
  · exact ifND q (h2 q)
  · exact ifNDn q (h1 q)
end
section
variable {K : PySem.W.Frag} {M : Own} {P : KD}
theorem br_rawR {r : R2} {dx d : D} {v : V} (q : ∀ G, Rp K G v d) (h : BR K r dx d M P) : BR K r dx (.raw v) M P := fun x y G H Q r1 r2 hy k => by
  cases r2
  exact h x v G H Q r1 (q G) hy k
theorem br_rawL {r : R2} {dy d : D} {v : V} (q : ∀ G, Rp K G v d) (h : BR K r d dy M P) : BR K r (.raw v) dy M P := fun x y G H Q r1 r2 hy k => by
  cases r1
  exact h v y G H Q (q G) r2 hy k
theorem br_isin {dx dy : D} {ds : List D} {x : V} {xs : List V} (h : (dy = .tup ds) ∨ IsSL M dy ds) (hx : vOf dx = some x) (hs : vAll ds = some xs) (k : P (.bl (inV x xs)) M) : BR K (rIn K false) dx dy M P := br_in h hx hs k
theorem br_nin {dx dy : D} {ds : List D} {x : V} {xs : List V} (h : (dy = .tup ds) ∨ IsSL M dy ds) (hx : vOf dx = some x) (hs : vAll ds = some xs) (k : P (.bl (!inV x xs)) M) : BR K (rIn K true) dx dy M P := br_in h hx hs k
end
end Pv

namespace Pv
open PySem PySem.Spec PyProof.Rows L2 Evl
section
variable {K : PySem.W.Frag} {M : Own} {P : KD} {ρ : Pv.Env} {g : TG} {te : TE} {vs : List Nat} {d : D} {ds : List D}
theorem range_snoc {α : Type} (F : Nat → α) (i : Nat) : (List.range i).map F ++ [F i] = (List.range (i + 1)).map F := by
  rw [List.range_succ, List.map_append]
  rfl
/-- a comprehension that maps and changes nothing that is owned -/
theorem lcL_map (F : Nat → D) (h : IsSL M d ds) (hz : ds.length ≤ sizeLine) (st : ∀ (i : Nat) (x : D) (Dl : Addr) (acc : List D), ds[i]? = some x → ∃ ρ2, CT K g vs x (wipeE ρ vs) ρ2 ∧ BE K te ρ2 ((Dl, .lst acc) :: M) fun y M4 => y = F i ∧ M4 = (Dl, .lst acc) :: M)
    (k : ∀ p, p ∉ keysO M → P (.raw (.ref p)) ((p, .lst ((List.range ds.length).map F)) :: M)) : LcL K d ρ M g tYes te vs P := by
  refine ⟨ds, h, fun i acc M' => acc = (List.range i).map F ∧ M' = M, ⟨rfl, rfl⟩, ?_, ?_, ?_⟩
  · rintro i acc M' ⟨_, rfl⟩
    exact h
  · rintro i x acc M' Dl hx ⟨rfl, rfl⟩ hD
    obtain ⟨ρ2, h1, h2⟩ := st i x Dl _ hx
    refine cstep0 h1 (h2.imp ?_)
    rintro y M4 ⟨rfl, rfl⟩
    refine ⟨0, rfl, ?_, range_snoc F i, rfl⟩
    rw [List.length_map, List.length_range]
    exact Nat.lt_of_lt_of_le (List.getElem?_eq_some_iff.mp hx).1 hz
  · rintro acc M' Dl ⟨rfl, rfl⟩ hD
    exact k Dl hD
theorem lcE_map (F : Nat → D) (h : IsSL M d ds) (hz : ds.length ≤ sizeLine) (st : ∀ (i : Nat) (x : D) (Dl : Addr) (acc : List D), ds[i]? = some x → ∃ ρ2, CT K g vs (.tup [.int i, x]) (wipeE ρ vs) ρ2 ∧ BE K te ρ2 ((Dl, .lst acc) :: M) fun y M4 => y = F i ∧ M4 = (Dl, .lst acc) :: M)
    (k : ∀ p, p ∉ keysO M → P (.raw (.ref p)) ((p, .lst ((List.range ds.length).map F)) :: M)) : LcE K d ρ M g tYes te vs P := by
  refine ⟨ds, h, fun i acc M' => acc = (List.range i).map F ∧ M' = M, ⟨rfl, rfl⟩, ?_, ?_, ?_⟩
  · rintro i acc M' ⟨_, rfl⟩
    exact h
  · rintro i x acc M' Dl hx ⟨rfl, rfl⟩ hD
    obtain ⟨ρ2, h1, h2⟩ := st i x Dl _ hx
    refine cstep0 h1 (h2.imp ?_)
    rintro y M4 ⟨rfl, rfl⟩
    refine ⟨0, rfl, ?_, range_snoc F i, rfl⟩
    rw [List.length_map, List.length_range]
    exact Nat.lt_of_lt_of_le (List.getElem?_eq_some_iff.mp hx).1 hz
  · rintro acc M' Dl ⟨rfl, rfl⟩ hD
    exact k Dl hD
theorem lcR_map {lo : Int} {n : Nat} (F : Nat → D) (hz : n ≤ sizeLine) (st : ∀ (i : Nat) (Dl : Addr) (acc : List D), i < n → ∃ ρ2, CT K g vs (.int (lo + i)) (wipeE ρ vs) ρ2 ∧ BE K te ρ2 ((Dl, .lst acc) :: M) fun y M4 => y = F i ∧ M4 = (Dl, .lst acc) :: M)
    (k : ∀ p, p ∉ keysO M → P (.raw (.ref p)) ((p, .lst ((List.range n).map F)) :: M)) : LcR K lo n ρ M g tYes te vs P := by
  refine ⟨fun i acc M' => acc = (List.range i).map F ∧ M' = M, ⟨rfl, rfl⟩, ?_, ?_⟩
  · rintro i acc M' Dl hx ⟨rfl, rfl⟩ hD
    obtain ⟨ρ2, h1, h2⟩ := st i Dl _ hx
    refine cstep0 h1 (h2.imp ?_)
    rintro y M4 ⟨rfl, rfl⟩
    refine ⟨0, rfl, ?_, range_snoc F i, rfl⟩
    rw [List.length_map, List.length_range]
    exact Nat.lt_of_lt_of_le hx hz
  · rintro acc M' Dl ⟨rfl, rfl⟩ hD
    exact k Dl hD
theorem range_map_get {xs : List D} {F : Nat → D} (h : ∀ (i : Nat) (x : D), xs[i]? = some x → F i = x) : (List.range xs.length).map F = xs := by
  refine List.ext_getElem? fun i => ?_
  rw [List.getElem?_map]
  rcases Nat.lt_or_ge i xs.length with q | q
  · rw [List.getElem?_range q, List.getElem?_eq_getElem q]
    exact congrArg some (h i _ (List.getElem?_eq_getElem q))
  · rw [List.getElem?_eq_none (by rw [List.length_range]; exact q), List.getElem?_eq_none q]
    rfl
end
end Pv

namespace Pv
open PySem PySem.Spec PyProof.Rows L2 Evl
theorem lay_all : ∀ {xs : List PyData}, (∀ x ∈ xs, PyData.canLay0 x = true) → PyData.canLayAll0 xs = true
  | [], _ => by simp only [PyData.canLayAll0]
  | x :: xs, h => by
    rw [PyData.canLayAll0, h x List.mem_cons_self, lay_all fun y m => h y (List.mem_cons_of_mem _ m)]
    rfl
theorem depth_all {b : Nat} : ∀ {xs : List PyData}, (∀ x ∈ xs, PyData.depth x ≤ b) → PyData.depthAll xs ≤ b
  | [], _ => by simp [PyData.depthAll]
  | x :: xs, h => by
    have h1 := h x List.mem_cons_self
    have h2 := depth_all fun y m => h y (List.mem_cons_of_mem _ m)
    rw [PyData.depthAll]
    omega
theorem shaped_all {b : Nat} {xs : List PyData} (h : ∀ x ∈ xs, PyData.canLay0 x = true) (hd : ∀ x ∈ xs, PyData.depth x ≤ b) (hb : b < 64) : SeqAt.shaped (.list xs) = true := by
  have h1 := depth_all hd
  have h2 : PyData.depth (.list xs) ≤ 64 := by
    rw [PyData.depth]
    omega
  show (PyData.canLay0 (.list xs) && decide (PyData.depth (.list xs) ≤ 64)) = true
  rw [PyData.canLay0, lay_all h, decide_eq_true h2]
  rfl
theorem shaped_nats (os : List Nat) : SeqAt.shaped (.list (os.map fun (k : Nat) => PyData.int k)) = true := by
  refine shaped_all (b := 0) (fun x m => ?_) (fun x m => ?_) (by decide)
  · obtain ⟨k, _, rfl⟩ := List.mem_map.mp m
    rfl
  · obtain ⟨k, _, rfl⟩ := List.mem_map.mp m
    rw [PyData.depth]
    exact Nat.le_refl _
end Pv

namespace K62
open PySem PySem.Spec PyProof.Rows L2 Evl Pv
/-- where constants and classes stand -/
structure Cs where
  a_KINDS : Addr
  c_BadCell : Addr
  c_BadKey : Addr
  c_BadList : Addr
  c_BadMarks : Addr
  c_BadParts : Addr
  c_BadState : Addr
  c_BadText : Addr
  c_BadValue : Addr
structure CsOk (K : PySem.W.Frag) (C : Cs) : Prop where
  s_KINDS : ∀ G : Hp, Rp K G (.ref C.a_KINDS) (.tup [.str "block", .str "float", .str "box", .str "over", .str "text"])
  m_BadList_BadCell : PySem.W.exmOne K (.ref C.c_BadList) (.ref C.c_BadCell) = some false
  m_BadList_BadKey : PySem.W.exmOne K (.ref C.c_BadList) (.ref C.c_BadKey) = some false
  m_BadList_BadList : PySem.W.exmOne K (.ref C.c_BadList) (.ref C.c_BadList) = some true
  m_BadList_BadMarks : PySem.W.exmOne K (.ref C.c_BadList) (.ref C.c_BadMarks) = some false
  m_BadList_BadParts : PySem.W.exmOne K (.ref C.c_BadList) (.ref C.c_BadParts) = some false
  m_BadList_BadState : PySem.W.exmOne K (.ref C.c_BadList) (.ref C.c_BadState) = some false
  m_BadList_BadText : PySem.W.exmOne K (.ref C.c_BadList) (.ref C.c_BadText) = some false
  m_BadList_BadValue : PySem.W.exmOne K (.ref C.c_BadList) (.ref C.c_BadValue) = some false
end K62

namespace K62
open PySem PySem.Spec PyProof.Rows L2 Evl Pv
/-! The text by places; printed by wip/gen/gen.py -/
def topS (i : Nat) : Stmt := PySem.Challenge.pw_pageseen_k62_orders_of_painting.main.body.getD i (.Pass ⟨0, 0, 0, 0⟩)
abbrev s_longer : Stmt := topS 31
abbrev N_longer : List Str := ["pool", "many", "state", "one", "k"]
theorem sc_longer : FnScope N_longer ["pool", "many"] (defScope s_longer) := ⟨rfl, rfl, rfl, by decide +kernel, rfl, by decide +kernel, by decide +kernel⟩
abbrev s_pick : Stmt := topS 32
abbrev N_pick : List Str := ["pool", "many", "place"]
theorem sc_pick : FnScope N_pick ["pool", "many"] (defScope s_pick) := ⟨rfl, rfl, rfl, by decide +kernel, rfl, by decide +kernel, by decide +kernel⟩
abbrev s_far : Stmt := topS 33
abbrev N_far : List Str := ["pool", "many"]
theorem sc_far : FnScope N_far ["pool", "many"] (defScope s_far) := ⟨rfl, rfl, rfl, by decide +kernel, rfl, by decide +kernel, by decide +kernel⟩
abbrev s_z : Stmt := topS 39
abbrev N_z : List Str := ["pool", "levels"]
theorem sc_z : FnScope N_z ["pool", "levels"] (defScope s_z) := ⟨rfl, rfl, rfl, by decide +kernel, rfl, by decide +kernel, by decide +kernel⟩
abbrev s_list : Stmt := topS 40
abbrev N_list : List Str := ["pool", "many", "shape", "levels", "kinds", "nodes", "way", "k", "depth", "kind", "turn"]
theorem sc_list : FnScope N_list ["pool", "many", "shape"] (defScope s_list) := ⟨rfl, rfl, rfl, by decide +kernel, rfl, by decide +kernel, by decide +kernel⟩
abbrev s_is_number : Stmt := topS 11
abbrev N_is_number : List Str := ["value", "low", "high"]
theorem sc_is_number : FnScope N_is_number ["value", "low", "high"] (defScope s_is_number) := ⟨rfl, rfl, rfl, by decide +kernel, rfl, by decide +kernel, by decide +kernel⟩
abbrev s_is_whole : Stmt := topS 22
abbrev N_is_whole : List Str := ["value"]
theorem sc_is_whole : FnScope N_is_whole ["value"] (defScope s_is_whole) := ⟨rfl, rfl, rfl, by decide +kernel, rfl, by decide +kernel, by decide +kernel⟩
abbrev s_is_node : Stmt := topS 23
abbrev N_is_node : List Str := ["value", "nodes", "number", "parent", "kind", "z"]
theorem sc_is_node : FnScope N_is_node ["value", "nodes", "number"] (defScope s_is_node) := ⟨rfl, rfl, rfl, by decide +kernel, rfl, by decide +kernel, by decide +kernel⟩
abbrev s_check_nodes : Stmt := topS 24
abbrev N_check_nodes : List Str := ["nodes", "chain", "number", "node"]
theorem sc_check_nodes : FnScope N_check_nodes ["nodes"] (defScope s_check_nodes) := ⟨rfl, rfl, rfl, by decide +kernel, rfl, by decide +kernel, by decide +kernel⟩
abbrev s_step_of : Stmt := topS 25
abbrev N_step_of : List Str := ["kind", "z"]
theorem sc_step_of : FnScope N_step_of ["kind", "z"] (defScope s_step_of) := ⟨rfl, rfl, rfl, by decide +kernel, rfl, by decide +kernel, by decide +kernel⟩
abbrev s_ordered : Stmt := topS 26
abbrev N_ordered : List Str := ["nodes", "ways", "keys", "number", "node", "parent", "kind", "z", "way", "key"]
theorem sc_ordered : FnScope N_ordered ["nodes"] (defScope s_ordered) := ⟨rfl, rfl, rfl, by decide +kernel, rfl, by decide +kernel, by decide +kernel⟩
abbrev s_painting_order : Stmt := topS 27
abbrev N_painting_order : List Str := ["nodes"]
theorem sc_painting_order : FnScope N_painting_order ["nodes"] (defScope s_painting_order) := ⟨rfl, rfl, rfl, by decide +kernel, rfl, by decide +kernel, by decide +kernel⟩
abbrev s_pool : Stmt := topS 29
abbrev N_pool : List Str := ["script", "pool", "cell", "rest", "k", "state"]
theorem sc_pool : FnScope N_pool ["script"] (defScope s_pool) := ⟨rfl, rfl, rfl, by decide +kernel, rfl, by decide +kernel, by decide +kernel⟩
abbrev s_stream : Stmt := topS 30
abbrev N_stream : List Str := ["script"]
theorem sc_stream : FnScope N_stream ["script"] (defScope s_stream) := ⟨rfl, rfl, rfl, by decide +kernel, rfl, by decide +kernel, by decide +kernel⟩
abbrev s_is_context : Stmt := topS 35
abbrev N_is_context : List Str := ["nodes", "k"]
theorem sc_is_context : FnScope N_is_context ["nodes", "k"] (defScope s_is_context) := ⟨rfl, rfl, rfl, by decide +kernel, rfl, by decide +kernel, by decide +kernel⟩
abbrev s_homes : Stmt := topS 36
abbrev N_homes : List Str := ["nodes", "homes", "depths", "around", "k", "home"]
theorem sc_homes : FnScope N_homes ["nodes"] (defScope s_homes) := ⟨rfl, rfl, rfl, by decide +kernel, rfl, by decide +kernel, by decide +kernel⟩
abbrev s_stands : Stmt := topS 37
abbrev N_stands : List Str := ["nodes", "k", "is_whole_v", "parent", "kind", "z"]
theorem sc_stands : FnScope N_stands ["nodes", "k", "is_whole_v"] (defScope s_stands) := ⟨rfl, rfl, rfl, by decide +kernel, rfl, by decide +kernel, by decide +kernel⟩
abbrev s_is_ahead : Stmt := topS 38
abbrev N_is_ahead : List Str := ["nodes", "made", "one", "other", "homes", "depths", "around", "first", "second", "a", "b", "turn"]
theorem sc_is_ahead : FnScope N_is_ahead ["nodes", "made", "one", "other"] (defScope s_is_ahead) := ⟨rfl, rfl, rfl, by decide +kernel, rfl, by decide +kernel, by decide +kernel⟩
abbrev s_is_order : Stmt := topS 41
abbrev N_is_order : List Str := ["nodes", "told", "many", "made", "k"]
theorem sc_is_order : FnScope N_is_order ["nodes", "told"] (defScope s_is_order) := ⟨rfl, rfl, rfl, by decide +kernel, rfl, by decide +kernel, by decide +kernel⟩
abbrev s_same : Stmt := topS 34
abbrev N_same : List Str := ["told", "due", "pairs", "turn", "one", "other", "key", "k"]
theorem sc_same : FnScope N_same ["told", "due"] (defScope s_same) := ⟨rfl, rfl, rfl, by decide +kernel, rfl, by decide +kernel, by decide +kernel⟩
abbrev s_is_refused : Stmt := topS 42
abbrev N_is_refused : List Str := ["value"]
theorem sc_is_refused : FnScope N_is_refused ["value"] (defScope s_is_refused) := ⟨rfl, rfl, rfl, by decide +kernel, rfl, by decide +kernel, by decide +kernel⟩
abbrev s_opened : Stmt := topS 43
abbrev N_opened : List Str := ["nodes", "k", "found", "at", "turn"]
theorem sc_opened : FnScope N_opened ["nodes", "k"] (defScope s_opened) := ⟨rfl, rfl, rfl, by decide +kernel, rfl, by decide +kernel, by decide +kernel⟩
abbrev s_bent : Stmt := topS 44
abbrev N_bent : List Str := ["pool", "nodes", "many", "k", "parent", "kind", "z", "what", "opened", "wrong", "others", "bad", "j"]
theorem sc_bent : FnScope N_bent ["pool", "nodes"] (defScope s_bent) := ⟨rfl, rfl, rfl, by decide +kernel, rfl, by decide +kernel, by decide +kernel⟩
abbrev s_law : Stmt := topS 45
abbrev N_law : List Str := ["script", "pool", "size", "shape", "many", "nodes", "handed", "told", "kept", "wood", "node", "turn"]
theorem sc_law : FnScope N_law ["script"] (defScope s_law) := ⟨rfl, rfl, rfl, by decide +kernel, rfl, by decide +kernel, by decide +kernel⟩
/-- what the top has left -/
structure Tx (K : PySem.W.Frag) (mg : Str → Option Value) where
  C : Cs
  ok : CsOk K C
  a_longer : Addr
  d_longer : FuncData
  F_longer : Fun K "_law_longer" "_law_longer" s_longer a_longer d_longer
  g_longer : mg "_law_longer" = some (.ref a_longer)
  a_pick : Addr
  d_pick : FuncData
  F_pick : Fun K "_law_pick" "_law_pick" s_pick a_pick d_pick
  g_pick : mg "_law_pick" = some (.ref a_pick)
  a_far : Addr
  d_far : FuncData
  F_far : Fun K "_law_far" "_law_far" s_far a_far d_far
  g_far : mg "_law_far" = some (.ref a_far)
  a_z : Addr
  d_z : FuncData
  F_z : Fun K "_law_z" "_law_z" s_z a_z d_z
  g_z : mg "_law_z" = some (.ref a_z)
  a_list : Addr
  d_list : FuncData
  F_list : Fun K "_law_list" "_law_list" s_list a_list d_list
  g_list : mg "_law_list" = some (.ref a_list)
  a_is_number : Addr
  d_is_number : FuncData
  F_is_number : Fun K "is_number" "is_number" s_is_number a_is_number d_is_number
  g_is_number : mg "is_number" = some (.ref a_is_number)
  a_is_whole : Addr
  d_is_whole : FuncData
  F_is_whole : Fun K "is_whole" "is_whole" s_is_whole a_is_whole d_is_whole
  g_is_whole : mg "is_whole" = some (.ref a_is_whole)
  a_is_node : Addr
  d_is_node : FuncData
  F_is_node : Fun K "is_node" "is_node" s_is_node a_is_node d_is_node
  g_is_node : mg "is_node" = some (.ref a_is_node)
  a_check_nodes : Addr
  d_check_nodes : FuncData
  F_check_nodes : Fun K "check_nodes" "check_nodes" s_check_nodes a_check_nodes d_check_nodes
  g_check_nodes : mg "check_nodes" = some (.ref a_check_nodes)
  a_step_of : Addr
  d_step_of : FuncData
  F_step_of : Fun K "step_of" "step_of" s_step_of a_step_of d_step_of
  g_step_of : mg "step_of" = some (.ref a_step_of)
  a_ordered : Addr
  d_ordered : FuncData
  F_ordered : Fun K "ordered" "ordered" s_ordered a_ordered d_ordered
  g_ordered : mg "ordered" = some (.ref a_ordered)
  a_painting_order : Addr
  d_painting_order : FuncData
  F_painting_order : Fun K "painting_order" "painting_order" s_painting_order a_painting_order d_painting_order
  g_painting_order : mg "painting_order" = some (.ref a_painting_order)
  a_pool : Addr
  d_pool : FuncData
  F_pool : Fun K "_law_pool" "_law_pool" s_pool a_pool d_pool
  g_pool : mg "_law_pool" = some (.ref a_pool)
  a_stream : Addr
  d_stream : FuncData
  F_stream : Fun K "_law_stream" "_law_stream" s_stream a_stream d_stream
  g_stream : mg "_law_stream" = some (.ref a_stream)
  a_is_context : Addr
  d_is_context : FuncData
  F_is_context : Fun K "_law_is_context" "_law_is_context" s_is_context a_is_context d_is_context
  g_is_context : mg "_law_is_context" = some (.ref a_is_context)
  a_homes : Addr
  d_homes : FuncData
  F_homes : Fun K "_law_homes" "_law_homes" s_homes a_homes d_homes
  g_homes : mg "_law_homes" = some (.ref a_homes)
  a_stands : Addr
  d_stands : FuncData
  F_stands : Fun K "_law_stands" "_law_stands" s_stands a_stands d_stands
  g_stands : mg "_law_stands" = some (.ref a_stands)
  a_is_ahead : Addr
  d_is_ahead : FuncData
  F_is_ahead : Fun K "_law_is_ahead" "_law_is_ahead" s_is_ahead a_is_ahead d_is_ahead
  g_is_ahead : mg "_law_is_ahead" = some (.ref a_is_ahead)
  a_is_order : Addr
  d_is_order : FuncData
  F_is_order : Fun K "_law_is_order" "_law_is_order" s_is_order a_is_order d_is_order
  g_is_order : mg "_law_is_order" = some (.ref a_is_order)
  a_same : Addr
  d_same : FuncData
  F_same : Fun K "_law_same" "_law_same" s_same a_same d_same
  g_same : mg "_law_same" = some (.ref a_same)
  a_is_refused : Addr
  d_is_refused : FuncData
  F_is_refused : Fun K "_law_is_refused" "_law_is_refused" s_is_refused a_is_refused d_is_refused
  g_is_refused : mg "_law_is_refused" = some (.ref a_is_refused)
  a_opened : Addr
  d_opened : FuncData
  F_opened : Fun K "_law_opened" "_law_opened" s_opened a_opened d_opened
  g_opened : mg "_law_opened" = some (.ref a_opened)
  a_bent : Addr
  d_bent : FuncData
  F_bent : Fun K "_law_bent" "_law_bent" s_bent a_bent d_bent
  g_bent : mg "_law_bent" = some (.ref a_bent)
  a_law : Addr
  d_law : FuncData
  F_law : Fun K "law" "law" s_law a_law d_law
  g_law : mg "law" = some (.ref a_law)
  n_all : mg "all" = none
  n_bool : mg "bool" = none
  n_dict : mg "dict" = none
  n_enumerate : mg "enumerate" = none
  n_int : mg "int" = none
  n_isinstance : mg "isinstance" = none
  n_len : mg "len" = none
  n_list : mg "list" = none
  n_range : mg "range" = none
  n_sorted : mg "sorted" = none
  n_str : mg "str" = none
  n_tuple : mg "tuple" = none
  g_ABOVE : ∃ t, mg "ABOVE" = some (.int 6 t)
  g_BELOW : ∃ t, mg "BELOW" = some (.int 1 t)
  g_BLOCKS : ∃ t, mg "BLOCKS" = some (.int 2 t)
  g_FLOATS : ∃ t, mg "FLOATS" = some (.int 3 t)
  g_KINDS : mg "KINDS" = some (.ref C.a_KINDS)
  g_LEVEL : ∃ t, mg "LEVEL" = some (.int 5 t)
  g_LINES : ∃ t, mg "LINES" = some (.int 4 t)
  g_MOST_NODES : ∃ t, mg "MOST_NODES" = some (.int 1000 t)
  g_OWN : ∃ t, mg "OWN" = some (.int 0 t)
  g_BadCell : mg "BadCell" = some (.ref C.c_BadCell)
  g_BadKey : mg "BadKey" = some (.ref C.c_BadKey)
  g_BadList : mg "BadList" = some (.ref C.c_BadList)
  g_BadMarks : mg "BadMarks" = some (.ref C.c_BadMarks)
  g_BadParts : mg "BadParts" = some (.ref C.c_BadParts)
  g_BadState : mg "BadState" = some (.ref C.c_BadState)
  g_BadText : mg "BadText" = some (.ref C.c_BadText)
  g_BadValue : mg "BadValue" = some (.ref C.c_BadValue)
  x_BadList : PySem.W.excIn K C.c_BadList [.type "Exception", .type "BaseException", .type "object"] "Exception.__new__" = true
  k_BadList : PySem.W.keepIn K (.ref C.c_BadList) = true
  b_BadList : PySem.W.subIn K (.ref C.c_BadList) (.type "BaseException") = some true
  t_BadList : PySem.W.typeIn K (.ref C.c_BadList) = some (.type "type")
section
variable {K : PySem.W.Frag} {mg : Str → Option Value}
theorem b_longer (T : Tx K mg) : Binds K T.d_longer ["pool", "many"] [] := T.F_longer.binds (ps := ["pool", "many"]) fun _ _ _ _ _ _ us hl => match us, hl with | [_, _], _ => rfl
theorem b_pick (T : Tx K mg) : Binds K T.d_pick ["pool", "many"] [] := T.F_pick.binds (ps := ["pool", "many"]) fun _ _ _ _ _ _ us hl => match us, hl with | [_, _], _ => rfl
theorem b_far (T : Tx K mg) : Binds K T.d_far ["pool", "many"] [] := T.F_far.binds (ps := ["pool", "many"]) fun _ _ _ _ _ _ us hl => match us, hl with | [_, _], _ => rfl
theorem b_z (T : Tx K mg) : Binds K T.d_z ["pool", "levels"] [] := T.F_z.binds (ps := ["pool", "levels"]) fun _ _ _ _ _ _ us hl => match us, hl with | [_, _], _ => rfl
theorem b_list (T : Tx K mg) : Binds K T.d_list ["pool", "many", "shape"] [] := T.F_list.binds (ps := ["pool", "many", "shape"]) fun _ _ _ _ _ _ us hl => match us, hl with | [_, _, _], _ => rfl
theorem b_is_number (T : Tx K mg) : Binds K T.d_is_number ["value", "low", "high"] [] := T.F_is_number.binds (ps := ["value", "low", "high"]) fun _ _ _ _ _ _ us hl => match us, hl with | [_, _, _], _ => rfl
theorem b_is_whole (T : Tx K mg) : Binds K T.d_is_whole ["value"] [] := T.F_is_whole.binds (ps := ["value"]) fun _ _ _ _ _ _ us hl => match us, hl with | [_], _ => rfl
theorem b_is_node (T : Tx K mg) : Binds K T.d_is_node ["value", "nodes", "number"] [] := T.F_is_node.binds (ps := ["value", "nodes", "number"]) fun _ _ _ _ _ _ us hl => match us, hl with | [_, _, _], _ => rfl
theorem b_check_nodes (T : Tx K mg) : Binds K T.d_check_nodes ["nodes"] [] := T.F_check_nodes.binds (ps := ["nodes"]) fun _ _ _ _ _ _ us hl => match us, hl with | [_], _ => rfl
theorem b_step_of (T : Tx K mg) : Binds K T.d_step_of ["kind", "z"] [] := T.F_step_of.binds (ps := ["kind", "z"]) fun _ _ _ _ _ _ us hl => match us, hl with | [_, _], _ => rfl
theorem b_ordered (T : Tx K mg) : Binds K T.d_ordered ["nodes"] [] := T.F_ordered.binds (ps := ["nodes"]) fun _ _ _ _ _ _ us hl => match us, hl with | [_], _ => rfl
theorem b_painting_order (T : Tx K mg) : Binds K T.d_painting_order ["nodes"] [] := T.F_painting_order.binds (ps := ["nodes"]) fun _ _ _ _ _ _ us hl => match us, hl with | [_], _ => rfl
theorem b_pool (T : Tx K mg) : Binds K T.d_pool ["script"] [] := T.F_pool.binds (ps := ["script"]) fun _ _ _ _ _ _ us hl => match us, hl with | [_], _ => rfl
theorem b_stream (T : Tx K mg) : Binds K T.d_stream ["script"] [] := T.F_stream.binds (ps := ["script"]) fun _ _ _ _ _ _ us hl => match us, hl with | [_], _ => rfl
theorem b_is_context (T : Tx K mg) : Binds K T.d_is_context ["nodes", "k"] [] := T.F_is_context.binds (ps := ["nodes", "k"]) fun _ _ _ _ _ _ us hl => match us, hl with | [_, _], _ => rfl
theorem b_homes (T : Tx K mg) : Binds K T.d_homes ["nodes"] [] := T.F_homes.binds (ps := ["nodes"]) fun _ _ _ _ _ _ us hl => match us, hl with | [_], _ => rfl
theorem b_stands (T : Tx K mg) : Binds K T.d_stands ["nodes", "k", "is_whole_v"] [] := T.F_stands.binds (ps := ["nodes", "k", "is_whole_v"]) fun _ _ _ _ _ _ us hl => match us, hl with | [_, _, _], _ => rfl
theorem b_is_ahead (T : Tx K mg) : Binds K T.d_is_ahead ["nodes", "made", "one", "other"] [] := T.F_is_ahead.binds (ps := ["nodes", "made", "one", "other"]) fun _ _ _ _ _ _ us hl => match us, hl with | [_, _, _, _], _ => rfl
theorem b_is_order (T : Tx K mg) : Binds K T.d_is_order ["nodes", "told"] [] := T.F_is_order.binds (ps := ["nodes", "told"]) fun _ _ _ _ _ _ us hl => match us, hl with | [_, _], _ => rfl
theorem b_same (T : Tx K mg) : Binds K T.d_same ["told", "due"] [] := T.F_same.binds (ps := ["told", "due"]) fun _ _ _ _ _ _ us hl => match us, hl with | [_, _], _ => rfl
theorem b_is_refused (T : Tx K mg) : Binds K T.d_is_refused ["value"] [] := T.F_is_refused.binds (ps := ["value"]) fun _ _ _ _ _ _ us hl => match us, hl with | [_], _ => rfl
theorem b_opened (T : Tx K mg) : Binds K T.d_opened ["nodes", "k"] [] := T.F_opened.binds (ps := ["nodes", "k"]) fun _ _ _ _ _ _ us hl => match us, hl with | [_, _], _ => rfl
theorem b_bent (T : Tx K mg) : Binds K T.d_bent ["pool", "nodes"] [] := T.F_bent.binds (ps := ["pool", "nodes"]) fun _ _ _ _ _ _ us hl => match us, hl with | [_, _], _ => rfl
theorem b_law (T : Tx K mg) : Binds K T.d_law ["script"] [] := T.F_law.binds (ps := ["script"]) fun _ _ _ _ _ _ us hl => match us, hl with | [_], _ => rfl
end
end K62

namespace K62
open PySem PySem.Spec PyProof.Rows L2 Evl Pv
local macro_rules | `(tactic| walk_at "bx") => `(tactic| first
  | (with_reducible refine be_var (by with_unfolding_all exact rfl) ?_)
  | with_reducible refine be_int ?_
  | with_reducible refine be_str ?_
  | with_reducible refine ba_cons ?_
  | with_reducible refine ba_nil ?_
  | with_reducible refine be_cb ?_
  | with_reducible refine be_call ?_
  | with_reducible refine be_op ?_
  | with_reducible refine br_plusI ?_
  | with_reducible refine br_int ?_
  | with_reducible refine br_bl ?_
  | with_reducible refine br_eqI ?_
  | with_reducible refine br_neI ?_
  | with_reducible refine br_eqS ?_
  | with_reducible refine br_neS ?_
  | with_reducible refine br_eqB ?_
  | with_reducible refine br_neB ?_
  | with_reducible refine br_isN ?_
  | with_reducible refine br_notN ?_
  | with_reducible refine bc_int ?_
  | with_reducible refine bc_intB ?_
  | with_reducible refine bc_lenT ?_
  | with_reducible refine be_bl ?_
  | with_reducible refine be_non ?_
  | with_reducible refine be_ty ?_
  | with_reducible refine be_un ?_
  | with_reducible refine bu_int ?_
  | with_reducible refine be_ref ?_
  | with_reducible refine bt_test ?_
  | with_reducible refine bt_B ?_
  | with_reducible refine bt_not ?_
  | with_reducible refine bt_and ?_
  | with_reducible refine bt_or ?_
  | with_reducible refine ex_bl ?_
  | with_reducible refine ex_int ?_
  | with_reducible refine be_andV ?_
  | with_reducible refine be_orV ?_
  | with_reducible refine be_notV ?_
  | with_reducible refine be_if ?_
  | with_reducible refine be_chain ?_
  | with_reducible refine be_sl ?_
  | with_reducible refine bo_none ?_
  | with_reducible refine bo_some ?_
  | with_reducible refine be_tup ?_
  | with_reducible refine bt_tru ?_)
local macro_rules | `(tactic| walk_at "bs") => `(tactic| first
  | with_reducible refine bs_seq ?_
  | with_reducible refine bs_asg ?_
  | with_reducible refine bs_drop ?_
  | with_reducible refine bs_ret ?_
  | with_reducible refine bs_if ?_
  | with_reducible refine bs_next ?_
  | with_reducible refine bs_brk ?_
  | with_reducible refine bs_cont ?_
  | with_reducible refine bg_name ?_
  | with_reducible refine bs_retN ?_)
local macro_rules | `(tactic| walk_at "go") => `(tactic| repeat (first | walk_at "bx" | walk_at "bs"))
local macro_rules | `(tactic| walk_at "sub") => `(tactic| first | exact List.Sublist.refl _ | (refine List.Sublist.cons₂ _ ?_; walk_at "sub") | (refine List.Sublist.cons _ ?_; walk_at "sub"))

section
variable {K : PySem.W.Frag} {E : XK} {ds : List D} {M : Own} {P : KD}
/-! ### _law_pick -/
def pre_pick : List D → Own → KD → Prop := fun ds M P => ∃ (F : Cell → Own) (p : Addr) (c : Cell) (n : Nat) (many : Int), ds = [.raw (.ref p), .int many] ∧ M = F c ∧ PlaceF F p ∧ IsPool c n ∧ 0 < many ∧ ∀ r c', 0 ≤ r → r < many → IsPool c' n → P (.int r) (F c')
def t_pick (K : PySem.W.Frag) : TS := (tSeq (tAsg (tOp (rIx K) (tVar 0) (tC (.int 0))) (gName 2))
  (tSeq (tAsg (tOp (rPlus K) (tVar 2) (tC (.int 1))) (gSub (tVar 0) (tC (.int 0)) rSetL))
  (tSeq (tIfS (tTest (tOp rEq (tOp (rIx K) (tVar 0) (tC (.int 0))) (tCB (rLenP K) (tCons (tVar 0) tNil)))) (tAsg (tC (.int 1)) (gSub (tVar 0) (tC (.int 0)) rSetL)) tNext)
  (tRet (tOp (rI (fun _ j => 0 < j) fun i j => .int (i % j)) (tCB rInt1 (tCons (tOp (rIx K) (tVar 0) (tVar 2)) tNil)) (tVar 1))))))
theorem len_pick (h : pre_pick ds M P) : ds.length = 2 := by
  obtain ⟨F, p, c, n, many, rfl, _⟩ := h
  rfl
theorem bs_pick (h : pre_pick ds M P) : BS K E (t_pick K) (startE 3 ds) M { nx := fun _ M' => P .non M', rt := P } := by
  obtain ⟨F, p, c, n, many, rfl, rfl, hF, hc, hm, k⟩ := h
  obtain ⟨j, hj⟩ := hF
  obtain ⟨xs, rfl, ok⟩ := hc
  obtain ⟨q, hq, q1, q2⟩ := ok.first
  unfold t_pick
  walk_at "go"
  refine br_ixL (.of (.own (hj _).1)) (atI_nn (n := 0) (getMap hq)) ?_
  walk_at "go"
  refine bg_setL ?_
  walk_at "go"
  refine ⟨j, p, xs.map D.int, 0, 0, rfl, rfl, (hj _).1, ixN_nn (j := 0) (by rw [List.length_map, ok.len]; omega), ?_⟩
  rw [(hj _).2, setMap]
  have hl : (xs.set 0 ((q : Int) + 1)).length = n := by rw [List.length_set]; exact ok.len
  have h0 : (xs.set 0 ((q : Int) + 1))[0]? = some ((q : Int) + 1) := by rw [List.getElem?_set_self (by have := ok.len; have := ok.two; omega)]
  have hd : ∀ (i : Nat) (x : Int), 1 ≤ i → (xs.set 0 ((q : Int) + 1))[i]? = some x → 0 ≤ x ∧ x < 60 := fun i x hi e => by
    rw [List.getElem?_set_ne (by omega)] at e
    exact ok.digit i x hi e
  walk_at "go"
  refine br_ixL (.of (.own (hj _).1)) (atI_nn (n := 0) (getMap h0)) ?_
  walk_at "go"
  refine bc_lenL (.of (.own (hj _).1)) ?_
  walk_at "go"
  rw [List.length_map, hl]
  have hqn : q < n := q2
  -- the rest: the number at the place
  have rest : ∀ ys : List Int, PoolOk ys n → (∀ (i : Nat) (x : Int), 1 ≤ i → xs[i]? = some x → ys[i]? = some x) → BS K E (tRet (tOp (rI (fun _ j => 0 < j) fun i j => .int (i % j)) (tCB rInt1 (tCons (tOp (rIx K) (tVar 0) (tVar 2)) tNil)) (tVar 1)))
      [some (.raw (.ref p)), some (.int many), some (.int (q : Int))] (F (.lst (ys.map D.int))) { nx := fun _ M' => P .non M', rt := P } := fun ys oy hy => by
    obtain ⟨x, hx⟩ : ∃ x, xs[q]? = some x := ⟨xs[q]'(by rw [ok.len]; exact q2), List.getElem?_eq_getElem _⟩
    obtain ⟨d1, d2⟩ := ok.digit q x q1 hx
    walk_at "go"
    refine br_ixL (.of (.own (hj _).1)) (atI_nn (n := q) (getMap (hy q x q1 hx))) ?_
    walk_at "go"
    refine br_intC hm ?_
    exact k _ _ (Int.emod_nonneg _ (by omega)) (Int.emod_lt_of_pos _ hm) ⟨ys, rfl, oy⟩
  by_cases e : (q : Int) + 1 = (n : Int)
  · rw [decide_eq_true e, if_pos rfl]
    walk_at "go"
    refine bg_setL ?_
    walk_at "go"
    refine ⟨j, p, _, 0, 0, rfl, rfl, (hj _).1, ixN_nn (j := 0) (by rw [List.length_map, hl]; have := ok.two; omega), ?_⟩
    rw [(hj _).2, setMap]
    refine rest _ ?_ fun i x hi e => ?_
    · rw [List.set_set]
      exact ok.turn (q := 1) (Nat.le_refl _) (by have := ok.two; omega)
    · rw [List.getElem?_set_ne (by omega), List.getElem?_set_ne (by omega)]
      exact e
  · rw [decide_eq_false e, if_neg Bool.false_ne_true]
    refine bs_next ?_
    refine rest _ ?_ fun i x hi e => ?_
    · exact ok.turn (q := q + 1) (by omega) (by omega)
    · rw [List.getElem?_set_ne (by omega)]
      exact e
end
end K62

namespace K62
open PySem PySem.Spec PyProof.Rows L2 Evl Pv
local macro_rules | `(tactic| walk_at "bx") => `(tactic| first
  | (with_reducible refine be_var (by with_unfolding_all exact rfl) ?_)
  | with_reducible refine be_int ?_
  | with_reducible refine be_str ?_
  | with_reducible refine ba_cons ?_
  | with_reducible refine ba_nil ?_
  | with_reducible refine be_cb ?_
  | with_reducible refine be_call ?_
  | with_reducible refine be_op ?_
  | with_reducible refine br_plusI ?_
  | with_reducible refine br_int ?_
  | with_reducible refine br_bl ?_
  | with_reducible refine br_eqI ?_
  | with_reducible refine br_neI ?_
  | with_reducible refine br_eqS ?_
  | with_reducible refine br_neS ?_
  | with_reducible refine br_eqB ?_
  | with_reducible refine br_neB ?_
  | with_reducible refine br_isN ?_
  | with_reducible refine br_notN ?_
  | with_reducible refine bc_int ?_
  | with_reducible refine bc_intB ?_
  | with_reducible refine bc_lenT ?_
  | with_reducible refine be_bl ?_
  | with_reducible refine be_non ?_
  | with_reducible refine be_ty ?_
  | with_reducible refine be_un ?_
  | with_reducible refine bu_int ?_
  | with_reducible refine be_ref ?_
  | with_reducible refine bt_test ?_
  | with_reducible refine bt_B ?_
  | with_reducible refine bt_not ?_
  | with_reducible refine bt_and ?_
  | with_reducible refine bt_or ?_
  | with_reducible refine ex_bl ?_
  | with_reducible refine ex_int ?_
  | with_reducible refine be_andV ?_
  | with_reducible refine be_orV ?_
  | with_reducible refine be_notV ?_
  | with_reducible refine be_if ?_
  | with_reducible refine be_chain ?_
  | with_reducible refine be_sl ?_
  | with_reducible refine bo_none ?_
  | with_reducible refine bo_some ?_
  | with_reducible refine be_tup ?_
  | with_reducible refine bt_tru ?_)
local macro_rules | `(tactic| walk_at "bs") => `(tactic| first
  | with_reducible refine bs_seq ?_
  | with_reducible refine bs_asg ?_
  | with_reducible refine bs_drop ?_
  | with_reducible refine bs_ret ?_
  | with_reducible refine bs_if ?_
  | with_reducible refine bs_next ?_
  | with_reducible refine bs_brk ?_
  | with_reducible refine bs_cont ?_
  | with_reducible refine bg_name ?_
  | with_reducible refine bs_retN ?_)
local macro_rules | `(tactic| walk_at "go") => `(tactic| repeat (first | walk_at "bx" | walk_at "bs"))
local macro_rules | `(tactic| walk_at "sub") => `(tactic| first | exact List.Sublist.refl _ | (refine List.Sublist.cons₂ _ ?_; walk_at "sub") | (refine List.Sublist.cons _ ?_; walk_at "sub"))

section
variable {K : PySem.W.Frag} {E : XK} {ds : List D} {M : Own} {P : KD}
/-! ### _law_longer -/
def pre_longer : List D → Own → KD → Prop := fun ds M P => ∃ (F : Cell → Own) (p : Addr) (c : Cell) (n m : Nat), ds = [.raw (.ref p), .int m] ∧ M = F c ∧ PlaceF F p ∧ IsPool c n ∧ n + m ≤ 100000 ∧ ∀ c', IsPool c' (n + m) → P (.raw (.ref p)) (F c')
def t_longer (K : PySem.W.Frag) : TS := (tSeq (tAsg (tC (.int 1)) (gName 2))
  (tSeq (tFor (iList K (tVar 0)) (gName 3) (tAsg (tOp (rI (fun _ j => 0 < j) fun i j => .int (i % j)) (tCB rInt1 (tCons (tOp (rPlus K) (tOp (rPlus K) (tOp rTimes (tVar 2) (tC (.int 69621))) (tVar 3)) (tC (.int 7))) tNil)) (tC (.int 2147483647))) (gName 2)))
  (tSeq (tFor (iRng1 (tCons (tVar 1) tNil)) (gName 4) (tSeq (tAsg (tOp (rI (fun _ j => 0 < j) fun i j => .int (i % j)) (tCB rInt1 (tCons (tOp (rPlus K) (tOp rTimes (tVar 2) (tC (.int 48271))) (tC (.int 11))) tNil)) (tC (.int 2147483647))) (gName 2))
  (tDrop (tBM K "list" rAppend (tVar 0) (tCons (tOp (rI (fun _ j => 0 < j) fun i j => .int (i % j)) (tCB rInt1 (tCons (tOp (rI CDiv fun i j => .int (i / j)) (tVar 2) (tC (.int 97))) tNil)) (tC (.int 60))) tNil)))))
  (tRet (tVar 0)))))
theorem len_longer (h : pre_longer ds M P) : ds.length = 2 := by
  obtain ⟨F, p, c, n, m, rfl, _⟩ := h
  rfl
theorem bs_longer (h : pre_longer ds M P) : BS K E (t_longer K) (startE 5 ds) M { nx := fun _ M' => P .non M', rt := P } := by
  obtain ⟨F, p, c, n, m, rfl, rfl, hF, hc, hm, k⟩ := h
  obtain ⟨j, hj⟩ := id hF
  obtain ⟨xs, rfl, ok⟩ := id hc
  unfold t_longer
  walk_at "go"
  refine bs_forL ?_
  walk_at "go"
  refine ⟨xs.map D.int, .of (.own (hj _).1), fun i ρ' M' => ∃ (s : Int) (o : Option D), ρ' = [some (.raw (.ref p)), some (.int m), some (.int s), o, none] ∧ M' = F (.lst (xs.map D.int)), ⟨1, none, rfl, rfl⟩, ?_, ?_, ?_⟩
  · rintro i ρ' M' ⟨s, o, rfl, rfl⟩
    exact .of (.own (hj _).1)
  · rintro i x ρ' M' hx ⟨s, o, rfl, rfl⟩
    obtain ⟨y, hy, rfl⟩ : ∃ y, xs[i]? = some y ∧ x = D.int y := by
      rw [List.getElem?_map] at hx
      cases e : xs[i]? with
      | none => rw [e] at hx; cases hx
      | some y => rw [e] at hx; exact ⟨y, rfl, (Option.some.inj hx).symm⟩
    walk_at "go"
    refine br_timesI (.inr (by decide)) ?_
    walk_at "go"
    refine br_intC (by decide) ?_
    walk_at "go"
    exact ⟨_, _, rfl, rfl⟩
  · rintro ρ' M' ⟨s, o, rfl, rfl⟩
    walk_at "go"
    refine bs_forR1 ?_
    walk_at "go"
    refine ⟨m, rfl, by omega, by omega, fun i ρ' M' => ∃ (s : Int) (o o2 : Option D) (c' : Cell), ρ' = [some (.raw (.ref p)), some (.int m), some (.int s), o, o2] ∧ M' = F c' ∧ IsPool c' (n + i), ⟨s, o, none, _, rfl, rfl, hc⟩, ?_, ?_⟩
    · rintro i ρ' M' hi ⟨s, o, o2, c', rfl, rfl, xs', rfl, ok'⟩
      walk_at "go"
      refine br_timesI (.inr (by decide)) ?_
      walk_at "go"
      refine br_intC (by decide) ?_
      walk_at "go"
      refine be_bm ?_
      walk_at "go"
      refine ⟨ty_list (.of (.own (hj _).1)), ?_⟩
      walk_at "go"
      refine br_intC ⟨by decide, by decide⟩ ?_
      walk_at "go"
      refine br_intC (by decide) ?_
      walk_at "go"
      refine bm_append (hj _).1 (by rw [List.length_map, ok'.len]; exact Nat.lt_of_lt_of_le (show n + i < 100001 by omega) (by decide)) ?_
      rw [(hj _).2]
      refine ⟨_, _, _, _, rfl, rfl, _, ?_, ok'.more (x := (s * 48271 + 11) % 2147483647 / 97 % 60) (Int.emod_nonneg _ (by decide)) (Int.emod_lt_of_pos _ (by decide)) (by omega)⟩
      rw [List.map_append]
      rfl
    · rintro ρ' M' ⟨s, o, o2, c', rfl, rfl, hc'⟩
      walk_at "go"
      exact k c' hc'
/-! ### _law_far -/
def pre_far : List D → Own → KD → Prop := pre_pick
def t_far (K : PySem.W.Frag) : TS := (tRet (tOp (rI (fun _ j => 0 < j) fun i j => .int (i % j)) (tCB rInt1 (tCons (tOp (rPlus K) (tOp (rPlus K) (tOp rTimes (tCall (spB K (pre_pick)) [] E0 (tCons (tVar 0) (tCons (tC (.int 60)) tNil))) (tC (.int 3600))) (tOp rTimes (tCall (spB K (pre_pick)) [] E0 (tCons (tVar 0) (tCons (tC (.int 60)) tNil))) (tC (.int 60)))) (tCall (spB K (pre_pick)) [] E0 (tCons (tVar 0) (tCons (tC (.int 60)) tNil)))) tNil)) (tVar 1)))
theorem len_far (h : pre_far ds M P) : ds.length = 2 := len_pick h
theorem bs_far (h : pre_far ds M P) : BS K E (t_far K) (startE 2 ds) M { nx := fun _ M' => P .non M', rt := P } := by
  obtain ⟨F, p, c, n, many, rfl, rfl, hF, hc, hm, k⟩ := h
  unfold t_far
  walk_at "go"
  refine ⟨F, p, c, n, 60, rfl, rfl, hF, hc, by decide, fun r1 c1 a1 b1 hc1 => ?_⟩
  walk_at "go"
  refine br_timesI (.inr (by decide)) ?_
  walk_at "go"
  refine ⟨F, p, c1, n, 60, rfl, rfl, hF, hc1, by decide, fun r2 c2 a2 b2 hc2 => ?_⟩
  walk_at "go"
  refine br_timesI (.inr (by decide)) ?_
  walk_at "go"
  refine ⟨F, p, c2, n, 60, rfl, rfl, hF, hc2, by decide, fun r3 c3 a3 b3 hc3 => ?_⟩
  walk_at "go"
  refine br_intC hm ?_
  exact k _ _ (Int.emod_nonneg _ (by omega)) (Int.emod_lt_of_pos _ hm) hc3
/-! ### _law_z -/
def pre_z : List D → Own → KD → Prop := fun ds M P => ∃ (F : Cell → Own) (p : Addr) (c : Cell) (n : Nat) (dl : D) (zs : List Int), ds = [.raw (.ref p), dl] ∧ M = F c ∧ PlaceF F p ∧ IsPool c n ∧ (∀ c, IsSL (F c) dl (zs.map D.int)) ∧ 0 < zs.length ∧ ∀ z c', z ∈ zs → IsPool c' n → P (.int z) (F c')
def t_z (K : PySem.W.Frag) : TS := (tRet (tOp (rIx K) (tVar 1) (tCall (spB K (pre_pick)) [] E0 (tCons (tVar 0) (tCons (tCB (rLenP K) (tCons (tVar 1) tNil)) tNil)))))
theorem len_z (h : pre_z ds M P) : ds.length = 2 := by
  obtain ⟨F, p, c, n, dl, zs, rfl, _⟩ := h
  rfl
theorem bs_z (h : pre_z ds M P) : BS K E (t_z K) (startE 2 ds) M { nx := fun _ M' => P .non M', rt := P } := by
  obtain ⟨F, p, c, n, dl, zs, rfl, rfl, hF, hc, hl, h0, k⟩ := h
  unfold t_z
  walk_at "go"
  refine bc_lenL (hl c) ?_
  walk_at "go"
  rw [List.length_map]
  refine ⟨F, p, c, n, _, rfl, rfl, hF, hc, by omega, fun r c1 a1 b1 hc1 => ?_⟩
  have hr : r.toNat < zs.length := by omega
  refine br_ixL (hl c1) (atI_pos a1 (getMap (List.getElem?_eq_getElem hr))) ?_
  exact k _ _ (List.getElem_mem _) hc1
end
end K62

namespace K62
open PySem PySem.Spec PyProof.Rows L2 Evl Pv
local macro_rules | `(tactic| walk_at "bx") => `(tactic| first
  | (with_reducible refine be_var (by with_unfolding_all exact rfl) ?_)
  | with_reducible refine be_int ?_
  | with_reducible refine be_str ?_
  | with_reducible refine ba_cons ?_
  | with_reducible refine ba_nil ?_
  | with_reducible refine be_cb ?_
  | with_reducible refine be_call ?_
  | with_reducible refine be_op ?_
  | with_reducible refine br_plusI ?_
  | with_reducible refine br_int ?_
  | with_reducible refine br_bl ?_
  | with_reducible refine br_eqI ?_
  | with_reducible refine br_neI ?_
  | with_reducible refine br_eqS ?_
  | with_reducible refine br_neS ?_
  | with_reducible refine br_eqB ?_
  | with_reducible refine br_neB ?_
  | with_reducible refine br_isN ?_
  | with_reducible refine br_notN ?_
  | with_reducible refine bc_int ?_
  | with_reducible refine bc_intB ?_
  | with_reducible refine bc_lenT ?_
  | with_reducible refine be_bl ?_
  | with_reducible refine be_non ?_
  | with_reducible refine be_ty ?_
  | with_reducible refine be_un ?_
  | with_reducible refine bu_int ?_
  | with_reducible refine be_ref ?_
  | with_reducible refine bt_test ?_
  | with_reducible refine bt_B ?_
  | with_reducible refine bt_not ?_
  | with_reducible refine bt_and ?_
  | with_reducible refine bt_or ?_
  | with_reducible refine ex_bl ?_
  | with_reducible refine ex_int ?_
  | with_reducible refine be_andV ?_
  | with_reducible refine be_orV ?_
  | with_reducible refine be_notV ?_
  | with_reducible refine be_if ?_
  | with_reducible refine be_chain ?_
  | with_reducible refine be_sl ?_
  | with_reducible refine bo_none ?_
  | with_reducible refine bo_some ?_
  | with_reducible refine be_tup ?_
  | with_reducible refine bt_tru ?_)
local macro_rules | `(tactic| walk_at "bs") => `(tactic| first
  | with_reducible refine bs_seq ?_
  | with_reducible refine bs_asg ?_
  | with_reducible refine bs_drop ?_
  | with_reducible refine bs_ret ?_
  | with_reducible refine bs_if ?_
  | with_reducible refine bs_next ?_
  | with_reducible refine bs_brk ?_
  | with_reducible refine bs_cont ?_
  | with_reducible refine bg_name ?_
  | with_reducible refine bs_retN ?_)
local macro_rules | `(tactic| walk_at "go") => `(tactic| repeat (first | walk_at "bx" | walk_at "bs"))
local macro_rules | `(tactic| walk_at "sub") => `(tactic| first | exact List.Sublist.refl _ | (refine List.Sublist.cons₂ _ ?_; walk_at "sub") | (refine List.Sublist.cons _ ?_; walk_at "sub"))

section
variable {K : PySem.W.Frag} {E : XK} {ds : List D} {M : Own} {P : KD}
def Digs (xs : List Int) : Prop := ∀ x ∈ xs, 0 ≤ x ∧ x < 60
theorem Digs.add {xs ys : List Int} (h : Digs xs) (h2 : Digs ys) : Digs (xs ++ ys) := fun x m => by
  rcases List.mem_append.mp m with m | m
  · exact h x m
  · exact h2 x m
theorem digs1 (x : Int) : Digs [x % 60] := fun y m => by
  rw [List.mem_singleton] at m
  subst m
  exact ⟨Int.emod_nonneg _ (by decide), Int.emod_lt_of_pos _ (by decide)⟩
theorem digs2 (x y : Int) : Digs [x % 60, y % 60] := (digs1 x).add (digs1 y)
theorem map_at {ns : List Int} {i : Nat} {x : D} (h : (ns.map D.int)[i]? = some x) : ∃ y, ns[i]? = some y ∧ x = D.int y := by
  rw [List.getElem?_map] at h
  cases e : ns[i]? with
  | none => rw [e] at h; cases h
  | some y => rw [e] at h; exact ⟨y, rfl, (Option.some.inj h).symm⟩
theorem line_of {n : Nat} (h : n ≤ 100000) : n ≤ sizeLine := Nat.le_trans h (by decide)
theorem line_lt {n : Nat} (h : n ≤ 100000) : n < sizeLine := Nat.lt_of_le_of_lt h (by decide)
/-! ### _law_pool -/
def pre_pool : List D → Own → KD → Prop := fun ds M P => ∃ ns : List Int, ds = [.fls (ns.map D.int)] ∧ ns.length ≤ 63 ∧ ∀ p xs, p ∉ keysO M → Digs xs → 300 ≤ xs.length → xs.length ≤ 5000 → P (.raw (.ref p)) ((p, .lst (xs.map D.int)) :: M)
def t_pool (K : PySem.W.Frag) : TS := (tSeq (tAsg (tLst tNil) (gName 1))
  (tSeq (tFor (iList K (tVar 0)) (gName 2) (tSeq (tAsg (tOp (rI (fun _ j => 0 < j) fun i j => .int (i % j)) (tCB rInt1 (tCons (tVar 2) tNil)) (tOp (rI CPow fun i j => .int (i ^ j.toNat)) (tC (.int 60)) (tC (.int 60)))) (gName 3))
  (tIfS (tTest (tOp (rI0 fun i j => .bl (decide (j ≤ i))) (tVar 3) (tOp (rI CPow fun i j => .int (i ^ j.toNat)) (tC (.int 10)) (tC (.int 18))))) (tFor (iRng1 (tCons (tC (.int 60)) tNil)) (gName 4) (tSeq (tDrop (tBM K "list" rAppend (tVar 1) (tCons (tOp (rI (fun _ j => 0 < j) fun i j => .int (i % j)) (tCB rInt1 (tCons (tVar 3) tNil)) (tC (.int 60))) tNil)))
  (tSeq (tAsg (tCB rInt1 (tCons (tOp (rI CDiv fun i j => .int (i / j)) (tVar 3) (tC (.int 60))) tNil)) (gName 3))
  (tIfS (tTest (tOp rEq (tVar 3) (tC (.int 0)))) tBreak tNext)))) (tAsg (tOp (rPlus K) (tVar 1) (tLst (tCons (tOp (rI (fun _ j => 0 < j) fun i j => .int (i % j)) (tCB rInt1 (tCons (tVar 3) tNil)) (tC (.int 60))) (tCons (tOp (rI (fun _ j => 0 < j) fun i j => .int (i % j)) (tCB rInt1 (tCons (tOp (rI CDiv fun i j => .int (i / j)) (tVar 3) (tC (.int 60))) tNil)) (tC (.int 60))) tNil)))) (gName 1)))))
  (tSeq (tAsg (tC (.int 17)) (gName 5))
  (tSeq (tFor (iList K (tVar 0)) (gName 2) (tAsg (tOp (rI (fun _ j => 0 < j) fun i j => .int (i % j)) (tOp (rPlus K) (tOp rTimes (tVar 5) (tC (.int 31))) (tCB rInt1 (tCons (tVar 2) tNil))) (tC (.int 2147483647))) (gName 5)))
  (tSeq (tFor (iRng1 (tCons (tC (.int 300)) tNil)) (gName 4) (tSeq (tAsg (tOp (rI (fun _ j => 0 < j) fun i j => .int (i % j)) (tOp (rPlus K) (tOp rTimes (tVar 5) (tC (.int 48271))) (tC (.int 11))) (tC (.int 2147483647))) (gName 5))
  (tDrop (tBM K "list" rAppend (tVar 1) (tCons (tOp (rI (fun _ j => 0 < j) fun i j => .int (i % j)) (tCB rInt1 (tCons (tOp (rI CDiv fun i j => .int (i / j)) (tVar 5) (tC (.int 97))) tNil)) (tC (.int 60))) tNil)))))
  (tRet (tVar 1)))))))
theorem len_pool (h : pre_pool ds M P) : ds.length = 1 := by
  obtain ⟨ns, rfl, _⟩ := h
  rfl
theorem bs_pool (h : pre_pool ds M P) : BS K E (t_pool K) (startE 6 ds) M { nx := fun _ M' => P .non M', rt := P } := by
  obtain ⟨ns, rfl, hn, k⟩ := h
  unfold t_pool
  walk_at "go"
  refine be_lst ?_
  walk_at "go"
  refine ⟨by decide, fun p hp => ?_⟩
  walk_at "go"
  refine bs_forL ?_
  walk_at "go"
  refine ⟨ns.map D.int, .fls, fun i ρ' M' => ∃ (p : Addr) (xs : List Int) (a b d : Option D), ρ' = [some (.fls (ns.map D.int)), some (.raw (.ref p)), a, b, d, none] ∧ M' = (p, .lst (xs.map D.int)) :: M ∧ p ∉ keysO M ∧ Digs xs ∧ xs.length ≤ 60 * i,
    ⟨p, [], none, none, none, rfl, rfl, hp, fun x m => (nomatch m), Nat.zero_le _⟩, fun _ _ _ _ => .fls, ?_, ?_⟩
  · rintro i x ρ' M' hx ⟨p, xs, a, b, d, rfl, rfl, hp, hd, hl⟩
    obtain ⟨y, hy, rfl⟩ := map_at hx
    have hi : i < 63 := by
      have := (List.getElem?_eq_some_iff.mp hy).1
      omega
    walk_at "go"
    refine br_intC ⟨by decide, by decide, by decide⟩ ?_
    walk_at "go"
    refine br_intC (by decide) ?_
    walk_at "go"
    refine br_intC ⟨by decide, by decide, by decide⟩ ?_
    walk_at "go"
    split
    · -- the digits of a great number
      walk_at "go"
      refine bs_forR1 ?_
      walk_at "go"
      refine ⟨60, rfl, by decide, by decide, fun j ρ' M' => ∃ (ys : List Int) (z : Int) (d : Option D), ρ' = [some (.fls (ns.map D.int)), some (.raw (.ref p)), some (.int y), some (.int z), d, none] ∧ M' = (p, .lst (ys.map D.int)) :: M ∧ Digs ys ∧ ys.length ≤ 60 * i + j,
        ⟨xs, _, d, rfl, rfl, hd, by omega⟩, ?_, ?_⟩
      · rintro j ρ' M' hj ⟨ys, z, d, rfl, rfl, hdy, hly⟩
        have hj : j < 60 := hj
        walk_at "go"
        refine be_bm ?_
        walk_at "go"
        refine ⟨ty_list (.of (.own (n := 0) rfl)), ?_⟩
        walk_at "go"
        refine br_intC (by decide) ?_
        walk_at "go"
        refine bm_append (n := 0) rfl (by rw [List.length_map]; exact line_lt (by omega)) ?_
        walk_at "go"
        refine br_intC ⟨by decide, by decide⟩ ?_
        walk_at "go"
        have key : ∃ (zs : List Int), (ys.map D.int ++ [D.int (z % 60)]) = zs.map D.int ∧ Digs zs ∧ zs.length ≤ 60 * i + (j + 1) := ⟨ys ++ [z % 60], by rw [List.map_append]; rfl, hdy.add (digs1 z), by rw [List.length_append]; show ys.length + 1 ≤ _; omega⟩
        obtain ⟨zs, e1, e2, e3⟩ := key
        split
        · walk_at "go"
          exact ⟨p, zs, _, _, _, rfl, by rw [← e1]; rfl, hp, e2, by omega⟩
        · walk_at "go"
          exact ⟨zs, _, _, rfl, by rw [← e1]; rfl, e2, e3⟩
      · rintro ρ' M' ⟨ys, z, d, rfl, rfl, hdy, hly⟩
        have hly : ys.length ≤ 60 * i + 60 := hly
        exact ⟨p, ys, _, _, _, rfl, rfl, hp, hdy, by omega⟩
    · -- two digits
      walk_at "go"
      refine be_lstF ?_
      walk_at "go"
      refine br_intC (by decide) ?_
      walk_at "go"
      refine br_intC ⟨by decide, by decide⟩ ?_
      walk_at "go"
      refine br_intC (by decide) ?_
      walk_at "go"
      refine ⟨by show 2 ≤ sizeLine; decide, ?_⟩
      refine br_plusL (.own (n := 0) rfl) .lst (by rw [List.length_map]; exact line_of (show xs.length + 2 ≤ 100000 by omega)) fun p2 hp2 => ?_
      refine bg_sub (bg_name ⟨_, List.Sublist.cons₂ _ (List.Sublist.cons _ (List.Sublist.refl M)), ?_⟩)
      have hq : p2 ∉ keysO M := fun z => hp2 (List.mem_cons_of_mem _ z)
      refine ⟨p2, xs ++ [y % 60 ^ Int.toNat 60 % 60, y % 60 ^ Int.toNat 60 / 60 % 60], _, _, _, rfl, ?_, hq, hd.add (digs2 _ _), by rw [List.length_append]; show xs.length + 2 ≤ _; omega⟩
      rw [List.map_append]
      rfl
  · rintro ρ' M' ⟨p, xs, a, b, d, rfl, rfl, hp, hd, hl⟩
    rw [List.length_map] at hl
    walk_at "go"
    refine bs_forL ?_
    walk_at "go"
    refine ⟨ns.map D.int, .fls, fun i ρ' M' => ∃ (a b d : Option D) (s : Int), ρ' = [some (.fls (ns.map D.int)), some (.raw (.ref p)), a, b, d, some (.int s)] ∧ M' = (p, .lst (xs.map D.int)) :: M, ⟨a, b, d, 17, rfl, rfl⟩, fun _ _ _ _ => .fls, ?_, ?_⟩
    · rintro i x ρ' M' hx ⟨a, b, d, s, rfl, rfl⟩
      obtain ⟨y, hy, rfl⟩ := map_at hx
      walk_at "go"
      refine br_timesI (.inr (by decide)) ?_
      walk_at "go"
      refine br_intC (by decide) ?_
      walk_at "go"
      exact ⟨_, _, _, _, rfl, rfl⟩
    · rintro ρ' M' ⟨a, b, d, s, rfl, rfl⟩
      walk_at "go"
      refine bs_forR1 ?_
      walk_at "go"
      refine ⟨300, rfl, by decide, by decide, fun i ρ' M' => ∃ (ys : List Int) (d : Option D) (s : Int), ρ' = [some (.fls (ns.map D.int)), some (.raw (.ref p)), a, b, d, some (.int s)] ∧ M' = (p, .lst (ys.map D.int)) :: M ∧ Digs ys ∧ ys.length = xs.length + i, ⟨xs, d, s, rfl, rfl, hd, rfl⟩, ?_, ?_⟩
      · rintro i ρ' M' hi ⟨ys, d, s, rfl, rfl, hdy, hly⟩
        have hi : i < 300 := hi
        walk_at "go"
        refine br_timesI (.inr (by decide)) ?_
        walk_at "go"
        refine br_intC (by decide) ?_
        walk_at "go"
        refine be_bm ?_
        walk_at "go"
        refine ⟨ty_list (.of (.own (n := 0) rfl)), ?_⟩
        walk_at "go"
        refine br_intC ⟨by decide, by decide⟩ ?_
        walk_at "go"
        refine br_intC (by decide) ?_
        walk_at "go"
        refine bm_append (n := 0) rfl (by rw [List.length_map]; exact line_lt (by omega)) ?_
        refine ⟨ys ++ [(s * 48271 + 11) % 2147483647 / 97 % 60], _, _, rfl, ?_, hdy.add (digs1 _), by rw [List.length_append]; show ys.length + 1 = _; omega⟩
        rw [List.map_append]
        rfl
      · rintro ρ' M' ⟨ys, d, s, rfl, rfl, hdy, hly⟩
        have hly : ys.length = xs.length + 300 := hly
        walk_at "go"
        exact k p ys hp hdy (by omega) (by omega)
/-! ### _law_stream -/
def pre_stream : List D → Own → KD → Prop := fun ds M P => ∃ ns : List Int, ds = [.fls (ns.map D.int)] ∧ ns.length ≤ 63 ∧ ∀ p c n, p ∉ keysO M → IsPool c n → n ≤ 6000 → P (.raw (.ref p)) ((p, c) :: M)
def t_stream (K : PySem.W.Frag) : TS := (tRet (tOp (rPlus K) (tLst (tCons (tC (.int 1)) tNil)) (tCall (spB K (pre_pool)) [] E0 (tCons (tVar 0) tNil))))
theorem len_stream (h : pre_stream ds M P) : ds.length = 1 := by
  obtain ⟨ns, rfl, _⟩ := h
  rfl
theorem bs_stream (h : pre_stream ds M P) : BS K E (t_stream K) (startE 1 ds) M { nx := fun _ M' => P .non M', rt := P } := by
  obtain ⟨ns, rfl, hn, k⟩ := h
  unfold t_stream
  refine bs_ret (be_sub ?_)
  walk_at "go"
  refine be_lstF ?_
  walk_at "go"
  refine ⟨by decide, ?_⟩
  walk_at "go"
  refine ⟨ns, rfl, hn, fun p xs hp hd h1 h2 => ?_⟩
  refine br_plusL .lst (.own (n := 0) rfl) (by rw [List.length_map]; exact line_of (show 1 + xs.length ≤ 100000 by omega)) fun q hq => ?_
  refine ⟨_, List.Sublist.cons₂ _ (List.Sublist.cons _ (List.Sublist.refl M)), k q _ (1 + xs.length) (fun z => hq (List.mem_cons_of_mem _ z)) ⟨1 :: xs, rfl, ?_⟩ (by omega)⟩
  refine ⟨by rw [List.length_cons]; omega, by omega, by omega, ⟨1, rfl, Nat.le_refl _, by omega⟩, fun i x hi e => ?_⟩
  obtain ⟨j, rfl⟩ : ∃ j, i = j + 1 := ⟨i - 1, by omega⟩
  exact hd x (List.mem_of_getElem? e)
end
end K62

namespace K62
open PySem PySem.Spec PyProof.Rows L2 Evl Pv
/-! ### nodes, ways -/
inductive Kd where
  | block | float | box | over | text
  deriving DecidableEq
def Kd.str : Kd → Str
  | .block => "block" | .float => "float" | .box => "box" | .over => "over" | .text => "text"
structure Nd where
  par : Option Nat
  kind : Kd
  z : Int
def encP : Option Nat → D
  | none => .non
  | some n => .int n
def Nd.enc (x : Nd) : D := .tup [encP x.par, .str x.kind.str, .int x.z]
def parOf (ns : List Nd) (i : Nat) : Option Nat := (ns[i]?).bind (·.par)
def path (ns : List Nd) (i : Nat) : List Nat :=
  match parOf ns i with
  | none => [i]
  | some p => if _h : p < i then path ns p ++ [i] else [i]
termination_by i
theorem path_none {ns : List Nd} {i : Nat} (h : parOf ns i = none) : path ns i = [i] := by
  rw [path, h]
theorem path_some {ns : List Nd} {i p : Nat} (h : parOf ns i = some p) (hp : p < i) : path ns i = path ns p ++ [i] := by
  rw [path, h]
  simp [hp]
theorem path_last (ns : List Nd) (i : Nat) : ∃ l, path ns i = l ++ [i] := by
  rw [path]
  split
  · exact ⟨[], rfl⟩
  · split
    · exact ⟨_, rfl⟩
    · exact ⟨[], rfl⟩
theorem mem_path_self (ns : List Nd) (i : Nat) : i ∈ path ns i := by
  obtain ⟨l, e⟩ := path_last ns i
  rw [e]
  exact List.mem_append_right _ List.mem_cons_self
theorem mem_path_le {ns : List Nd} : ∀ {i a : Nat}, a ∈ path ns i → a ≤ i := by
  intro i
  induction i using Nat.strongRecOn with
  | _ i ih =>
    intro a h
    rw [path] at h
    split at h
    · rw [List.mem_singleton] at h
      omega
    · rename_i p hp
      split at h
      · rename_i hlt
        rcases List.mem_append.mp h with h | h
        · have := ih p hlt h
          omega
        · rw [List.mem_singleton] at h
          omega
      · rw [List.mem_singleton] at h
        omega
/-- what stands on the way to i has its own way as the way's beginning -/
theorem path_pre {ns : List Nd} : ∀ {i a : Nat}, a ∈ path ns i → ∃ l, path ns i = path ns a ++ l ∧ ∀ b ∈ l, a < b := by
  intro i
  induction i using Nat.strongRecOn with
  | _ i ih =>
    intro a h
    by_cases e : a = i
    · subst e
      exact ⟨[], by rw [List.append_nil], fun b m => (nomatch m)⟩
    rw [path] at h ⊢
    split at h
    · rw [List.mem_singleton] at h
      exact absurd h e
    · rename_i p hp
      split at h
      · rename_i hlt
        rcases List.mem_append.mp h with h | h
        · obtain ⟨l, e1, e2⟩ := ih p hlt h
          refine ⟨l ++ [i], ?_, fun b m => ?_⟩
          · rw [dif_pos hlt, e1, List.append_assoc]
          · rcases List.mem_append.mp m with m | m
            · exact e2 b m
            · rw [List.mem_singleton] at m
              have := mem_path_le h
              omega
        · rw [List.mem_singleton] at h
          exact absurd h e
      · rw [List.mem_singleton] at h
        exact absurd h e
theorem path_trans {ns : List Nd} {i a b : Nat} (h1 : a ∈ path ns b) (h2 : b ∈ path ns i) : a ∈ path ns i := by
  obtain ⟨l, e, _⟩ := path_pre h2
  rw [e]
  exact List.mem_append_left _ h1
theorem parOf_append {ns ms : List Nd} {i : Nat} (h : i < ns.length) : parOf (ns ++ ms) i = parOf ns i := by
  unfold parOf
  rw [List.getElem?_append_left h]
theorem path_append {ns ms : List Nd} : ∀ {i : Nat}, i < ns.length → path (ns ++ ms) i = path ns i := by
  intro i
  induction i using Nat.strongRecOn with
  | _ i ih =>
    intro h
    rw [path, path, parOf_append h]
    split
    · rfl
    · rename_i p hp
      split
      · rename_i hlt
        rw [ih p hlt (by omega)]
      · rfl
/-- right lists -/
structure GoodN (ns : List Nd) : Prop where
  zero : ∀ x, ns[0]? = some x → x.par = none ∧ x.kind ≠ .text
  succ : ∀ i x, ns[i + 1]? = some x → ∃ p y, x.par = some p ∧ p ≤ i ∧ ns[p]? = some y ∧ y.kind ≠ .text ∧ p ∈ path ns i
theorem GoodN.one {x : Nd} (h1 : x.par = none) (h2 : x.kind ≠ .text) : GoodN [x] := ⟨fun y e => by
  cases e
  exact ⟨h1, h2⟩, fun i y e => by simp at e⟩
theorem GoodN.add {ns : List Nd} (g : GoodN ns) {p : Nat} {y x : Nd} (hn : 0 < ns.length) (hp : ns[p]? = some y) (hk : y.kind ≠ .text) (hm : p ∈ path ns (ns.length - 1)) (hx : x.par = some p) : GoodN (ns ++ [x]) where
  zero := fun z e => by
    rw [List.getElem?_append_left hn] at e
    exact g.zero z e
  succ := fun i z e => by
    by_cases h : i + 1 < ns.length
    · rw [List.getElem?_append_left h] at e
      obtain ⟨q, w, e1, e2, e3, e4, e5⟩ := g.succ i z e
      exact ⟨q, w, e1, e2, by rw [List.getElem?_append_left (by omega)]; exact e3, e4, by rw [path_append (by omega)]; exact e5⟩
    · have hl := (List.getElem?_eq_some_iff.mp e).1
      rw [List.length_append, List.length_singleton] at hl
      have hi : i + 1 = ns.length := by omega
      rw [hi, List.getElem?_append_right (Nat.le_refl _), Nat.sub_self] at e
      cases e
      have hi' : ns.length - 1 = i := by omega
      rw [hi'] at hm
      have hpl := mem_path_le hm
      exact ⟨p, y, hx, hpl, by rw [List.getElem?_append_left (by omega)]; exact hp, hk, by rw [path_append (by omega)]; exact hm⟩
theorem parOf_last {ns : List Nd} {x : Nd} : parOf (ns ++ [x]) ns.length = x.par := by
  unfold parOf
  rw [List.getElem?_append_right (Nat.le_refl _), Nat.sub_self]
  rfl
theorem path_new {ns : List Nd} {x : Nd} {p : Nat} (hx : x.par = some p) (hp : p < ns.length) : path (ns ++ [x]) ns.length = path ns p ++ [ns.length] := by
  rw [path_some (by rw [parOf_last]; exact hx) hp, path_append hp]
theorem GoodN.par {ns : List Nd} (g : GoodN ns) {i p : Nat} (h : parOf ns i = some p) : p < i ∧ ∃ y, ns[p]? = some y ∧ y.kind ≠ .text := by
  unfold parOf at h
  cases e : ns[i]? with
  | none =>
    rw [e] at h
    cases h
  | some x =>
    rw [e] at h
    have hx : x.par = some p := h
    cases i with
    | zero =>
      have := (g.zero x e).1
      rw [this] at hx
      cases hx
    | succ i =>
      obtain ⟨q, w, e1, e2, e3, e4, e5⟩ := g.succ i x e
      rw [hx] at e1
      cases e1
      exact ⟨by omega, w, e3, e4⟩
/-- all on the way to a node that is no text are none -/
theorem GoodN.way {ns : List Nd} (g : GoodN ns) : ∀ {i a : Nat} {x : Nd}, ns[i]? = some x → x.kind ≠ .text → a ∈ path ns i → ∃ y, ns[a]? = some y ∧ y.kind ≠ .text := by
  intro i
  induction i using Nat.strongRecOn with
  | _ i ih =>
    intro a x hx hk h
    by_cases e : a = i
    · subst e
      exact ⟨x, hx, hk⟩
    rw [path] at h
    split at h
    · rw [List.mem_singleton] at h
      exact absurd h e
    · rename_i p hp
      obtain ⟨hlt, y, hy, hyk⟩ := g.par hp
      rw [dif_pos hlt] at h
      rcases List.mem_append.mp h with h | h
      · exact ih p hlt hy hyk h
      · rw [List.mem_singleton] at h
        exact absurd h e
theorem path_len {ns : List Nd} : ∀ {i : Nat}, (path ns i).length ≤ i + 1 := by
  intro i
  induction i using Nat.strongRecOn with
  | _ i ih =>
    rw [path]
    split
    · exact Nat.le_add_left _ _
    · rename_i p hp
      split
      · rename_i hlt
        have := ih p hlt
        rw [List.length_append]
        show (path ns p).length + 1 ≤ _
        omega
      · exact Nat.le_add_left _ _
theorem path_lt {ns : List Nd} {i a : Nat} (h : a ∈ path ns i) (hi : i < ns.length) : a < ns.length := Nat.lt_of_le_of_lt (mem_path_le h) hi
/-- the beginning of a way, up to the d-th -/
theorem path_take {ns : List Nd} {i a d : Nat} (h : (path ns i)[d]? = some a) : (path ns i).take (d + 1) = path ns a := by
  have hm := List.mem_of_getElem? h
  obtain ⟨l, e, hl⟩ := path_pre hm
  obtain ⟨m, em⟩ := path_last ns a
  have hd : d = m.length := by
    rw [e, em] at h
    rcases Nat.lt_trichotomy d m.length with q | q | q
    · rw [List.append_assoc, List.getElem?_append_left q] at h
      have hma := List.mem_of_getElem? h
      have nd : ∀ {j b : Nat}, b ∈ path ns j → ∀ l', path ns j = l' ++ [j] → b ∈ l' → b < j := by
        intro j b _ l' e' hb
        have hlt : ∀ {j : Nat} {l' : List Nat}, path ns j = l' ++ [j] → ∀ b ∈ l', b < j := by
          intro j l' e' b hb
          rw [path] at e'
          split at e'
          · have := congrArg List.length e'
            rw [List.length_append] at this
            have : l' = [] := List.eq_nil_of_length_eq_zero (by simp at this; simpa using this)
            rw [this] at hb
            cases hb
          · rename_i p hp
            split at e'
            · rename_i hlt
              have e2 := (List.append_inj_left' e' rfl)
              rw [← e2] at hb
              have := mem_path_le hb
              omega
            · have := congrArg List.length e'
              rw [List.length_append] at this
              have : l' = [] := List.eq_nil_of_length_eq_zero (by simp at this; simpa using this)
              rw [this] at hb
              cases hb
        exact hlt e' b hb
      have := nd (mem_path_self ns a) m em hma
      omega
    · exact q
    · rw [List.getElem?_append_right (by rw [List.length_append]; show m.length + 1 ≤ d; omega)] at h
      have := hl a (List.mem_of_getElem? h)
      omega
  subst hd
  rw [e, em, List.take_append_of_le_length (by rw [List.length_append]; exact Nat.le_refl _)]
  exact List.take_of_length_le (by rw [List.length_append]; exact Nat.le_refl _)
end K62

namespace K62
open PySem PySem.Spec PyProof.Rows L2 Evl Pv
/-! ### contexts, ways, keys -/
def Kd.isC : Kd → Bool
  | .float => true
  | .box => true
  | .over => true
  | _ => false
def kdOf (ns : List Nd) (k : Nat) : Kd := ((ns[k]?).map (·.kind)).getD .block
def zOf (ns : List Nd) (k : Nat) : Int := ((ns[k]?).map (·.z)).getD 0
def pr (ns : List Nd) (k : Nat) : Nat := (parOf ns k).getD 0
def ctx (ns : List Nd) (k : Nat) : Bool := k == 0 || (kdOf ns k).isC
def stT (kd : Kd) (z : Int) (k : Nat) : List Int := match kd with
  | .over => [if z > 0 then 6 else if z < 0 then 1 else 5, z, k]
  | .block => [2, 0, k]
  | .float => [3, 0, k]
  | .box => [4, 0, k]
  | .text => [4, 0, k]
def st (ns : List Nd) (k : Nat) (wh : Bool) : List Int := if (!wh && ctx ns k) = true then [0, 0, k] else stT (kdOf ns k) (zOf ns k) k
def way (ns : List Nd) (k : Nat) : List (List Int) :=
  if k = 0 then [] else if _h : pr ns k < k then (if ctx ns k = true then way ns (pr ns k) ++ [st ns k true] else way ns (pr ns k)) else []
termination_by k
def home (ns : List Nd) (k : Nat) : Nat :=
  if ctx ns k = true then k else if _h : pr ns k < k then home ns (pr ns k) else 0
termination_by k
def arnd (ns : List Nd) (k : Nat) : Nat :=
  if k = 0 then 0 else if _h : pr ns k < k then (if ctx ns k = true then home ns (pr ns k) else arnd ns (pr ns k)) else 0
termination_by k
def key (ns : List Nd) (k : Nat) : List (List Int) := way ns k ++ [st ns k false]
def Desc (ns : List Nd) : Prop := ∀ k, 0 < k → k < ns.length → pr ns k < k
theorem way_zero {ns : List Nd} : way ns 0 = [] := by rw [way]; rfl
theorem ctx_zero {ns : List Nd} : ctx ns 0 = true := rfl
theorem way_ctx {ns : List Nd} {k : Nat} (h0 : 0 < k) (h : pr ns k < k) (c : ctx ns k = true) : way ns k = way ns (pr ns k) ++ [st ns k true] := by
  rw [way, if_neg (by omega), dif_pos h, if_pos c]
theorem way_non {ns : List Nd} {k : Nat} (h0 : 0 < k) (h : pr ns k < k) (c : ctx ns k = false) : way ns k = way ns (pr ns k) := by
  rw [way, if_neg (by omega), dif_pos h, if_neg (by rw [c]; exact Bool.false_ne_true)]
theorem home_ctx {ns : List Nd} {k : Nat} (c : ctx ns k = true) : home ns k = k := by
  rw [home, if_pos c]
theorem home_non {ns : List Nd} {k : Nat} (h : pr ns k < k) (c : ctx ns k = false) : home ns k = home ns (pr ns k) := by
  rw [home, if_neg (by rw [c]; exact Bool.false_ne_true), dif_pos h]
theorem arnd_ctx {ns : List Nd} {k : Nat} (h0 : 0 < k) (h : pr ns k < k) (c : ctx ns k = true) : arnd ns k = home ns (pr ns k) := by
  rw [arnd, if_neg (by omega), dif_pos h, if_pos c]
theorem arnd_non {ns : List Nd} {k : Nat} (h0 : 0 < k) (h : pr ns k < k) (c : ctx ns k = false) : arnd ns k = arnd ns (pr ns k) := by
  rw [arnd, if_neg (by omega), dif_pos h, if_neg (by rw [c]; exact Bool.false_ne_true)]
theorem ctx_pos {ns : List Nd} {k : Nat} (c : ctx ns k = false) : 0 < k := by
  cases k with
  | zero => cases c
  | succ k => exact Nat.succ_pos _
theorem home_ok {ns : List Nd} (g : Desc ns) : ∀ {k : Nat}, k < ns.length → way ns (home ns k) = way ns k ∧ ctx ns (home ns k) = true ∧ home ns k ≤ k := by
  intro k
  induction k using Nat.strongRecOn with
  | _ k ih =>
    intro hk
    cases c : ctx ns k with
    | true =>
      rw [home_ctx c]
      exact ⟨rfl, c, Nat.le_refl _⟩
    | false =>
      have h0 := ctx_pos c
      have h := g k h0 hk
      obtain ⟨a1, a2, a3⟩ := ih _ h (by omega)
      rw [home_non h c, way_non h0 h c]
      exact ⟨a1, a2, by omega⟩
theorem up {ns : List Nd} (g : Desc ns) {k : Nat} (hk : k < ns.length) (h0 : 0 < k) (c : ctx ns k = true) : way ns k = way ns (arnd ns k) ++ [st ns k true] ∧ ctx ns (arnd ns k) = true ∧ arnd ns k < k := by
  have h := g k h0 hk
  obtain ⟨a1, a2, a3⟩ := home_ok g (k := pr ns k) (by omega)
  rw [arnd_ctx h0 h c, way_ctx h0 h c, a1]
  exact ⟨rfl, a2, by omega⟩
theorem way_len {ns : List Nd} (g : Desc ns) : ∀ {k : Nat}, k < ns.length → (way ns k).length ≤ k := by
  intro k
  induction k using Nat.strongRecOn with
  | _ k ih =>
    intro hk
    by_cases h0 : k = 0
    · subst h0
      rw [way_zero]
      exact Nat.le_refl _
    have h := g k (by omega) hk
    have := ih _ h (by omega)
    cases c : ctx ns k with
    | true =>
      rw [way_ctx (by omega) h c, List.length_append, List.length_singleton]
      omega
    | false =>
      rw [way_non (by omega) h c]
      omega
theorem stT_last (kd : Kd) (z : Int) (k : Nat) : ∃ a b, stT kd z k = [a, b, (k : Int)] ∧ a ≠ 0 := by
  cases kd with
  | over =>
    refine ⟨_, _, rfl, ?_⟩
    split
    · decide
    · split <;> decide
  | block => exact ⟨_, _, rfl, by decide⟩
  | float => exact ⟨_, _, rfl, by decide⟩
  | box => exact ⟨_, _, rfl, by decide⟩
  | text => exact ⟨_, _, rfl, by decide⟩
theorem st_last (ns : List Nd) (k : Nat) (w : Bool) : ∃ a b, st ns k w = [a, b, (k : Int)] ∧ (w = true → a ≠ 0) ∧ (w = false → ctx ns k = true → a = 0) := by
  unfold st
  obtain ⟨a, b, e, h⟩ := stT_last (kdOf ns k) (zOf ns k) k
  split
  · rename_i q
    refine ⟨0, 0, rfl, fun z => ?_, fun _ _ => rfl⟩
    rw [z] at q
    cases q
  · rename_i q
    refine ⟨a, b, e, fun _ => h, fun z c => ?_⟩
    rw [z, c] at q
    exact absurd rfl q
theorem st_inj {ns : List Nd} {k j : Nat} {v w : Bool} (h : st ns k v = st ns j w) : k = j := by
  obtain ⟨a, b, e, _⟩ := st_last ns k v
  obtain ⟨a', b', e', _⟩ := st_last ns j w
  rw [e, e'] at h
  simp at h
  omega
theorem st_ne {ns : List Nd} {c k : Nat} (hc : ctx ns c = true) : st ns c true ≠ st ns k false := fun h => by
  have q := st_inj h
  subst q
  obtain ⟨a, b, e, h1, _⟩ := st_last ns c true
  obtain ⟨a', b', e', _, h2⟩ := st_last ns c false
  rw [e, e'] at h
  simp at h
  have := h2 rfl hc
  have := h1 rfl
  omega
theorem mem_way {ns : List Nd} (g : Desc ns) {x : List Int} : ∀ {k : Nat}, k < ns.length → x ∈ way ns k → ∃ c, ctx ns c = true ∧ x = st ns c true := by
  intro k
  induction k using Nat.strongRecOn with
  | _ k ih =>
    intro hk m
    by_cases h0 : k = 0
    · subst h0
      rw [way_zero] at m
      cases m
    have h := g k (by omega) hk
    cases c : ctx ns k with
    | true =>
      rw [way_ctx (by omega) h c] at m
      rcases List.mem_append.mp m with m | m
      · exact ih _ h (by omega) m
      · rw [List.mem_singleton] at m
        exact ⟨k, c, m⟩
    | false =>
      rw [way_non (by omega) h c] at m
      exact ih _ h (by omega) m
theorem way_inj {ns : List Nd} (g : Desc ns) {a b : Nat} (ha : a < ns.length) (hb : b < ns.length) (ca : ctx ns a = true) (cb : ctx ns b = true) (e : way ns a = way ns b) : a = b := by
  by_cases a0 : a = 0
  · by_cases b0 : b = 0
    · omega
    · subst a0
      rw [way_zero, (up g hb (by omega) cb).1] at e
      simp at e
  · by_cases b0 : b = 0
    · subst b0
      rw [way_zero, (up g ha (by omega) ca).1] at e
      simp at e
    · rw [(up g ha (by omega) ca).1, (up g hb (by omega) cb).1] at e
      have := List.append_inj_right' e rfl
      simp at this
      exact st_inj this
/-- lists, one the other's beginning, or they part -/
theorem part {α : Type} [DecidableEq α] : ∀ (xs ys : List α), (∃ r, ys = xs ++ r) ∨ (∃ r, xs = ys ++ r) ∨ ∃ C x y r s, xs = C ++ x :: r ∧ ys = C ++ y :: s ∧ x ≠ y
  | [], ys => .inl ⟨ys, rfl⟩
  | xs, [] => .inr (.inl ⟨xs, rfl⟩)
  | x :: xs, y :: ys => by
    by_cases h : x = y
    · subst h
      rcases part xs ys with ⟨r, e⟩ | ⟨r, e⟩ | ⟨C, a, b, r, s, e1, e2, e3⟩
      · exact .inl ⟨r, by rw [e]; rfl⟩
      · exact .inr (.inl ⟨r, by rw [e]; rfl⟩)
      · exact .inr (.inr ⟨x :: C, a, b, r, s, by rw [e1]; rfl, by rw [e2]; rfl, e3⟩)
    · exact .inr (.inr ⟨[], x, y, xs, ys, rfl, rfl, h⟩)
theorem key_pre {ns : List Nd} (g : Desc ns) {a b : Nat} (hb : b < ns.length) {r : List (List Int)} (h : key ns b = key ns a ++ r) : a = b := by
  unfold key at h
  cases r with
  | nil =>
    rw [List.append_nil] at h
    have := List.append_inj_right' h rfl
    simp at this
    exact (st_inj this).symm
  | cons x r =>
    have hm : st ns a false ∈ way ns b := by
      have e : way ns b = (way ns a ++ [st ns a false] ++ (x :: r)).dropLast := by
        rw [← h, List.dropLast_concat]
      rw [e, List.dropLast_append_of_ne_nil (by simp)]
      exact List.mem_append_left _ (List.mem_append_right _ List.mem_cons_self)
    obtain ⟨c, hc, e⟩ := mem_way g hb hm
    exact absurd e.symm (st_ne hc)
theorem key_part {ns : List Nd} (g : Desc ns) {a b : Nat} (ha : a < ns.length) (hb : b < ns.length) (ne : a ≠ b) : ∃ C x y r s, key ns a = C ++ x :: r ∧ key ns b = C ++ y :: s ∧ x ≠ y := by
  rcases part (key ns a) (key ns b) with ⟨r, e⟩ | ⟨r, e⟩ | h
  · exact absurd (key_pre g hb e) ne
  · exact absurd (key_pre g ha e).symm ne
  · exact h
/-- a before b, by their keys -/
def Bef (ns : List Nd) (a b : Nat) : Prop := ∀ C x y r s, key ns a = C ++ x :: r → key ns b = C ++ y :: s → x ≠ y → HT.lexLt x y = true
/-- the climb -/
structure Climb (ns : List Nd) (a b : Nat) (p q : Nat) (f s : List Int) (i : Nat) (C : List (List Int)) : Prop where
  pl : p < ns.length
  ql : q < ns.length
  pc : ctx ns p = true
  qc : ctx ns q = true
  pk : ∃ r, key ns a = way ns p ++ f :: r
  qk : ∃ r, key ns b = way ns q ++ s :: r
  pn : C.length ≤ (way ns p).length
  qn : C.length ≤ (way ns q).length
  nn : (way ns p).length + (way ns q).length + i < 2 * ns.length
theorem Climb.start {ns : List Nd} (g : Desc ns) {a b : Nat} (ha : a < ns.length) (hb : b < ns.length) {C r s : List (List Int)} {x y : List Int} (e1 : key ns a = C ++ x :: r) (e2 : key ns b = C ++ y :: s) : Climb ns a b (home ns a) (home ns b) (st ns a false) (st ns b false) 0 C := by
  obtain ⟨a1, a2, a3⟩ := home_ok g ha
  obtain ⟨b1, b2, b3⟩ := home_ok g hb
  have la := way_len g ha
  have lb := way_len g hb
  refine ⟨by omega, by omega, a2, b2, ⟨[], by rw [a1]; rfl⟩, ⟨[], by rw [b1]; rfl⟩, ?_, ?_, by rw [a1, b1]; omega⟩
  · have := congrArg List.length e1
    unfold key at this
    rw [List.length_append, List.length_append, List.length_cons, List.length_cons, List.length_nil] at this
    rw [a1]
    omega
  · have := congrArg List.length e2
    unfold key at this
    rw [List.length_append, List.length_append, List.length_cons, List.length_cons, List.length_nil] at this
    rw [b1]
    omega
theorem take_way {ns : List Nd} {a p : Nat} {C r r' : List (List Int)} {x f : List Int} (e : key ns a = C ++ x :: r) (e' : key ns a = way ns p ++ f :: r') (l : (way ns p).length = C.length) : way ns p = C ∧ f = x := by
  rw [e] at e'
  obtain ⟨h1, h2⟩ := List.append_inj e' l.symm
  cases h2
  exact ⟨h1.symm, rfl⟩
theorem Climb.done {ns : List Nd} {a b p : Nat} {f s : List Int} {i : Nat} {C r t : List (List Int)} {x y : List Int} (e1 : key ns a = C ++ x :: r) (e2 : key ns b = C ++ y :: t) (ne : x ≠ y) (h : Climb ns a b p p f s i C) : f = x ∧ s = y := by
  obtain ⟨u, hu⟩ := h.pk
  obtain ⟨v, hv⟩ := h.qk
  have l : (way ns p).length = C.length := by
    rcases Nat.lt_or_ge C.length (way ns p).length with q | q
    · exfalso
      have g1 : (key ns a)[C.length]? = some x := by rw [e1, List.getElem?_append_right (Nat.le_refl _), Nat.sub_self]; rfl
      have g2 : (key ns b)[C.length]? = some y := by rw [e2, List.getElem?_append_right (Nat.le_refl _), Nat.sub_self]; rfl
      rw [hu, List.getElem?_append_left q] at g1
      rw [hv, List.getElem?_append_left q] at g2
      rw [g1] at g2
      exact ne (Option.some.inj g2)
    · have := h.pn
      omega
  exact ⟨(take_way e1 hu l).2, (take_way e2 hv l).2⟩
theorem Climb.left {ns : List Nd} (g : Desc ns) {a b p q : Nat} {f s : List Int} {i : Nat} {C r t : List (List Int)} {x y : List Int} (e1 : key ns a = C ++ x :: r) (e2 : key ns b = C ++ y :: t) (h : Climb ns a b p q f s i C) (ne : p ≠ q) (hl : (way ns q).length ≤ (way ns p).length) : Climb ns a b (arnd ns p) q (st ns p true) s (i + 1) C := by
  obtain ⟨u, hu⟩ := h.pk
  obtain ⟨v, hv⟩ := h.qk
  have lt : C.length < (way ns p).length := by
    rcases Nat.lt_or_ge C.length (way ns p).length with z | z
    · exact z
    · exfalso
      have h1 := h.pn
      have h2 := h.qn
      refine ne (way_inj g h.pl h.ql h.pc h.qc ?_)
      rw [(take_way e1 hu (by omega)).1, (take_way e2 hv (by omega)).1]
  have p0 : 0 < p := by
    rcases Nat.eq_zero_or_pos p with z | z
    · rw [z, way_zero] at lt
      cases lt
    · exact z
  obtain ⟨w1, w2, w3⟩ := up g h.pl p0 h.pc
  have hl2 := congrArg List.length w1
  rw [List.length_append, List.length_singleton] at hl2
  have := h.pl
  have := h.nn
  refine ⟨by omega, h.ql, w2, h.qc, ⟨f :: u, ?_⟩, h.qk, by omega, h.qn, by omega⟩
  rw [hu, w1, List.append_assoc]
  rfl
theorem Climb.symm {ns : List Nd} {a b p q : Nat} {f s : List Int} {i : Nat} {C : List (List Int)} (h : Climb ns a b p q f s i C) : Climb ns b a q p s f i C :=
  ⟨h.ql, h.pl, h.qc, h.pc, h.qk, h.pk, h.qn, h.pn, by have := h.nn; omega⟩
theorem Climb.right {ns : List Nd} (g : Desc ns) {a b p q : Nat} {f s : List Int} {i : Nat} {C r t : List (List Int)} {x y : List Int} (e1 : key ns a = C ++ x :: r) (e2 : key ns b = C ++ y :: t) (h : Climb ns a b p q f s i C) (ne : p ≠ q) (hl : (way ns p).length ≤ (way ns q).length) : Climb ns a b p (arnd ns q) f (st ns q true) (i + 1) C :=
  (Climb.left g e2 e1 h.symm (fun z => ne z.symm) hl).symm
theorem GoodN.desc {ns : List Nd} (g : GoodN ns) : Desc ns := fun k h0 hk => by
  obtain ⟨j, rfl⟩ : ∃ j, k = j + 1 := ⟨k - 1, by omega⟩
  obtain ⟨p, y, e1, e2, _⟩ := g.succ j _ (List.getElem?_eq_getElem hk)
  unfold pr parOf
  rw [List.getElem?_eq_getElem hk]
  show (Option.getD (ns[j + 1].par) 0) < _
  rw [e1]
  show p < j + 1
  omega
/-! ### the order -/
theorem lt_ints : ∀ xs ys : List Int, HT.lexLt xs ys = decide (xs < ys)
  | [], [] => by simp [HT.lexLt_nil_nil]
  | [], y :: ys => by simp [HT.lexLt_nil_cons]
  | x :: xs, [] => by simp [HT.lexLt_cons_nil]
  | x :: xs, y :: ys => by
    rw [HT.lexLt_cons]
    by_cases h : x = y
    · subst h
      rw [if_pos rfl, lt_ints xs ys]
      simp [List.cons_lt_cons_iff]
    · rw [if_neg h]
      simp [h, List.cons_lt_cons_iff]
def tup1 (t : List Int) : PyData := .tuple (t.map .int)
def keyP (ks : List (List Int)) : PyData := .tuple (ks.map tup1)
theorem alike_tup1 (x y : List Int) : PySem.W.alike (tup1 x) (tup1 y) = true := by
  show PySem.W.alike (.tuple _) (.tuple _) = true
  rw [PySem.W.alike]
  exact PySem.W.alike_ints x y
theorem alike_keys : ∀ ks ls : List (List Int), PySem.W.alikeAll (ks.map tup1) (ls.map tup1) = true
  | [], _ => by simp [PySem.W.alikeAll]
  | _ :: _, [] => by simp [PySem.W.alikeAll]
  | x :: xs, y :: ys => by
    show PySem.W.alikeAll (tup1 x :: xs.map tup1) (tup1 y :: ys.map tup1) = true
    rw [PySem.W.alikeAll, alike_keys xs ys, alike_tup1]
    rfl
theorem alike_key (ks ls : List (List Int)) : PySem.W.alike (keyP ks) (keyP ls) = true := by
  show PySem.W.alike (.tuple _) (.tuple _) = true
  rw [PySem.W.alike]
  exact alike_keys ks ls
theorem eqv_ints : ∀ x y : List Int, PyData.eqvAll (x.map .int) (y.map .int) = decide (x = y)
  | [], [] => by simp [PyData.eqvAll]
  | [], _ :: _ => by simp [PyData.eqvAll]
  | _ :: _, [] => by simp [PyData.eqvAll]
  | x :: xs, y :: ys => by
    show PyData.eqvAll (.int x :: xs.map .int) (.int y :: ys.map .int) = _
    rw [PySem.W.eqv_all_cons, eqv_ints xs ys, PyData.eqv]
    by_cases h : x = y <;> simp [h]
theorem eqv_tup1 (x y : List Int) : PyData.eqv (tup1 x) (tup1 y) = decide (x = y) := by
  show PyData.eqv (.tuple _) (.tuple _) = _
  rw [PyData.eqv]
  exact eqv_ints x y
theorem eqv_keys : ∀ ks ls : List (List Int), PyData.eqvAll (ks.map tup1) (ls.map tup1) = decide (ks = ls)
  | [], [] => by simp [PyData.eqvAll]
  | [], _ :: _ => by simp [PyData.eqvAll]
  | _ :: _, [] => by simp [PyData.eqvAll]
  | x :: xs, y :: ys => by
    show PyData.eqvAll (tup1 x :: xs.map tup1) (tup1 y :: ys.map tup1) = _
    rw [PySem.W.eqv_all_cons, eqv_keys xs ys, eqv_tup1]
    simp
theorem eqv_key (ks ls : List (List Int)) : PyData.eqv (keyP ks) (keyP ls) = decide (ks = ls) := by
  show PyData.eqv (.tuple _) (.tuple _) = _
  rw [PyData.eqv]
  exact eqv_keys ks ls
theorem lt_tup1 (x y : List Int) : PySem.W.dataLt (tup1 x) (tup1 y) = decide (x < y) := by
  show PySem.W.dataLt (.tuple _) (.tuple _) = _
  rw [PySem.W.dataLt_tuple]
  exact PySem.W.dataLt_ints x y
theorem lt_key {x y : List Int} (ne : x ≠ y) : ∀ (C r s : List (List Int)), PySem.W.dataLt (keyP (C ++ x :: r)) (keyP (C ++ y :: s)) = decide (x < y)
  | [], r, s => by
    show PySem.W.dataLt (.tuple (tup1 x :: r.map tup1)) (.tuple (tup1 y :: s.map tup1)) = _
    rw [PySem.W.dataLt_tuple, PySem.W.dataLt_cons (alike_tup1 x y), eqv_tup1, decide_eq_false ne, if_neg Bool.false_ne_true, lt_tup1]
  | c :: C, r, s => by
    have ih := lt_key ne C r s
    unfold keyP at ih
    rw [PySem.W.dataLt_tuple] at ih
    show PySem.W.dataLt (.tuple (tup1 c :: (C ++ x :: r).map tup1)) (.tuple (tup1 c :: (C ++ y :: s).map tup1)) = _
    rw [PySem.W.dataLt_tuple, PySem.W.dataLt_cons (alike_tup1 c c), eqv_tup1, decide_eq_true rfl, if_pos rfl]
    exact ih
/-- the item of k in the list that is sorted -/
def itP (ns : List Nd) (k : Nat) : PyData := .tuple [keyP (key ns k), .int k]
theorem befor {ns : List Nd} {a b : Nat} (h : PySem.W.dataLt (itP ns b) (itP ns a) = false) : Bef ns a b := fun C x y r s e1 e2 ne => by
  unfold itP at h
  rw [PySem.W.dataLt_pair (alike_key _ _) (by simp [PySem.W.alike]), eqv_key, e1, e2] at h
  have hne : ¬ (C ++ y :: s = C ++ x :: r) := fun z => ne (by
    have := List.append_cancel_left z
    simp at this
    exact this.1.symm)
  rw [decide_eq_false hne, if_neg Bool.false_ne_true, lt_key (fun z => ne z.symm)] at h
  rw [lt_ints]
  refine decide_eq_true ?_
  have hnl : ¬ y < x := of_decide_eq_false h
  rcases List.le_iff_lt_or_eq.mp (List.not_lt.mp hnl) with q | q
  · exact q
  · exact absurd q ne
end K62

namespace K62
open PySem PySem.Spec PyProof.Rows L2 Evl Pv
def tD (t : List Int) : D := .tup (t.map .int)
def kD (ks : List (List Int)) : D := .tup (ks.map tD)
def itD (ns : List Nd) (k : Nat) : D := .tup [kD (key ns k), .int k]
theorem pyAll_ints : ∀ t : List Int, pyAll (t.map .int) = some (t.map .int)
  | [] => by simp [pyAll]
  | x :: t => by
    show pyAll (.int x :: t.map .int) = some (.int x :: t.map .int)
    rw [pyAll, pyAll_ints t]
    rfl
theorem py_tD (t : List Int) : pyOf (tD t) = some (tup1 t) := by
  show pyOf (.tup _) = _
  rw [pyOf, pyAll_ints]
  rfl
theorem pyAll_keys : ∀ ks : List (List Int), pyAll (ks.map tD) = some (ks.map tup1)
  | [] => by simp [pyAll]
  | x :: t => by
    show pyAll (tD x :: t.map tD) = some (tup1 x :: t.map tup1)
    rw [pyAll, pyAll_keys t, py_tD]
theorem py_kD (ks : List (List Int)) : pyOf (kD ks) = some (keyP ks) := by
  show pyOf (.tup _) = _
  rw [pyOf, pyAll_keys]
  rfl
theorem py_itD (ns : List Nd) (k : Nat) : pyOf (itD ns k) = some (itP ns k) := by
  show pyOf (.tup _) = _
  rw [pyOf, pyAll, py_kD, pyAll, pyAll]
  rfl
theorem pyAll_map {α : Type} {f : α → D} {g : α → PyData} (h : ∀ x, pyOf (f x) = some (g x)) : ∀ xs : List α, pyAll (xs.map f) = some (xs.map g)
  | [] => by simp [pyAll]
  | x :: xs => by
    show pyAll (f x :: xs.map f) = some (g x :: xs.map g)
    rw [pyAll, pyAll_map h xs, h]
def numOf : D × PyData → Nat := fun p => match p.1 with
  | .tup [_, .int k] => k.toNat
  | _ => 0
def raws (ns : List Nd) : List (D × PyData) := (List.range ns.length).map fun k => (itD ns k, itP ns k)
def srt (ns : List Nd) : List (D × PyData) := (raws ns).mergeSort (PySem.W.dataLe false (·.2))
/-- the order that ordered(nodes) answers -/
def ordOf (ns : List Nd) : List Nat := (srt ns).map numOf
theorem num_it (ns : List Nd) (k : Nat) (p : PyData) : numOf (itD ns k, p) = k := rfl
theorem srt_perm (ns : List Nd) : (srt ns).Perm (raws ns) := List.mergeSort_perm _ _
theorem srt_mem {ns : List Nd} {p : D × PyData} (m : p ∈ srt ns) : p = (itD ns (numOf p), itP ns (numOf p)) := by
  obtain ⟨k, _, rfl⟩ := List.mem_map.mp ((srt_perm ns).mem_iff.mp m)
  rfl
theorem ord_perm (ns : List Nd) : (ordOf ns).Perm (List.range ns.length) := by
  have h := (srt_perm ns).map numOf
  unfold raws at h
  rw [List.map_map] at h
  have e : (numOf ∘ fun k => (itD ns k, itP ns k)) = fun k => k := rfl
  rw [e, List.map_id'] at h
  exact h
theorem ord_len (ns : List Nd) : (ordOf ns).length = ns.length := by rw [(ord_perm ns).length_eq, List.length_range]
theorem ord_lt {ns : List Nd} {k : Nat} (m : k ∈ ordOf ns) : k < ns.length := List.mem_range.mp ((ord_perm ns).mem_iff.mp m)
theorem ord_list (ns : List Nd) : (srt ns).map (·.1) = (ordOf ns).map (itD ns) := by
  unfold ordOf
  rw [List.map_map]
  refine List.map_congr_left fun p m => ?_
  rw [srt_mem m]
  rfl
theorem raws_zip (ns : List Nd) : ((List.range ns.length).map (itD ns)).zip ((List.range ns.length).map (itP ns)) = raws ns := by
  unfold raws
  rw [List.zip_map']
theorem ord_bef {ns : List Nd} {i a b : Nat} (h1 : (ordOf ns)[i]? = some a) (h2 : (ordOf ns)[i + 1]? = some b) : Bef ns a b ∧ a ≠ b := by
  have nd : (ordOf ns).Nodup := (ord_perm ns).nodup_iff.mpr List.nodup_range
  constructor
  · unfold ordOf at h1 h2
    rw [List.getElem?_map] at h1 h2
    cases e1 : (srt ns)[i]? with
    | none => rw [e1] at h1; cases h1
    | some p =>
      cases e2 : (srt ns)[i + 1]? with
      | none => rw [e2] at h2; cases h2
      | some q =>
        rw [e1] at h1
        rw [e2] at h2
        have hp := srt_mem (List.mem_of_getElem? e1)
        have hq := srt_mem (List.mem_of_getElem? e2)
        have f1 : numOf p = a := Option.some.inj h1
        have f2 : numOf q = b := Option.some.inj h2
        rw [f1] at hp
        rw [f2] at hq
        have pw : (srt ns).Pairwise (fun x y => PySem.W.dataLe false (·.2) x y = true) := PySem.W.sort_pairwise (PySem.W.sortLe_total _ _ _) _
        obtain ⟨l1, r1⟩ := List.getElem?_eq_some_iff.mp e1
        obtain ⟨l2, r2⟩ := List.getElem?_eq_some_iff.mp e2
        have := List.pairwise_iff_getElem.mp pw i (i + 1) l1 l2 (Nat.lt_succ_self _)
        rw [r1, r2, hp, hq] at this
        refine befor ?_
        have t : (!PySem.W.dataLt (itP ns b) (itP ns a)) = true := this
        cases z : PySem.W.dataLt (itP ns b) (itP ns a) with
        | false => rfl
        | true => rw [z] at t; cases t
  · intro e
    subst e
    obtain ⟨l1, r1⟩ := List.getElem?_eq_some_iff.mp h1
    obtain ⟨l2, r2⟩ := List.getElem?_eq_some_iff.mp h2
    have := List.pairwise_iff_getElem.mp nd i (i + 1) l1 l2 (Nat.lt_succ_self _)
    rw [r1, r2] at this
    exact this rfl
theorem alike_it (ns : List Nd) (a b : Nat) : PySem.W.alike (itP ns a) (itP ns b) = true := by
  show PySem.W.alike (.tuple _) (.tuple _) = true
  rw [PySem.W.alike, PySem.W.alikeAll, alike_key, PySem.W.alikeAll, PySem.W.alikeAll]
  rfl
theorem depth_tup1s : ∀ ks : List (List Int), PyData.depthAll (ks.map tup1) ≤ 1
  | [] => by simp [PyData.depthAll]
  | x :: t => by
    have := depth_tup1s t
    have h : PyData.depth (tup1 x) ≤ 1 := by
      show PyData.depth (.tuple _) ≤ 1
      rw [PyData.depth, PySem.W.depth_ints]
      exact Nat.le_refl _
    show PyData.depthAll (tup1 x :: t.map tup1) ≤ 1
    rw [PyData.depthAll]
    omega
theorem depth_it (ns : List Nd) (k : Nat) : PyData.depth (itP ns k) ≤ 10 := by
  have := depth_tup1s (key ns k)
  have h : PyData.depth (keyP (key ns k)) ≤ 2 := by
    show PyData.depth (.tuple _) ≤ 2
    rw [PyData.depth]
    omega
  show PyData.depth (.tuple _) ≤ 10
  rw [PyData.depth, PyData.depthAll, PyData.depthAll, PyData.depthAll, PyData.depth]
  omega
/-- whole numbers, sorted, that are all numbers below n -/
theorem sort_range {os : List Nat} {n : Nat} (h : os.Perm (List.range n)) :
    ((((os.map fun (k : Nat) => D.int k).zip (os.map fun (k : Nat) => PyData.int k)).mergeSort (PySem.W.dataLe false (·.2))).map (·.1)) = (List.range n).map fun (k : Nat) => D.int k := by
  rw [List.zip_map']
  rw [← List.map_mergeSort (r := fun (a b : Nat) => decide (a ≤ b)) (f := fun (k : Nat) => (D.int (k : Int), PyData.int (k : Int)))]
  · have q : os.mergeSort (fun a b => decide (a ≤ b)) = List.range n := by
      refine List.Perm.eq_of_pairwise (le := fun a b => decide (a ≤ b) = true) (fun a b _ _ h1 h2 => ?_) ?_ ?_ ((List.mergeSort_perm _ _).trans h)
      · have := of_decide_eq_true h1
        have := of_decide_eq_true h2
        omega
      · exact List.pairwise_mergeSort (le := fun (a b : Nat) => decide (a ≤ b)) (fun a b c h1 h2 => decide_eq_true (Nat.le_trans (of_decide_eq_true h1) (of_decide_eq_true h2))) (fun a b => by
          rcases Nat.le_total a b with z | z
          · rw [decide_eq_true z]; rfl
          · rw [decide_eq_true z]; simp) _
      · exact List.pairwise_lt_range.imp fun z => decide_eq_true (Nat.le_of_lt z)
    rw [q, List.map_map]
    rfl
  · intro a _ b _
    show decide (a ≤ b) = !PySem.W.dataLt (.int (b : Int)) (.int (a : Int))
    rw [PySem.W.dataLt_int]
    by_cases z : a ≤ b
    · have z' : ¬ ((b : Int) < a) := by omega
      simp [z, z']
    · have z' : ((b : Int) < a) := by omega
      simp [z, z']
end K62

namespace K62
open PySem PySem.Spec PyProof.Rows L2 Evl Pv
local macro_rules | `(tactic| walk_at "bx") => `(tactic| first
  | (with_reducible refine be_var (by with_unfolding_all exact rfl) ?_)
  | with_reducible refine be_int ?_
  | with_reducible refine be_str ?_
  | with_reducible refine ba_cons ?_
  | with_reducible refine ba_nil ?_
  | with_reducible refine be_cb ?_
  | with_reducible refine be_call ?_
  | with_reducible refine be_op ?_
  | with_reducible refine br_plusI ?_
  | with_reducible refine br_int ?_
  | with_reducible refine br_bl ?_
  | with_reducible refine br_eqI ?_
  | with_reducible refine br_neI ?_
  | with_reducible refine br_eqS ?_
  | with_reducible refine br_neS ?_
  | with_reducible refine br_eqB ?_
  | with_reducible refine br_neB ?_
  | with_reducible refine br_isN ?_
  | with_reducible refine br_notN ?_
  | with_reducible refine bc_int ?_
  | with_reducible refine bc_intB ?_
  | with_reducible refine bc_lenT ?_
  | with_reducible refine be_bl ?_
  | with_reducible refine be_non ?_
  | with_reducible refine be_ty ?_
  | with_reducible refine be_un ?_
  | with_reducible refine bu_int ?_
  | with_reducible refine be_ref ?_
  | with_reducible refine bt_test ?_
  | with_reducible refine bt_B ?_
  | with_reducible refine bt_not ?_
  | with_reducible refine bt_and ?_
  | with_reducible refine bt_or ?_
  | with_reducible refine ex_bl ?_
  | with_reducible refine ex_int ?_
  | with_reducible refine be_andV ?_
  | with_reducible refine be_orV ?_
  | with_reducible refine be_notV ?_
  | with_reducible refine be_if ?_
  | with_reducible refine be_chain ?_
  | with_reducible refine be_sl ?_
  | with_reducible refine bo_none ?_
  | with_reducible refine bo_some ?_
  | with_reducible refine be_tup ?_
  | with_reducible refine bt_tru ?_)
local macro_rules | `(tactic| walk_at "bs") => `(tactic| first
  | with_reducible refine bs_seq ?_
  | with_reducible refine bs_asg ?_
  | with_reducible refine bs_drop ?_
  | with_reducible refine bs_ret ?_
  | with_reducible refine bs_if ?_
  | with_reducible refine bs_next ?_
  | with_reducible refine bs_brk ?_
  | with_reducible refine bs_cont ?_
  | with_reducible refine bg_name ?_
  | with_reducible refine bs_retN ?_)
local macro_rules | `(tactic| walk_at "go") => `(tactic| repeat (first | walk_at "bx" | walk_at "bs"))
local macro_rules | `(tactic| walk_at "sub") => `(tactic| first | exact List.Sublist.refl _ | (refine List.Sublist.cons₂ _ ?_; walk_at "sub") | (refine List.Sublist.cons _ ?_; walk_at "sub"))
local macro_rules | `(tactic| walk_at "it") => `(tactic| first
  | with_reducible refine ifT ?_
  | with_reducible refine ifF ?_
  | with_reducible refine ifNT ?_
  | with_reducible refine ifNF ?_
  | with_reducible refine ifNF ?_)
local macro_rules | `(tactic| walk_at "all") => `(tactic| repeat (first | walk_at "bx" | walk_at "bs" | walk_at "it"))

section
variable {K : PySem.W.Frag} {E : XK} {ds : List D} {M : Own} {P : KD} {C : Cs}
/-! ### is_number -/
inductive NumIs (M : Own) : D → Int → Int → Bool → Prop
  | int (j lo hi : Int) : NumIs M (.int j) lo hi (decide (lo ≤ j ∧ j ≤ hi))
  | bl (b : Bool) (lo hi : Int) : NumIs M (.bl b) lo hi false
  | no {d : D} {T : String} (lo hi : Int) : TyD M d T → kitB T "bool" = some false → kitB T "int" = some false → NumIs M d lo hi false
def pre_is_number : List D → Own → KD → Prop := fun ds M P => ∃ (d : D) (lo hi : Int) (b : Bool), ds = [d, .int lo, .int hi] ∧ NumIs M d lo hi b ∧ P (.bl b) M
def t_is_number (K : PySem.W.Frag) : TS := (tSeq (tIfS (tOr (tB (tCB (rIsi K) (tCons (tVar 0) (tCons (tC (.ty "bool")) tNil)))) (tNot (tB (tCB (rIsi K) (tCons (tVar 0) (tCons (tC (.ty "int")) tNil)))))) (tRet (tC (.bl false))) tNext)
  (tRet (tAndV (tOp (rI0 fun i j => .bl (decide (i ≤ j))) (tVar 1) (tVar 0)) (tOrV (tOp (fun x y H Q => y = V.non ∧ Q (.bl (decide (x = V.non))) H) (tVar 2) (tC .non)) (tOp (rI0 fun i j => .bl (decide (i ≤ j))) (tVar 0) (tVar 2))))))
theorem len_is_number (h : pre_is_number ds M P) : ds.length = 3 := by
  obtain ⟨d, lo, hi, b, rfl, _⟩ := h
  rfl
theorem bs_is_number (h : pre_is_number ds M P) : BS K E (t_is_number K) (startE 3 ds) M { nx := fun _ M' => P .non M', rt := P } := by
  obtain ⟨d, lo, hi, b, rfl, hn, k⟩ := h
  unfold t_is_number
  cases hn with
  | int j =>
    walk_at "all"
    refine bc_isi (.int j) (b := false) (by rfl) ?_
    walk_at "all"
    walk_at "all"
    refine bc_isi (.int j) (b := true) (by rfl) ?_
    walk_at "all"
    walk_at "all"
    by_cases h1 : lo ≤ j
    · refine ifD h1 ?_
      walk_at "all"
      walk_at "all"
      refine ifF ?_
      walk_at "all"
      by_cases h2 : j ≤ hi
      · rw [decide_eq_true h2]
        rw [decide_eq_true (show lo ≤ j ∧ j ≤ hi from ⟨h1, h2⟩)] at k
        exact k
      · rw [decide_eq_false h2]
        rw [decide_eq_false (fun z : lo ≤ j ∧ j ≤ hi => h2 z.2)] at k
        exact k
    · refine ifDn h1 ?_
      rw [decide_eq_false (fun z : lo ≤ j ∧ j ≤ hi => h1 z.1)] at k
      exact k
  | bl v =>
    walk_at "all"
    refine bc_isi (.bl v) (b := true) (by rfl) ?_
    walk_at "all"
    walk_at "all"
    walk_at "all"
    exact k
  | no _ _ t h1 h2 =>
    walk_at "all"
    refine bc_isi t h1 ?_
    walk_at "all"
    walk_at "all"
    refine bc_isi t h2 ?_
    walk_at "all"
    walk_at "all"
    exact k
/-! ### is_whole -/
inductive WholeIs (M : Own) : D → Bool → Prop
  | int (j : Int) : WholeIs M (.int j) true
  | bl (b : Bool) : WholeIs M (.bl b) false
  | no {d : D} {T : String} : TyD M d T → kitB T "int" = some false → WholeIs M d false
def pre_is_whole : List D → Own → KD → Prop := fun ds M P => ∃ (d : D) (b : Bool), ds = [d] ∧ WholeIs M d b ∧ P (.bl b) M
def t_is_whole (K : PySem.W.Frag) : TS := (tRet (tAndV (tCB (rIsi K) (tCons (tVar 0) (tCons (tC (.ty "int")) tNil))) (tNotV (tCB (rIsi K) (tCons (tVar 0) (tCons (tC (.ty "bool")) tNil))))))
theorem len_is_whole (h : pre_is_whole ds M P) : ds.length = 1 := by
  obtain ⟨d, b, rfl, _⟩ := h
  rfl
theorem bs_is_whole (h : pre_is_whole ds M P) : BS K E (t_is_whole K) (startE 1 ds) M { nx := fun _ M' => P .non M', rt := P } := by
  obtain ⟨d, b, rfl, hn, k⟩ := h
  unfold t_is_whole
  cases hn with
  | int j =>
    walk_at "all"
    refine bc_isi (.int j) (b := true) (by rfl) ?_
    walk_at "all"
    walk_at "all"
    refine bc_isi (.int j) (b := false) (by rfl) ?_
    walk_at "all"
    exact k
  | bl v =>
    walk_at "all"
    refine bc_isi (.bl v) (b := true) (by rfl) ?_
    walk_at "all"
    walk_at "all"
    refine bc_isi (.bl v) (b := true) (by rfl) ?_
    walk_at "all"
    exact k
  | no t h2 =>
    walk_at "all"
    refine bc_isi t h2 ?_
    walk_at "all"
    exact k
/-! ### is_node -/
def kinds : List V := [.str "block", .str "float", .str "box", .str "over", .str "text"]
inductive NodeIs (M : Own) (xs : List D) : D → Nat → Bool → Prop
  | notup {d : D} {T : String} {k : Nat} : TyD M d T → kitB T "tuple" = some false → NodeIs M xs d k false
  | len {es : List D} {k : Nat} : es.length ≠ 3 → NodeIs M xs (.tup es) k false
  | nostr {p d z : D} {T : String} {k : Nat} : TyD M d T → kitB T "str" = some false → NodeIs M xs (.tup [p, d, z]) k false
  | nokind {p z : D} {s : Str} {k : Nat} : inV (.str s) kinds = false → NodeIs M xs (.tup [p, .str s, z]) k false
  | noz {p z : D} {s : Str} {k : Nat} : inV (.str s) kinds = true → WholeIs M z false → NodeIs M xs (.tup [p, .str s, z]) k false
  | root {p : D} {s : Str} {z : Int} : inV (.str s) kinds = true → NodeIs M xs (.tup [p, .str s, .int z]) 0 (if isNon p = true then !decide (s = "text") else false)
  | nopar {p : D} {s : Str} {z : Int} {k : Nat} : inV (.str s) kinds = true → 0 < k → NumIs M p 0 (k - 1) false → NodeIs M xs (.tup [p, .str s, .int z]) k false
  | par {p : Nat} {s t : Str} {z : Int} {k : Nat} {d : D} {es : List D} : inV (.str s) kinds = true → p < k → xs[p]? = some (.tup es) → es[1]? = some (.str t) → NodeIs M xs (.tup [.int p, .str s, .int z]) k (!decide (t = "text"))
def pre_is_node : List D → Own → KD → Prop := fun ds M P => ∃ (d : D) (xs : List D) (k : Nat) (b : Bool), ds = [d, .lst xs, .int k] ∧ NodeIs M xs d k b ∧ P (.bl b) M
def t_is_node (K : PySem.W.Frag) (C : Cs) : TS := (tSeq (tIfS (tOr (tNot (tB (tCB (rIsi K) (tCons (tVar 0) (tCons (tC (.ty "tuple")) tNil))))) (tTest (tOp rNe (tCB (rLenP K) (tCons (tVar 0) tNil)) (tC (.int 3))))) (tRet (tC (.bl false))) tNext)
  (tSeq (tAsg (tVar 0) (gTup K 3 (gCons (gName 3) (gCons (gName 4) (gCons (gName 5) gNil)))))
  (tSeq (tIfS (tOr (tNot (tB (tCB (rIsi K) (tCons (tVar 4) (tCons (tC (.ty "str")) tNil))))) (tOr (tTest (tOp (rIn K true) (tVar 4) (tC (.ref C.a_KINDS)))) (tNot (tB (tCall (spB K (pre_is_whole)) [] E0 (tCons (tVar 5) tNil)))))) (tRet (tC (.bl false))) tNext)
  (tSeq (tIfS (tTest (tOp rEq (tVar 2) (tC (.int 0)))) (tRet (tAndV (tOp (fun x y H Q => y = V.non ∧ Q (.bl (decide (x = V.non))) H) (tVar 3) (tC .non)) (tOp rNe (tVar 4) (tC (.str ("text" : Str)))))) tNext)
  (tRet (tAndV (tCall (spB K (pre_is_number)) [] E0 (tCons (tVar 3) (tCons (tC (.int 0)) (tCons (tOp (rI0 fun i j => .int (i - j)) (tVar 2) (tC (.int 1))) tNil)))) (tOp rNe (tOp (rIx K) (tOp (rIx K) (tVar 1) (tVar 3)) (tC (.int 1))) (tC (.str ("text" : Str))))))))))
theorem len_is_node (h : pre_is_node ds M P) : ds.length = 3 := by
  obtain ⟨d, xs, k, b, rfl, _⟩ := h
  rfl
theorem kinds_all : vAll [.str "block", .str "float", .str "box", .str "over", .str "text"] = some kinds := rfl
theorem bs_is_node (hC : CsOk K C) (h : pre_is_node ds M P) : BS K E (t_is_node K C) (startE 6 ds) M { nx := fun _ M' => P .non M', rt := P } := by
  obtain ⟨d, xs, n, b, rfl, hn, k⟩ := h
  unfold t_is_node
  -- a tuple of three
  have three : ∀ (p d z : D) (b : Bool), P (.bl b) M → (BS K E (tSeq (tIfS (tOr (tNot (tB (tCB (rIsi K) (tCons (tVar 4) (tCons (tC (.ty "str")) tNil))))) (tOr (tTest (tOp (rIn K true) (tVar 4) (tC (.ref C.a_KINDS)))) (tNot (tB (tCall (spB K (pre_is_whole)) [] E0 (tCons (tVar 5) tNil)))))) (tRet (tC (.bl false))) tNext)
  (tSeq (tIfS (tTest (tOp rEq (tVar 2) (tC (.int 0)))) (tRet (tAndV (tOp (fun x y H Q => y = V.non ∧ Q (.bl (decide (x = V.non))) H) (tVar 3) (tC .non)) (tOp rNe (tVar 4) (tC (.str ("text" : Str)))))) tNext)
  (tRet (tAndV (tCall (spB K (pre_is_number)) [] E0 (tCons (tVar 3) (tCons (tC (.int 0)) (tCons (tOp (rI0 fun i j => .int (i - j)) (tVar 2) (tC (.int 1))) tNil)))) (tOp rNe (tOp (rIx K) (tOp (rIx K) (tVar 1) (tVar 3)) (tC (.int 1))) (tC (.str ("text" : Str))))))))
    [some (.tup [p, d, z]), some (.lst xs), some (.int n), some p, some d, some z] M { nx := fun _ M' => P .non M', rt := P }) → BS K E (t_is_node K C) (startE 6 [.tup [p, d, z], .lst xs, .int n]) M { nx := fun _ M' => P .non M', rt := P } := fun p d z b _ q => by
    unfold t_is_node
    walk_at "all"
    refine bc_isi (.tup _) (b := true) (by rfl) ?_
    walk_at "all"
    walk_at "all"
    refine ifND (p := ((3 : Nat) : Int) = 3) rfl ?_
    walk_at "all"
    refine bg_tup rfl (bgs_cons (bg_name (bgs_cons (bg_name (bgs_cons (bg_name (bgs_nil ?_))))))) 
    exact q
  cases hn with
  | notup t h1 =>
    walk_at "all"
    refine bc_isi t h1 ?_
    walk_at "all"
    walk_at "all"
    exact k
  | @len es _ h1 =>
    walk_at "all"
    refine bc_isi (.tup _) (b := true) (by rfl) ?_
    walk_at "all"
    walk_at "all"
    refine ifNDn (by omega) ?_
    walk_at "all"
    exact k
  | nostr t h1 =>
    refine three _ _ _ _ k ?_
    walk_at "all"
    refine bc_isi t h1 ?_
    walk_at "all"
    walk_at "all"
    walk_at "all"
    exact k
  | nokind h1 =>
    refine three _ _ _ _ k ?_
    walk_at "all"
    refine bc_isi (.str _) (b := true) (by rfl) ?_
    walk_at "all"
    refine br_rawR (fun G => hC.s_KINDS G) (br_nin (.inl rfl) (x := .str _) rfl kinds_all ?_)
    rw [h1]
    walk_at "all"
    walk_at "all"
    walk_at "all"
    exact k
  | noz h1 hz =>
    refine three _ _ _ _ k ?_
    walk_at "all"
    refine bc_isi (.str _) (b := true) (by rfl) ?_
    walk_at "all"
    refine br_rawR (fun G => hC.s_KINDS G) (br_nin (.inl rfl) (x := .str _) rfl kinds_all ?_)
    rw [h1]
    walk_at "all"
    walk_at "all"
    refine ⟨_, _, rfl, hz, ?_⟩
    walk_at "all"
    walk_at "all"
    exact k
  | @root p s z h1 =>
    refine three _ _ _ _ k ?_
    walk_at "all"
    refine bc_isi (.str _) (b := true) (by rfl) ?_
    walk_at "all"
    refine br_rawR (fun G => hC.s_KINDS G) (br_nin (.inl rfl) (x := .str _) rfl kinds_all ?_)
    rw [h1]
    walk_at "all"
    walk_at "all"
    refine ⟨_, _, rfl, .int z, ?_⟩
    walk_at "all"
    walk_at "all"
    walk_at "all"
    refine ifD rfl ?_
    walk_at "all"
    cases e : isNon p with
    | true =>
      rw [e, if_pos rfl] at k
      refine ifT ?_
      walk_at "all"
      exact k
    | false =>
      rw [e, if_neg Bool.false_ne_true] at k
      refine ifF ?_
      exact k
  | @nopar p s z _ h1 h0 hp =>
    refine three _ _ _ _ k ?_
    walk_at "all"
    refine bc_isi (.str _) (b := true) (by rfl) ?_
    walk_at "all"
    refine br_rawR (fun G => hC.s_KINDS G) (br_nin (.inl rfl) (x := .str _) rfl kinds_all ?_)
    rw [h1]
    walk_at "all"
    walk_at "all"
    refine ⟨_, _, rfl, .int z, ?_⟩
    walk_at "all"
    walk_at "all"
    refine ifDn (by omega) ?_
    walk_at "all"
    refine ⟨_, _, _, _, rfl, hp, ?_⟩
    walk_at "all"
    exact k
  | @par p s t z _ d es h1 h0 hx he =>
    refine three _ _ _ _ k ?_
    walk_at "all"
    refine bc_isi (.str _) (b := true) (by rfl) ?_
    walk_at "all"
    refine br_rawR (fun G => hC.s_KINDS G) (br_nin (.inl rfl) (x := .str _) rfl kinds_all ?_)
    rw [h1]
    walk_at "all"
    walk_at "all"
    refine ⟨_, _, rfl, .int z, ?_⟩
    walk_at "all"
    walk_at "all"
    refine ifDn (by omega) ?_
    walk_at "all"
    refine ⟨_, _, _, _, rfl, .int p 0 (n - 1), ?_⟩
    rw [decide_eq_true (by omega : (0 : Int) ≤ p ∧ (p : Int) ≤ n - 1)]
    walk_at "all"
    walk_at "all"
    refine br_ixL (.of .lst) (atI_nn hx) ?_
    walk_at "all"
    refine br_ixT (atI_nn (n := 1) he) ?_
    walk_at "all"
    exact k
end
end K62

namespace K62
open PySem PySem.Spec PyProof.Rows L2 Evl Pv
local macro_rules | `(tactic| walk_at "bx") => `(tactic| first
  | (with_reducible refine be_var (by with_unfolding_all exact rfl) ?_)
  | with_reducible refine be_int ?_
  | with_reducible refine be_str ?_
  | with_reducible refine ba_cons ?_
  | with_reducible refine ba_nil ?_
  | with_reducible refine be_cb ?_
  | with_reducible refine be_call ?_
  | with_reducible refine be_op ?_
  | with_reducible refine br_plusI ?_
  | with_reducible refine br_int ?_
  | with_reducible refine br_bl ?_
  | with_reducible refine br_eqI ?_
  | with_reducible refine br_neI ?_
  | with_reducible refine br_eqS ?_
  | with_reducible refine br_neS ?_
  | with_reducible refine br_eqB ?_
  | with_reducible refine br_neB ?_
  | with_reducible refine br_isN ?_
  | with_reducible refine br_notN ?_
  | with_reducible refine bc_int ?_
  | with_reducible refine bc_intB ?_
  | with_reducible refine bc_lenT ?_
  | with_reducible refine be_bl ?_
  | with_reducible refine be_non ?_
  | with_reducible refine be_ty ?_
  | with_reducible refine be_un ?_
  | with_reducible refine bu_int ?_
  | with_reducible refine be_ref ?_
  | with_reducible refine bt_test ?_
  | with_reducible refine bt_B ?_
  | with_reducible refine bt_not ?_
  | with_reducible refine bt_and ?_
  | with_reducible refine bt_or ?_
  | with_reducible refine ex_bl ?_
  | with_reducible refine ex_int ?_
  | with_reducible refine be_andV ?_
  | with_reducible refine be_orV ?_
  | with_reducible refine be_notV ?_
  | with_reducible refine be_if ?_
  | with_reducible refine be_chain ?_
  | with_reducible refine be_sl ?_
  | with_reducible refine bo_none ?_
  | with_reducible refine bo_some ?_
  | with_reducible refine be_tup ?_
  | with_reducible refine bt_tru ?_)
local macro_rules | `(tactic| walk_at "bs") => `(tactic| first
  | with_reducible refine bs_seq ?_
  | with_reducible refine bs_asg ?_
  | with_reducible refine bs_drop ?_
  | with_reducible refine bs_ret ?_
  | with_reducible refine bs_if ?_
  | with_reducible refine bs_next ?_
  | with_reducible refine bs_brk ?_
  | with_reducible refine bs_cont ?_
  | with_reducible refine bg_name ?_
  | with_reducible refine bs_retN ?_)
local macro_rules | `(tactic| walk_at "go") => `(tactic| repeat (first | walk_at "bx" | walk_at "bs"))
local macro_rules | `(tactic| walk_at "sub") => `(tactic| first | exact List.Sublist.refl _ | (refine List.Sublist.cons₂ _ ?_; walk_at "sub") | (refine List.Sublist.cons _ ?_; walk_at "sub"))
local macro_rules | `(tactic| walk_at "it") => `(tactic| first
  | with_reducible refine ifT ?_
  | with_reducible refine ifF ?_
  | with_reducible refine ifNT ?_
  | with_reducible refine ifNF ?_
  | with_reducible refine ifNF ?_)
local macro_rules | `(tactic| walk_at "all") => `(tactic| repeat (first | walk_at "bx" | walk_at "bs" | walk_at "it"))

section
variable {K : PySem.W.Frag} {E : XK} {ds : List D} {M : Own} {P : KD} {C : Cs} {R : Value → Own → Prop}
theorem TyD.any {d : D} {T : String} (h : TyD [] d T) : TyD M d T := by
  cases h with
  | non => exact .non
  | bl b => exact .bl b
  | int i => exact .int i
  | str x => exact .str x
  | tup ds => exact .tup ds
  | lst h =>
    cases h with
    | own h => cases h
    | lst => exact .lst .lst
  | dic => exact .dic
  | dct h => cases h
theorem NumIs.any {d : D} {lo hi : Int} {b : Bool} (h : NumIs [] d lo hi b) : NumIs M d lo hi b := by
  cases h with
  | int j => exact .int j lo hi
  | bl b => exact .bl b lo hi
  | no _ _ t h1 h2 => exact .no lo hi (TyD.any t) h1 h2
theorem WholeIs.any {d : D} {b : Bool} (h : WholeIs [] d b) : WholeIs M d b := by
  cases h with
  | int j => exact .int j
  | bl b => exact .bl b
  | no t h1 => exact .no (TyD.any t) h1
theorem NodeIs.any {xs : List D} {d : D} {k : Nat} {b : Bool} (h : NodeIs [] xs d k b) : NodeIs M xs d k b := by
  cases h with
  | notup t h1 => exact .notup (TyD.any t) h1
  | len h1 => exact .len h1
  | nostr t h1 => exact .nostr (TyD.any t) h1
  | nokind h1 => exact .nokind h1
  | noz h1 h2 => exact .noz h1 (WholeIs.any h2)
  | root h1 => exact .root h1
  | nopar h1 h2 h3 => exact .nopar h1 h2 (NumIs.any h3)
  | par h1 h2 h3 h4 => exact .par (d := .non) h1 h2 h3 h4
/-! ### check_nodes -/
structure Upto (xs : List D) (ns : List Nd) : Prop where
  good : GoodN ns
  get : ∀ (i : Nat) (x : Nd), ns[i]? = some x → xs[i]? = some x.enc
  le : ns.length ≤ xs.length
def BadAt (xs : List D) (ns : List Nd) (d : D) : Prop := NodeIs [] xs d ns.length false ∨ ∃ (p : Nat) (s z : D), d = .tup [.int p, s, z] ∧ NodeIs [] xs d ns.length true ∧ 0 < ns.length ∧ p ∉ path ns (ns.length - 1)
inductive BadIn : D → Prop
  | nolist {d : D} {T : String} : TyD [] d T → kitB T "list" = some false → BadIn d
  | long {xs : List D} : 1000 < xs.length → xs.length ≤ 100000 → BadIn (.lst xs)
  | at {xs : List D} {ns : List Nd} {d : D} : xs.length ≤ 1000 → Upto xs ns → xs[ns.length]? = some d → BadAt xs ns d → BadIn (.lst xs)
def pre_check_nodes (C : Cs) : List D → Own → KD → (Value → Own → Prop) → Prop := fun ds M P R => ∃ d : D, ds = [d] ∧
  ((∃ ns : List Nd, d = .lst (ns.map Nd.enc) ∧ GoodN ns ∧ ns.length ≤ 1000 ∧ P .non M) ∨ (BadIn d ∧ ∀ M', M.Sublist M' → R (.ref C.c_BadList) M'))
def chain (ns : List Nd) (i : Nat) : List Nat := if i = 0 then [] else path ns (i - 1)
theorem kd_in (k : Kd) : inV (.str k.str) kinds = true := by
  cases k <;> decide
theorem kd_text {k : Kd} (h : k ≠ .text) : decide (k.str = ("text" : Str)) = false := by
  cases k with
  | text => exact absurd rfl h
  | block => decide
  | float => decide
  | box => decide
  | over => decide
theorem good_is {xs : List D} {ns : List Nd} (u : Upto xs ns) {i : Nat} {x : Nd} (h : ns[i]? = some x) : NodeIs [] xs x.enc i true := by
  cases i with
  | zero =>
    obtain ⟨h1, h2⟩ := u.good.zero x h
    have := NodeIs.root (M := []) (xs := xs) (p := encP x.par) (s := x.kind.str) (z := x.z) (kd_in _)
    rw [h1, kd_text h2] at this
    unfold Nd.enc
    rw [h1]
    exact this
  | succ i =>
    obtain ⟨p, y, e1, e2, e3, e4, e5⟩ := u.good.succ i x h
    have := NodeIs.par (M := []) (xs := xs) (d := .non) (p := p) (s := x.kind.str) (z := x.z) (k := i + 1) (t := y.kind.str) (es := [encP y.par, .str y.kind.str, .int y.z]) (kd_in _) (by omega) (u.get p y e3) rfl
    rw [kd_text e4] at this
    unfold Nd.enc
    rw [e1]
    exact this
theorem neg_at {cs : List Nat} {m p : Nat} (hm : 0 < m) (hl : m ≤ cs.length) (h : cs[m - 1]? = some p) : atI ((cs.take m).map fun (k : Nat) => D.int k) (-1) = some (.int p) := by
  refine atI_neg (by decide) ?_ ?_
  · rw [List.length_map, List.length_take, Nat.min_eq_left hl]
    omega
  · rw [List.length_map, List.length_take, Nat.min_eq_left hl, List.getElem?_map, List.getElem?_take_of_lt (by omega)]
    have : ((-1 : Int) + (m : Int)).toNat = m - 1 := by omega
    rw [this, h]
    rfl
def t_check_nodes (K : PySem.W.Frag) (C : Cs) (E : XK) : TS := (tSeq (tIfS (tOr (tNot (tB (tCB (rIsi K) (tCons (tVar 0) (tCons (tC (.ty "list")) tNil))))) (tTest (tOp (rI0 fun i j => .bl (decide (j < i))) (tCB (rLenP K) (tCons (tVar 0) tNil)) (tC (.int 1000))))) (fun _ _ H => E (.ref C.c_BadList) none H) tNext)
  (tSeq (tAsg (tLst tNil) (gName 1))
  (tFor (iEnum K (tCons (tVar 0) tNil)) (gTup K 2 (gCons (gName 2) (gCons (gName 3) gNil))) (tSeq (tIfS (tNot (tB (tCall (spB K (pre_is_node)) [] E0 (tCons (tVar 3) (tCons (tVar 0) (tCons (tVar 2) tNil)))))) (fun _ _ H => E (.ref C.c_BadList) none H) tNext)
  (tSeq (tWhile (tAnd (tTru K (tVar 1)) (tTest (tOp rNe (tOp (rIx K) (tVar 1) (tUn (rU fun i => .int (-i)) (tC (.int 1)))) (tOp (rIx K) (tVar 3) (tC (.int 0)))))) (tDrop (tBM0 K "list" rPop (tVar 1))))
  (tSeq (tIfS (tAnd (tTest (tOp (rI0 fun i j => .bl (decide (j < i))) (tVar 2) (tC (.int 0)))) (tNot (tTru K (tVar 1)))) (fun _ _ H => E (.ref C.c_BadList) none H) tNext)
  (tDrop (tBM K "list" rAppend (tVar 1) (tCons (tVar 2) tNil)))))))))
theorem pop_while {xs : List D} {c : Addr} {i p : Nat} {s z : D} {cs : List Nat} {A : AE}
    (k : ∀ m, m ≤ cs.length → (m = 0 ∨ cs[m - 1]? = some p) → (p ∈ cs → p ∈ cs.take m) → A.nx [some (.lst xs), some (.raw (.ref c)), some (.int i), some (.tup [.int p, s, z])] ((c, .lst ((cs.take m).map fun (k : Nat) => D.int k)) :: M)) :
    BS K E (tWhile (tAnd (tTru K (tVar 1)) (tTest (tOp rNe (tOp (rIx K) (tVar 1) (tUn (rU fun i => .int (-i)) (tC (.int 1)))) (tOp (rIx K) (tVar 3) (tC (.int 0)))))) (tDrop (tBM0 K "list" rPop (tVar 1))))
      [some (.lst xs), some (.raw (.ref c)), some (.int i), some (.tup [.int p, s, z])] ((c, .lst (cs.map fun (k : Nat) => D.int k)) :: M) A := by
  refine bs_while (fun m ρ' M' => ρ' = [some (.lst xs), some (.raw (.ref c)), some (.int i), some (.tup [.int p, s, z])] ∧ M' = (c, .lst ((cs.take m).map fun (k : Nat) => D.int k)) :: M ∧ m ≤ cs.length ∧ (p ∈ cs → p ∈ cs.take m)) cs.length ⟨rfl, by rw [List.take_length], Nat.le_refl _, fun h => by rw [List.take_length]; exact h⟩ ?_
  rintro m ρ' M' ⟨rfl, rfl, hm, hp⟩
  walk_at "all"
  refine ⟨_, .lst (.of (.own (n := 0) rfl)), ?_⟩
  by_cases m0 : m = 0
  · subst m0
    refine ifF ?_
    refine ifF ?_
    exact k 0 (Nat.zero_le _) (.inl rfl) hp
  · have hlt : m - 1 < cs.length := by omega
    have hne : (!((cs.take m).map fun (k : Nat) => D.int k).isEmpty) = true := by
      rw [List.isEmpty_map]
      cases e : (cs.take m) with
      | nil =>
        have := congrArg List.length e
        rw [List.length_take, Nat.min_eq_left hm] at this
        exact absurd this m0
      | cons => rfl
    rw [hne]
    walk_at "all"
    refine br_ixL (.of (.own (n := 0) rfl)) (neg_at (by omega) hm (List.getElem?_eq_getElem hlt)) ?_
    walk_at "all"
    refine br_ixT (atI_nn (n := 0) rfl) ?_
    walk_at "all"
    refine ifNP (fun q => ?_) (fun q => ?_)
    · walk_at "all"
      refine be_bm0 ?_
      walk_at "all"
      refine ⟨ty_list (.of (.own (n := 0) rfl)), ?_⟩
      have hl : ((cs.take m).map fun (k : Nat) => D.int k).length = m := by rw [List.length_map, List.length_take, Nat.min_eq_left hm]
      refine bm_pop (n := 0) (d := .int (cs[m - 1] : Nat)) rfl ?_ ?_
      · rw [hl, List.getElem?_map, List.getElem?_take_of_lt (by omega), List.getElem?_eq_getElem hlt]
        rfl
      · refine ⟨m - 1, by omega, rfl, ?_, by omega, fun hpc => ?_⟩
        · rw [← List.map_dropLast, List.dropLast_eq_take, List.length_take, Nat.min_eq_left hm, List.take_take, Nat.min_eq_left (by omega)]
          rfl
        · have := hp hpc
          have e : cs.take m = cs.take (m - 1) ++ [cs[m - 1]] := by
            have := List.take_succ (l := cs) (i := m - 1)
            rw [show m - 1 + 1 = m by omega, List.getElem?_eq_getElem hlt] at this
            exact this
          rw [e] at this
          rcases List.mem_append.mp this with h | h
          · exact h
          · rw [List.mem_singleton] at h
            exact absurd (by rw [h] : ((cs[m - 1] : Nat) : Int) = (p : Int)) q
    · refine k m hm (.inr ?_) hp
      rw [List.getElem?_eq_getElem hlt]
      exact congrArg some (by omega)
theorem len_check_nodes (h : pre_check_nodes C ds M P R) : ds.length = 1 := by
  obtain ⟨d, rfl, _⟩ := h
  rfl
theorem bs_check_nodes (h : pre_check_nodes C ds M P R) : BS K E (t_check_nodes K C E) (startE 4 ds) M { nx := fun _ M' => P .non M', rt := P, ex := R } := by
  obtain ⟨d, rfl, h⟩ := h
  -- lists of at most a thousand
  have main : ∀ (xs : List D) (ns : List Nd), xs.length ≤ 1000 → Upto xs ns → ((xs.length = ns.length ∧ P .non M) ∨ ∃ d, xs[ns.length]? = some d ∧ BadAt xs ns d ∧ ∀ M', M.Sublist M' → R (.ref C.c_BadList) M') →
      BS K E (t_check_nodes K C E) (startE 4 [.lst xs]) M { nx := fun _ M' => P .non M', rt := P, ex := R } := fun xs ns hl u hb => by
    unfold t_check_nodes
    walk_at "all"
    refine bc_isi (.lst .lst) (b := true) (by rfl) ?_
    walk_at "all"
    refine bc_lenL (.of .lst) ?_
    walk_at "all"
    refine ifDn (by omega) ?_
    walk_at "all"
    refine be_lst ?_
    walk_at "all"
    refine ⟨by decide, fun c hc => ?_⟩
    walk_at "all"
    refine bs_sub_nx ?_
    refine bs_forE ?_
    walk_at "all"
    refine ⟨_, rfl, xs, .of .lst, fun i ρ' M' => i ≤ ns.length ∧ ∃ a b, ρ' = [some (.lst xs), some (.raw (.ref c)), a, b] ∧ M' = (c, .lst ((chain ns i).map fun (k : Nat) => D.int k)) :: M, ⟨Nat.zero_le _, _, _, rfl, rfl⟩, fun _ _ _ _ => .of .lst, ?_, ?_⟩
    · rintro i x ρ' M' hx ⟨hi, a, b, rfl, rfl⟩
      refine bg_tup rfl (bgs_cons (bg_name (bgs_cons (bg_name (bgs_nil ?_)))))
      walk_at "all"
      -- raised at a bad node
      have boom : ∀ (A : AE) (ρ : Pv.Env) (l : List D), A.ex = R → (∃ d, xs[ns.length]? = some d ∧ BadAt xs ns d ∧ ∀ M', M.Sublist M' → R (.ref C.c_BadList) M') → BS K E (fun _ _ H => E (.ref C.c_BadList) none H) ρ ((c, .lst l) :: M) A := fun A ρ l hA ⟨d, _, _, r⟩ => by
        refine bs_raise ?_
        rw [hA]
        exact r _ (List.sublist_cons_self _ _)
      by_cases hlt : i < ns.length
      · have hg : ns[i]? = some (ns[i]) := List.getElem?_eq_getElem hlt
        have hx' := u.get i _ hg
        rw [hx] at hx'
        cases hx'
        refine ⟨_, xs, i, true, rfl, (good_is u hg).any, ?_⟩
        walk_at "all"
        cases i with
        | zero =>
          refine bs_while (fun m ρ' M' => ρ' = [some (.lst xs), some (.raw (.ref c)), some (.int (0 : Nat)), some (ns[0].enc)] ∧ M' = (c, .lst []) :: M) 0 ⟨rfl, rfl⟩ ?_
          rintro m ρ' M' ⟨rfl, rfl⟩
          walk_at "all"
          refine ⟨_, .lst (.of (.own (n := 0) rfl)), ?_⟩
          refine ifF ?_
          refine ifF ?_
          walk_at "all"
          refine ifF ?_
          walk_at "all"
          refine be_bm ?_
          walk_at "all"
          refine ⟨ty_list (.of (.own (n := 0) rfl)), ?_⟩
          walk_at "all"
          refine bm_append (n := 0) rfl (by decide) ?_
          refine ⟨hlt, _, _, rfl, ?_⟩
          show (c, Cell.lst [.int (0 : Nat)]) :: M = _
          unfold chain
          rw [if_neg (by omega), Nat.add_sub_cancel, path_none (by unfold parOf; rw [hg]; exact (u.good.zero _ hg).1)]
          rfl
        | succ j =>
          obtain ⟨p, y, e1, e2, e3, e4, e5⟩ := u.good.succ j _ hg
          have en : (ns[j + 1]).enc = .tup [.int p, .str (ns[j + 1]).kind.str, .int (ns[j + 1]).z] := by
            unfold Nd.enc
            rw [e1]
            rfl
          rw [en]
          have ec : chain ns (j + 1) = path ns j := rfl
          rw [ec]
          refine pop_while fun m hm hs hp => ?_
          have m0 : m ≠ 0 := fun z => by
            have := hp e5
            rw [z] at this
            cases this
          have hs' := hs.resolve_left m0
          have tk : (path ns j).take m = path ns p := by
            have := path_take hs'
            rw [show m - 1 + 1 = m by omega] at this
            exact this
          rw [tk]
          have hne : (!((path ns p).map fun (k : Nat) => D.int k).isEmpty) = true := by
            obtain ⟨l, e⟩ := path_last ns p
            rw [e, List.map_append]
            cases l <;> rfl
          walk_at "all"
          refine ifD (by omega) ?_
          walk_at "all"
          refine ⟨_, .lst (.of (.own (n := 0) rfl)), ?_⟩
          rw [hne]
          walk_at "all"
          refine be_bm ?_
          walk_at "all"
          refine ⟨ty_list (.of (.own (n := 0) rfl)), ?_⟩
          walk_at "all"
          refine bm_append (n := 0) rfl (by rw [List.length_map]; have := path_len (ns := ns) (i := p); have := u.le; exact line_lt (by omega)) ?_
          refine ⟨hlt, _, _, rfl, ?_⟩
          have e6 : chain ns (j + 1 + 1) = path ns p ++ [j + 1] := by
            show path ns (j + 1) = _
            exact path_some (by unfold parOf; rw [hg]; exact e1) (by omega)
          rw [e6, List.map_append]
          rfl
      · have hie : i = ns.length := by omega
        subst hie
        have hxl : ns.length < xs.length := (List.getElem?_eq_some_iff.mp hx).1
        have hbad := hb.resolve_left fun z => by omega
        obtain ⟨d, hd, hba, hr⟩ := id hbad
        rw [hx] at hd
        cases hd
        rcases hba with hn | ⟨p, s, z, rfl, hn, h0, hp⟩
        · refine ⟨_, xs, _, false, rfl, hn.any, ?_⟩
          walk_at "all"
          exact boom _ _ _ rfl hbad
        · refine ⟨_, xs, _, true, rfl, hn.any, ?_⟩
          walk_at "all"
          have ec : chain ns ns.length = path ns (ns.length - 1) := if_neg (by omega)
          rw [ec]
          refine pop_while fun m hm hs _ => ?_
          have m0 : m = 0 := hs.resolve_right fun q => hp (List.mem_of_getElem? q)
          subst m0
          walk_at "all"
          refine ifD (by omega) ?_
          walk_at "all"
          refine ⟨_, .lst (.of (.own (n := 0) rfl)), ?_⟩
          refine ifT ?_
          exact boom _ _ _ rfl hbad
    · rintro ρ' M' ⟨hi, a, b, rfl, rfl⟩
      rcases hb with ⟨_, hP⟩ | ⟨d, hd, _⟩
      · exact ⟨M, List.sublist_cons_self _ _, hP⟩
      · have := (List.getElem?_eq_some_iff.mp hd).1
        omega
  rcases h with ⟨ns, rfl, g, hl, hP⟩ | ⟨hbad, hR⟩
  · refine main (ns.map Nd.enc) ns (by rw [List.length_map]; exact hl) ⟨g, fun i x h => by rw [List.getElem?_map, h]; rfl, by rw [List.length_map]; exact Nat.le_refl _⟩ (.inl ⟨by rw [List.length_map], hP⟩)
  · cases hbad with
    | nolist t h1 =>
      unfold t_check_nodes
      walk_at "all"
      refine bc_isi (TyD.any t) h1 ?_
      walk_at "all"
      exact bs_raise (hR M (List.Sublist.refl _))
    | @long xs h1 =>
      unfold t_check_nodes
      walk_at "all"
      refine bc_isi (.lst .lst) (b := true) (by rfl) ?_
      walk_at "all"
      refine bc_lenL (.of .lst) ?_
      walk_at "all"
      refine ifD (by omega) ?_
      exact bs_raise (hR M (List.Sublist.refl _))
    | @«at» xs ns d hl u hd hb => exact main xs ns hl u (.inr ⟨d, hd, hb, hR⟩)
end
end K62

namespace K62
open PySem PySem.Spec PyProof.Rows L2 Evl Pv
local macro_rules | `(tactic| walk_at "bx") => `(tactic| first
  | (with_reducible refine be_var (by with_unfolding_all exact rfl) ?_)
  | with_reducible refine be_int ?_
  | with_reducible refine be_str ?_
  | with_reducible refine ba_cons ?_
  | with_reducible refine ba_nil ?_
  | with_reducible refine be_cb ?_
  | with_reducible refine be_call ?_
  | with_reducible refine be_op ?_
  | with_reducible refine br_plusI ?_
  | with_reducible refine br_int ?_
  | with_reducible refine br_bl ?_
  | with_reducible refine br_eqI ?_
  | with_reducible refine br_neI ?_
  | with_reducible refine br_eqS ?_
  | with_reducible refine br_neS ?_
  | with_reducible refine br_eqB ?_
  | with_reducible refine br_neB ?_
  | with_reducible refine br_isN ?_
  | with_reducible refine br_notN ?_
  | with_reducible refine bc_int ?_
  | with_reducible refine bc_intB ?_
  | with_reducible refine bc_lenT ?_
  | with_reducible refine be_bl ?_
  | with_reducible refine be_non ?_
  | with_reducible refine be_ty ?_
  | with_reducible refine be_un ?_
  | with_reducible refine bu_int ?_
  | with_reducible refine be_ref ?_
  | with_reducible refine bt_test ?_
  | with_reducible refine bt_B ?_
  | with_reducible refine bt_not ?_
  | with_reducible refine bt_and ?_
  | with_reducible refine bt_or ?_
  | with_reducible refine ex_bl ?_
  | with_reducible refine ex_int ?_
  | with_reducible refine be_andV ?_
  | with_reducible refine be_orV ?_
  | with_reducible refine be_notV ?_
  | with_reducible refine be_if ?_
  | with_reducible refine be_chain ?_
  | with_reducible refine be_sl ?_
  | with_reducible refine bo_none ?_
  | with_reducible refine bo_some ?_
  | with_reducible refine be_tup ?_
  | with_reducible refine bt_tru ?_)
local macro_rules | `(tactic| walk_at "bs") => `(tactic| first
  | with_reducible refine bs_seq ?_
  | with_reducible refine bs_asg ?_
  | with_reducible refine bs_drop ?_
  | with_reducible refine bs_ret ?_
  | with_reducible refine bs_if ?_
  | with_reducible refine bs_next ?_
  | with_reducible refine bs_brk ?_
  | with_reducible refine bs_cont ?_
  | with_reducible refine bg_name ?_
  | with_reducible refine bs_retN ?_)
local macro_rules | `(tactic| walk_at "go") => `(tactic| repeat (first | walk_at "bx" | walk_at "bs"))
local macro_rules | `(tactic| walk_at "sub") => `(tactic| first | exact List.Sublist.refl _ | (refine List.Sublist.cons₂ _ ?_; walk_at "sub") | (refine List.Sublist.cons _ ?_; walk_at "sub"))
local macro_rules | `(tactic| walk_at "it") => `(tactic| first
  | with_reducible refine ifT ?_
  | with_reducible refine ifF ?_
  | with_reducible refine ifNT ?_
  | with_reducible refine ifNF ?_
  | with_reducible refine ifNF ?_)
local macro_rules | `(tactic| walk_at "all") => `(tactic| repeat (first | walk_at "bx" | walk_at "bs" | walk_at "it"))

section
variable {K : PySem.W.Frag} {E : XK} {ds : List D} {M : Own} {P : KD} {C : Cs} {R : Value → Own → Prop}
/-! ### step_of -/
def stp (kd : Kd) (z : Int) : Int := match kd with
  | .float => 3
  | .box => 4
  | _ => if z < 0 then 1 else if z = 0 then 5 else 6
def pre_step_of : List D → Own → KD → Prop := fun ds M P => ∃ (kd : Kd) (z : Int), ds = [.str kd.str, .int z] ∧ kd.isC = true ∧ P (.int (stp kd z)) M
def t_step_of (K : PySem.W.Frag) : TS := (tSeq (tIfS (tTest (tOp rEq (tVar 0) (tC (.str ("float" : Str))))) (tRet (tC (.int 3))) tNext)
  (tSeq (tIfS (tTest (tOp rEq (tVar 0) (tC (.str ("box" : Str))))) (tRet (tC (.int 4))) tNext)
  (tSeq (tIfS (tTest (tOp (rI0 fun i j => .bl (decide (i < j))) (tVar 1) (tC (.int 0)))) (tRet (tC (.int 1))) tNext)
  (tRet (tIf (tTest (tOp rEq (tVar 1) (tC (.int 0)))) (tC (.int 5)) (tC (.int 6)))))))
theorem len_step_of (h : pre_step_of ds M P) : ds.length = 2 := by
  obtain ⟨kd, z, rfl, _⟩ := h
  rfl
theorem bs_step_of (h : pre_step_of ds M P) : BS K E (t_step_of K) (startE 2 ds) M { nx := fun _ M' => P .non M', rt := P } := by
  obtain ⟨kd, z, rfl, hk, k⟩ := h
  unfold t_step_of
  cases kd with
  | block => cases hk
  | text => cases hk
  | float =>
    walk_at "all"
    refine ifD (by decide) ?_
    walk_at "all"
    exact k
  | box =>
    walk_at "all"
    refine ifDn (by decide) ?_
    walk_at "all"
    refine ifD (by decide) ?_
    walk_at "all"
    exact k
  | over =>
    walk_at "all"
    refine ifDn (by decide) ?_
    walk_at "all"
    refine ifDn (by decide) ?_
    walk_at "all"
    have k' : P (.int (if z < 0 then 1 else if z = 0 then 5 else 6)) M := k
    refine ifP (fun q => ?_) (fun q => ?_)
    · rw [if_pos q] at k'
      walk_at "all"
      exact k'
    · rw [if_neg q] at k'
      walk_at "all"
      refine ifP (fun q => ?_) (fun q => ?_)
      · rw [if_pos q] at k'
        walk_at "all"
        exact k'
      · rw [if_neg q] at k'
        walk_at "all"
        exact k'
/-! ### ordered -/
theorem kD_append (ks : List (List Int)) (t : List Int) : (D.tup (ks.map tD ++ [tD t])) = kD (ks ++ [t]) := by
  unfold kD
  rw [List.map_append]
  rfl
theorem kdOf_at {ns : List Nd} {i : Nat} {x : Nd} (h : ns[i]? = some x) : kdOf ns i = x.kind := by
  unfold kdOf
  rw [h]
  rfl
theorem zOf_at {ns : List Nd} {i : Nat} {x : Nd} (h : ns[i]? = some x) : zOf ns i = x.z := by
  unfold zOf
  rw [h]
  rfl
theorem pr_at {ns : List Nd} {i p : Nat} {x : Nd} (h : ns[i]? = some x) (e : x.par = some p) : pr ns i = p := by
  unfold pr parOf
  rw [h]
  show x.par.getD 0 = p
  rw [e]
  rfl
theorem ctx_at {ns : List Nd} {i : Nat} {x : Nd} (h : ns[i]? = some x) (h0 : 0 < i) : ctx ns i = x.kind.isC := by
  unfold ctx
  rw [kdOf_at h]
  have : (i == 0) = false := by
    rw [beq_eq_false_iff_ne]
    omega
  rw [this]
  rfl
theorem key_zero {ns : List Nd} : key ns 0 = [[0, 0, 0]] := by
  unfold key
  rw [way_zero]
  rfl
theorem st_false_ctx {ns : List Nd} {i : Nat} (c : ctx ns i = true) : st ns i false = [0, 0, (i : Int)] := by
  unfold st
  rw [c]
  rfl
theorem st_false_non {ns : List Nd} {i : Nat} (c : ctx ns i = false) : st ns i false = stT (kdOf ns i) (zOf ns i) i := by
  unfold st
  rw [c]
  rfl
theorem st_true {ns : List Nd} {i : Nat} : st ns i true = stT (kdOf ns i) (zOf ns i) i := rfl
theorem stT_stp {kd : Kd} {z : Int} {i : Nat} (h : kd.isC = true) : stT kd z i = [stp kd z, (if kd.str = ("over" : Str) then z else 0), (i : Int)] := by
  cases kd with
  | block => cases h
  | text => cases h
  | float => rfl
  | box => rfl
  | over =>
    show [_, _, _] = [_, _, _]
    congr 1
    show (if z > 0 then 6 else if z < 0 then 1 else 5 : Int) = if z < 0 then 1 else if z = 0 then 5 else 6
    by_cases h1 : z < 0
    · rw [if_neg (by omega), if_pos h1, if_pos h1]
    · rw [if_neg h1, if_neg h1]
      by_cases h2 : z = 0
      · rw [if_neg (by omega), if_pos h2]
      · rw [if_pos (by omega), if_neg h2]
def pre_ordered : List D → Own → KD → Prop := fun ds M P => ∃ ns : List Nd, ds = [.lst (ns.map Nd.enc)] ∧ GoodN ns ∧ ns.length ≤ 1000 ∧ ∀ p, p ∉ keysO M → P (.raw (.ref p)) ((p, .lst ((ordOf ns).map fun (k : Nat) => D.int k)) :: M)
def t_ordered (K : PySem.W.Frag) (Ar : Around) : TS := (tSeq (tAsg (tLst tNil) (gName 1))
  (tSeq (tAsg (tLst tNil) (gName 2))
  (tSeq (tFor (iEnum K (tCons (tVar 0) tNil)) (gTup K 2 (gCons (gName 3) (gCons (gName 4) gNil))) (tSeq (tAsg (tVar 4) (gTup K 3 (gCons (gName 5) (gCons (gName 6) (gCons (gName 7) gNil)))))
  (tSeq (tAsg (tIf (tTest (tOp rEq (tVar 3) (tC (.int 0)))) (tTup tNil) (tOp (rIx K) (tVar 1) (tVar 5))) (gName 8))
  (tSeq (tIfS (tTest (tOp rEq (tVar 3) (tC (.int 0)))) (tDrop (tBM K "list" rAppend (tVar 2) (tCons (tTup (tCons (tTup (tCons (tC (.int 0)) (tCons (tC (.int 0)) (tCons (tC (.int 0)) tNil)))) tNil)) tNil))) (tIfS (tTest (tOp (rIn K false) (tVar 6) (tTup (tCons (tC (.str ("block" : Str))) (tCons (tC (.str ("text" : Str))) tNil))))) (tDrop (tBM K "list" rAppend (tVar 2) (tCons (tOp (rPlus K) (tVar 8) (tTup (tCons (tTup (tCons (tIf (tTest (tOp rEq (tVar 6) (tC (.str ("block" : Str))))) (tC (.int 2)) (tC (.int 4))) (tCons (tC (.int 0)) (tCons (tVar 3) tNil)))) tNil))) tNil))) (tSeq (tAsg (tOp (rPlus K) (tVar 8) (tTup (tCons (tTup (tCons (tCall (spB K (pre_step_of)) [] E0 (tCons (tVar 6) (tCons (tVar 7) tNil))) (tCons (tIf (tTest (tOp rEq (tVar 6) (tC (.str ("over" : Str))))) (tVar 7) (tC (.int 0))) (tCons (tVar 3) tNil)))) tNil))) (gName 8))
  (tDrop (tBM K "list" rAppend (tVar 2) (tCons (tOp (rPlus K) (tVar 8) (tTup (tCons (tTup (tCons (tC (.int 0)) (tCons (tC (.int 0)) (tCons (tVar 3) tNil)))) tNil))) tNil))))))
  (tDrop (tBM K "list" rAppend (tVar 1) (tCons (tVar 8) tNil)))))))
  (tRet (tLc (iList K (tCB (rSortedDt K Ar) (tCons (tLc (iEnum K (tCons (tVar 2) tNil)) (gTup K 2 (gCons (gName 3) (gCons (gName 9) gNil))) tYes (tTup (tCons (tVar 9) (tCons (tVar 3) tNil))) [3, 9]) tNil))) (gTup K 2 (gCons (gName 9) (gCons (gName 3) gNil))) tYes (tVar 3) [9, 3])))))
theorem len_ordered (h : pre_ordered ds M P) : ds.length = 1 := by
  obtain ⟨ns, rfl, _⟩ := h
  rfl
def waysD (ns : List Nd) (i : Nat) : List D := (List.range i).map fun k => kD (way ns k)
def keysD (ns : List Nd) (i : Nat) : List D := (List.range i).map fun k => kD (key ns k)
theorem waysD_len (ns : List Nd) (i : Nat) : (waysD ns i).length = i := by
  unfold waysD
  rw [List.length_map, List.length_range]
theorem keysD_len (ns : List Nd) (i : Nat) : (keysD ns i).length = i := by
  unfold keysD
  rw [List.length_map, List.length_range]
theorem enc_at {ns : List Nd} {i : Nat} {d : D} (h : (ns.map Nd.enc)[i]? = some d) : ∃ x, ns[i]? = some x ∧ d = x.enc := by
  rw [List.getElem?_map] at h
  cases e : ns[i]? with
  | none => rw [e] at h; cases h
  | some x => rw [e] at h; exact ⟨x, rfl, (Option.some.inj h).symm⟩
theorem key_len {ns : List Nd} (g : Desc ns) {k : Nat} (h : k < ns.length) : (way ns k).length ≤ ns.length := by
  have := way_len g h
  omega
theorem ord_tail {ns : List Nd} {w q : Addr} {i : Nat} {a b c d e : Option D} {A : AE} (hi : i < ns.length) (hl : ns.length ≤ 1000)
    (k : A.nx [some (.lst (ns.map Nd.enc)), some (.raw (.ref w)), some (.raw (.ref q)), a, b, c, d, e, some (kD (way ns i)), none] ((q, .lst (keysD ns (i + 1))) :: (w, .lst (waysD ns (i + 1))) :: M)) :
    BS K E (tDrop (tBM K "list" rAppend (tVar 1) (tCons (tVar 8) tNil))) [some (.lst (ns.map Nd.enc)), some (.raw (.ref w)), some (.raw (.ref q)), a, b, c, d, e, some (kD (way ns i)), none] ((q, .lst (keysD ns (i + 1))) :: (w, .lst (waysD ns i)) :: M) A := by
  walk_at "all"
  refine be_bm ?_
  walk_at "all"
  refine ⟨ty_list (.of (.own (n := 1) rfl)), ?_⟩
  walk_at "all"
  refine bm_append (n := 1) rfl (by rw [waysD_len]; exact line_lt (by omega)) ?_
  have sn1 : waysD ns i ++ [kD (way ns i)] = waysD ns (i + 1) := range_snoc (fun k => kD (way ns k)) i
  rw [sn1]
  exact k
theorem ord_app {ns : List Nd} {w q : Addr} {i : Nat} {d : D} (hi : i < ns.length) (hl : ns.length ≤ 1000) (hd : d = kD (key ns i))
    (k : P .non ((q, .lst (keysD ns (i + 1))) :: (w, .lst (waysD ns i)) :: M)) : BM K rAppend (.raw (.ref q)) [d] ((q, .lst (keysD ns i)) :: (w, .lst (waysD ns i)) :: M) P := by
  subst hd
  refine bm_append (n := 0) rfl (by rw [keysD_len]; exact line_lt (by omega)) ?_
  have sn2 : keysD ns i ++ [kD (key ns i)] = keysD ns (i + 1) := range_snoc (fun k => kD (key ns k)) i
  rw [sn2]
  exact k
theorem bs_ordered {Ar : Around} (hA : Ar.units + 64 < cLine) (h : pre_ordered ds M P) : BS K E (t_ordered K Ar) (startE 10 ds) M { nx := fun _ M' => P .non M', rt := P } := by
  obtain ⟨ns, rfl, g, hl, k⟩ := h
  have gd := g.desc
  unfold t_ordered
  walk_at "all"
  refine be_lst ?_
  walk_at "all"
  refine ⟨by decide, fun w hw => ?_⟩
  walk_at "all"
  refine be_lst ?_
  walk_at "all"
  refine ⟨by decide, fun q hq => ?_⟩
  walk_at "all"
  refine bs_forE ?_
  walk_at "all"
  refine ⟨_, rfl, _, .of .lst, fun i ρ' M' => i ≤ ns.length ∧ ∃ a b c d e f, ρ' = [some (.lst (ns.map Nd.enc)), some (.raw (.ref w)), some (.raw (.ref q)), a, b, c, d, e, f, none] ∧ M' = (q, .lst (keysD ns i)) :: (w, .lst (waysD ns i)) :: M,
    ⟨Nat.zero_le _, none, none, none, none, none, none, rfl, rfl⟩, fun _ _ _ _ => .of .lst, ?_, ?_⟩
  · rintro i x ρ' M' hxx ⟨hi, a, b, c, d, e, f, rfl, rfl⟩
    obtain ⟨x, hx, rfl⟩ := enc_at hxx
    clear hxx
    have hlt : i < ns.length := (List.getElem?_eq_some_iff.mp hx).1
    refine bg_tup rfl (bgs_cons (bg_name (bgs_cons (bg_name (bgs_nil ?_)))))
    walk_at "all"
    refine bg_tup rfl (bgs_cons (bg_name (bgs_cons (bg_name (bgs_cons (bg_name (bgs_nil ?_)))))))
    walk_at "all"
    by_cases h0 : i = 0
    · subst h0
      refine ifD rfl ?_
      walk_at "all"
      refine ⟨by decide, ?_⟩
      walk_at "all"
      refine ifD rfl ?_
      walk_at "all"
      refine be_bm ?_
      walk_at "all"
      refine ⟨ty_list (.of (.own (n := 0) rfl)), ?_⟩
      walk_at "all"
      refine ⟨by decide, ?_⟩
      walk_at "all"
      refine ⟨by decide, ?_⟩
      walk_at "all"
      refine ord_app hlt hl (by rw [key_zero]; rfl) ?_
      have e2 : D.tup [] = kD (way ns 0) := by
        rw [way_zero]
        rfl
      show BS K E _ [_, _, _, _, _, _, _, _, some (D.tup []), none] _ _
      rw [e2]
      refine ord_tail hlt hl ?_
      exact ⟨hlt, _, _, _, _, _, _, rfl, rfl⟩
    · obtain ⟨j, rfl⟩ : ∃ j, i = j + 1 := ⟨i - 1, by omega⟩
      obtain ⟨p, y, e1, e2, e3, e4, e5⟩ := g.succ j x hx
      have hp : pr ns (j + 1) = p := pr_at hx e1
      have hpl : p < ns.length := (List.getElem?_eq_some_iff.mp e3).1
      have wl := key_len gd hpl
      have gw : (waysD ns (j + 1))[p]? = some (kD (way ns p)) := by
        unfold waysD
        rw [List.getElem?_map, List.getElem?_range (by omega)]
        rfl
      have hc := ctx_at hx (Nat.succ_pos j)
      refine ifDn (by omega) ?_
      walk_at "all"
      rw [e1]
      show BR K (rIx K) (.raw (.ref w)) (.int p) _ _
      refine br_ixL (.of (.own (n := 1) rfl)) (atI_nn gw) ?_
      walk_at "all"
      refine ifDn (by omega) ?_
      walk_at "all"
      refine ⟨by show 2 ≤ sizeLine; decide, ?_⟩
      refine br_isin (.inl rfl) (x := .str x.kind.str) (xs := [.str "block", .str "text"]) rfl rfl ?_
      walk_at "all"
      cases ic : x.kind.isC with
      | false =>
        have hw2 : way ns (j + 1) = way ns p := by
          rw [way_non (k := j + 1) (by omega) (by omega) (by rw [hc, ic]), hp]
        have hin : inV (.str x.kind.str) [.str "block", .str "text"] = true := by
          cases e : x.kind <;> first | decide | (rw [e] at ic; cases ic)
        rw [hin]
        refine ifT ?_
        have hkey : key ns (j + 1) = way ns p ++ [stT x.kind x.z (j + 1)] := by
          unfold key
          rw [hw2, st_false_non (by rw [hc, ic]), kdOf_at hx, zOf_at hx]
        rw [← hw2] at hkey ⊢
        walk_at "all"
        refine be_bm ?_
        walk_at "all"
        refine ⟨ty_list (.of (.own (n := 0) rfl)), ?_⟩
        walk_at "all"
        cases ek : x.kind with
        | float => rw [ek] at ic; cases ic
        | box => rw [ek] at ic; cases ic
        | over => rw [ek] at ic; cases ic
        | block =>
          refine ifD (by decide) ?_
          walk_at "all"
          refine ⟨by show 3 ≤ sizeLine; decide, ?_⟩
          walk_at "all"
          refine ⟨by show 1 ≤ sizeLine; decide, ?_⟩
          refine br_plusT (by rw [List.length_map, hw2]; exact line_of (show (way ns p).length + 1 ≤ 100000 by omega)) ?_
          walk_at "all"
          refine ord_app hlt hl (by rw [hkey, ek, ← kD_append]; rfl) ?_
          refine ord_tail hlt hl ?_
          exact ⟨hlt, _, _, _, _, _, _, rfl, rfl⟩
        | text =>
          refine ifDn (by decide) ?_
          walk_at "all"
          refine ⟨by show 3 ≤ sizeLine; decide, ?_⟩
          walk_at "all"
          refine ⟨by show 1 ≤ sizeLine; decide, ?_⟩
          refine br_plusT (by rw [List.length_map, hw2]; exact line_of (show (way ns p).length + 1 ≤ 100000 by omega)) ?_
          walk_at "all"
          refine ord_app hlt hl (by rw [hkey, ek, ← kD_append]; rfl) ?_
          refine ord_tail hlt hl ?_
          exact ⟨hlt, _, _, _, _, _, _, rfl, rfl⟩
      | true =>
        have hw2 : way ns (j + 1) = way ns p ++ [stT x.kind x.z (j + 1)] := by
          rw [way_ctx (k := j + 1) (by omega) (by omega) (by rw [hc, ic]), hp, st_true, kdOf_at hx, zOf_at hx]
        have hin : inV (.str x.kind.str) [.str "block", .str "text"] = false := by
          cases e : x.kind <;> first | decide | (rw [e] at ic; cases ic)
        rw [hin]
        refine ifF ?_
        have hkey : key ns (j + 1) = way ns (j + 1) ++ [[0, 0, ((j + 1 : Nat) : Int)]] := by
          unfold key
          rw [st_false_ctx (by rw [hc, ic])]
        have hst := stT_stp (z := x.z) (i := j + 1) ic
        walk_at "all"
        refine ⟨x.kind, x.z, rfl, ic, ?_⟩
        walk_at "all"
        cases ek : x.kind with
        | block => rw [ek] at ic; cases ic
        | text => rw [ek] at ic; cases ic
        | float =>
          rw [ek] at hst hw2
          refine ifDn (by decide) ?_
          walk_at "all"
          refine ⟨by show 3 ≤ sizeLine; decide, ?_⟩
          walk_at "all"
          refine ⟨by show 1 ≤ sizeLine; decide, ?_⟩
          refine br_plusT (by rw [List.length_map]; exact line_of (show (way ns p).length + 1 ≤ 100000 by omega)) ?_
          have e8 : D.tup ((way ns p).map tD ++ [D.tup [.int (stp .float x.z), .int (0), .int ((j + 1 : Nat) : Int)]]) = kD (way ns (j + 1)) := by
            rw [hw2, ← kD_append, hst]
            rfl
          rw [e8]
          walk_at "all"
          refine be_bm ?_
          walk_at "all"
          refine ⟨ty_list (.of (.own (n := 0) rfl)), ?_⟩
          walk_at "all"
          refine ⟨by show 3 ≤ sizeLine; decide, ?_⟩
          walk_at "all"
          refine ⟨by show 1 ≤ sizeLine; decide, ?_⟩
          refine br_plusT (by rw [List.length_map, hw2, List.length_append]; exact line_of (show (way ns p).length + 1 + 1 ≤ 100000 by omega)) ?_
          walk_at "all"
          refine ord_app hlt hl (by rw [hkey, ← kD_append]; rfl) ?_
          refine ord_tail hlt hl ?_
          exact ⟨hlt, _, _, _, _, _, _, rfl, rfl⟩
        | box =>
          rw [ek] at hst hw2
          refine ifDn (by decide) ?_
          walk_at "all"
          refine ⟨by show 3 ≤ sizeLine; decide, ?_⟩
          walk_at "all"
          refine ⟨by show 1 ≤ sizeLine; decide, ?_⟩
          refine br_plusT (by rw [List.length_map]; exact line_of (show (way ns p).length + 1 ≤ 100000 by omega)) ?_
          have e8 : D.tup ((way ns p).map tD ++ [D.tup [.int (stp .box x.z), .int (0), .int ((j + 1 : Nat) : Int)]]) = kD (way ns (j + 1)) := by
            rw [hw2, ← kD_append, hst]
            rfl
          rw [e8]
          walk_at "all"
          refine be_bm ?_
          walk_at "all"
          refine ⟨ty_list (.of (.own (n := 0) rfl)), ?_⟩
          walk_at "all"
          refine ⟨by show 3 ≤ sizeLine; decide, ?_⟩
          walk_at "all"
          refine ⟨by show 1 ≤ sizeLine; decide, ?_⟩
          refine br_plusT (by rw [List.length_map, hw2, List.length_append]; exact line_of (show (way ns p).length + 1 + 1 ≤ 100000 by omega)) ?_
          walk_at "all"
          refine ord_app hlt hl (by rw [hkey, ← kD_append]; rfl) ?_
          refine ord_tail hlt hl ?_
          exact ⟨hlt, _, _, _, _, _, _, rfl, rfl⟩
        | over =>
          rw [ek] at hst hw2
          refine ifD (by decide) ?_
          walk_at "all"
          refine ⟨by show 3 ≤ sizeLine; decide, ?_⟩
          walk_at "all"
          refine ⟨by show 1 ≤ sizeLine; decide, ?_⟩
          refine br_plusT (by rw [List.length_map]; exact line_of (show (way ns p).length + 1 ≤ 100000 by omega)) ?_
          have e8 : D.tup ((way ns p).map tD ++ [D.tup [.int (stp .over x.z), .int (x.z), .int ((j + 1 : Nat) : Int)]]) = kD (way ns (j + 1)) := by
            rw [hw2, ← kD_append, hst]
            rfl
          rw [e8]
          walk_at "all"
          refine be_bm ?_
          walk_at "all"
          refine ⟨ty_list (.of (.own (n := 0) rfl)), ?_⟩
          walk_at "all"
          refine ⟨by show 3 ≤ sizeLine; decide, ?_⟩
          walk_at "all"
          refine ⟨by show 1 ≤ sizeLine; decide, ?_⟩
          refine br_plusT (by rw [List.length_map, hw2, List.length_append]; exact line_of (show (way ns p).length + 1 + 1 ≤ 100000 by omega)) ?_
          walk_at "all"
          refine ord_app hlt hl (by rw [hkey, ← kD_append]; rfl) ?_
          refine ord_tail hlt hl ?_
          exact ⟨hlt, _, _, _, _, _, _, rfl, rfl⟩
  · rintro ρ' M' ⟨hi, a, b, c, d, e, f, rfl, rfl⟩
    rw [List.length_map]
    have hz : ns.length ≤ sizeLine := line_of (by omega)
    refine bs_freeze (k := 0) (a := q) (ds := keysD ns ns.length) rfl (.keep (.keep (.here (.keep (.keep (.keep (.keep (.keep (.keep (.keep .nil)))))))))) ?_
    refine bs_sub (M' := M) (List.sublist_cons_self _ _) ?_
    refine bs_ret (be_sub ?_)
    refine be_lcL ?_
    walk_at "all"
    refine be_lcE ?_
    walk_at "all"
    refine ⟨_, rfl, lcE_map (fun k => itD ns k) (.of .lst) (by rw [keysD_len]; exact hz) (fun i x Dl acc hx => ?_) fun p hp => ?_⟩
    · have hlt : i < ns.length := by
        have := (List.getElem?_eq_some_iff.mp hx).1
        rw [keysD_len] at this
        exact this
      unfold keysD at hx
      rw [List.getElem?_map, List.getElem?_range hlt] at hx
      cases hx
      refine ⟨_, ct_tup rfl (cts_cons (ct_name (by decide)) (cts_cons (ct_name (by decide)) cts_nil)), ?_⟩
      walk_at "all"
      exact ⟨by show 2 ≤ sizeLine; decide, rfl, rfl⟩
    · rw [keysD_len]
      walk_at "all"
      refine bc_sorted (ds := (List.range ns.length).map (itD ns)) (ps := (List.range ns.length).map (itP ns)) (.of (.own (n := 0) rfl)) (pyAll_map (py_itD ns) _) (PySem.W.AllAlike.of fun a b => alike_it ns a b) (PySem.W.Sortable.tuples fun a => ⟨_, _, rfl⟩) (fun d hd => ?_) fun p2 hp2 => ?_
      · obtain ⟨k, _, rfl⟩ := List.mem_map.mp hd
        have := depth_it ns k
        omega
      · rw [raws_zip]
        have e1 : ((raws ns).mergeSort (PySem.W.dataLe false fun x => x.2)).map (fun x => x.1) = (ordOf ns).map (itD ns) := ord_list ns
        rw [e1]
        refine lcL_map (fun i => (((ordOf ns)[i]?).map fun (k : Nat) => D.int k).getD .non) (.of (.own (n := 0) rfl)) (by rw [List.length_map, ord_len]; exact hz) (fun i x Dl acc hx => ?_) fun p3 hp3 => ?_
        · rw [List.getElem?_map] at hx
          cases e2 : (ordOf ns)[i]? with
          | none => rw [e2] at hx; cases hx
          | some k =>
            rw [e2] at hx
            cases hx
            refine ⟨_, ct_tup rfl (cts_cons (ct_name (by decide)) (cts_cons (ct_name (by decide)) cts_nil)), ?_⟩
            walk_at "all"
            exact ⟨rfl, rfl⟩
        · rw [List.length_map]
          have e3 : (List.range (ordOf ns).length).map (fun i => (((ordOf ns)[i]?).map fun (k : Nat) => D.int k).getD .non) = (ordOf ns).map fun (k : Nat) => D.int k := by
            have := range_map_get (xs := (ordOf ns).map fun (k : Nat) => D.int k) (F := fun i => (((ordOf ns)[i]?).map fun (k : Nat) => D.int k).getD .non) fun i x hx => by
              rw [List.getElem?_map] at hx
              show Option.getD (Option.map _ _) _ = x
              rw [hx]
              rfl
            rw [List.length_map] at this
            exact this
          rw [e3]
          exact ⟨_, List.Sublist.cons₂ _ (List.Sublist.cons _ (List.Sublist.cons _ (List.Sublist.refl M))), k p3 fun z => hp3 (List.mem_cons_of_mem _ (List.mem_cons_of_mem _ z))⟩
/-! ### painting_order -/
def pre_painting_order (C : Cs) : List D → Own → KD → (Value → Own → Prop) → Prop := fun ds M P R => ∃ d : D, ds = [d] ∧
  ((∃ ns : List Nd, d = .lst (ns.map Nd.enc) ∧ GoodN ns ∧ ns.length ≤ 1000 ∧ ∀ p, p ∉ keysO M → P (.raw (.ref p)) ((p, .lst ((ordOf ns).map fun (k : Nat) => D.int k)) :: M)) ∨ (BadIn d ∧ ∀ M', M.Sublist M' → R (.ref C.c_BadList) M'))
def t_painting_order (K : PySem.W.Frag) (C : Cs) (E : XK) : TS := (tSeq (tDrop (tCall (spX K (pre_check_nodes C)) [] E (tCons (tVar 0) tNil)))
  (tRet (tCall (spB K (pre_ordered)) [] E0 (tCons (tVar 0) tNil))))
theorem len_painting_order (h : pre_painting_order C ds M P R) : ds.length = 1 := by
  obtain ⟨d, rfl, _⟩ := h
  rfl
theorem bs_painting_order (h : pre_painting_order C ds M P R) : BS K E (t_painting_order K C E) (startE 1 ds) M { nx := fun _ M' => P .non M', rt := P, ex := R } := by
  obtain ⟨d, rfl, h⟩ := h
  unfold t_painting_order
  refine bs_seq (bx_drop ?_)
  walk_at "all"
  rcases h with ⟨ns, rfl, g, hl, k⟩ | ⟨hb, hr⟩
  · refine ⟨_, rfl, .inl ⟨ns, rfl, g, hl, ?_⟩⟩
    walk_at "all"
    exact ⟨ns, rfl, g, hl, k⟩
  · exact ⟨_, rfl, .inr ⟨hb, hr⟩⟩
end
end K62

namespace K62
open PySem PySem.Spec PyProof.Rows L2 Evl Pv
local macro_rules | `(tactic| walk_at "bx") => `(tactic| first
  | (with_reducible refine be_var (by with_unfolding_all exact rfl) ?_)
  | with_reducible refine be_int ?_
  | with_reducible refine be_str ?_
  | with_reducible refine ba_cons ?_
  | with_reducible refine ba_nil ?_
  | with_reducible refine be_cb ?_
  | with_reducible refine be_call ?_
  | with_reducible refine be_op ?_
  | with_reducible refine br_plusI ?_
  | with_reducible refine br_int ?_
  | with_reducible refine br_bl ?_
  | with_reducible refine br_eqI ?_
  | with_reducible refine br_neI ?_
  | with_reducible refine br_eqS ?_
  | with_reducible refine br_neS ?_
  | with_reducible refine br_eqB ?_
  | with_reducible refine br_neB ?_
  | with_reducible refine br_isN ?_
  | with_reducible refine br_notN ?_
  | with_reducible refine bc_int ?_
  | with_reducible refine bc_intB ?_
  | with_reducible refine bc_lenT ?_
  | with_reducible refine be_bl ?_
  | with_reducible refine be_non ?_
  | with_reducible refine be_ty ?_
  | with_reducible refine be_un ?_
  | with_reducible refine bu_int ?_
  | with_reducible refine be_ref ?_
  | with_reducible refine bt_test ?_
  | with_reducible refine bt_B ?_
  | with_reducible refine bt_not ?_
  | with_reducible refine bt_and ?_
  | with_reducible refine bt_or ?_
  | with_reducible refine ex_bl ?_
  | with_reducible refine ex_int ?_
  | with_reducible refine be_andV ?_
  | with_reducible refine be_orV ?_
  | with_reducible refine be_notV ?_
  | with_reducible refine be_if ?_
  | with_reducible refine be_chain ?_
  | with_reducible refine be_sl ?_
  | with_reducible refine bo_none ?_
  | with_reducible refine bo_some ?_
  | with_reducible refine be_tup ?_
  | with_reducible refine bt_tru ?_)
local macro_rules | `(tactic| walk_at "bs") => `(tactic| first
  | with_reducible refine bs_seq ?_
  | with_reducible refine bs_asg ?_
  | with_reducible refine bs_drop ?_
  | with_reducible refine bs_ret ?_
  | with_reducible refine bs_if ?_
  | with_reducible refine bs_next ?_
  | with_reducible refine bs_brk ?_
  | with_reducible refine bs_cont ?_
  | with_reducible refine bg_name ?_
  | with_reducible refine bs_retN ?_)
local macro_rules | `(tactic| walk_at "go") => `(tactic| repeat (first | walk_at "bx" | walk_at "bs"))
local macro_rules | `(tactic| walk_at "sub") => `(tactic| first | exact List.Sublist.refl _ | (refine List.Sublist.cons₂ _ ?_; walk_at "sub") | (refine List.Sublist.cons _ ?_; walk_at "sub"))
local macro_rules | `(tactic| walk_at "it") => `(tactic| first
  | with_reducible refine ifT ?_
  | with_reducible refine ifF ?_
  | with_reducible refine ifNT ?_
  | with_reducible refine ifNF ?_
  | with_reducible refine ifNF ?_)
local macro_rules | `(tactic| walk_at "all") => `(tactic| repeat (first | walk_at "bx" | walk_at "bs" | walk_at "it"))

section
variable {K : PySem.W.Frag} {E : XK} {ds : List D} {M : Own} {P : KD} {C : Cs}
/-! ### _law_is_context -/
def pre_is_context : List D → Own → KD → Prop := fun ds M P => ∃ (ns : List Nd) (k : Nat), ds = [.lst (ns.map Nd.enc), .int k] ∧ k < ns.length ∧ P (.bl (ctx ns k)) M
def t_is_context (K : PySem.W.Frag) : TS := (tRet (tOrV (tOp rEq (tVar 1) (tC (.int 0))) (tOp (rIn K false) (tOp (rIx K) (tOp (rIx K) (tVar 0) (tVar 1)) (tC (.int 1))) (tLst (tCons (tC (.str ("float" : Str))) (tCons (tC (.str ("box" : Str))) (tCons (tC (.str ("over" : Str))) tNil)))))))
theorem len_is_context (h : pre_is_context ds M P) : ds.length = 2 := by
  obtain ⟨ns, k, rfl, _⟩ := h
  rfl
theorem enc_get {ns : List Nd} {i : Nat} {x : Nd} (h : ns[i]? = some x) : (ns.map Nd.enc)[i]? = some (.tup [encP x.par, .str x.kind.str, .int x.z]) := by
  rw [List.getElem?_map, h]
  rfl
theorem bs_is_context (h : pre_is_context ds M P) : BS K E (t_is_context K) (startE 2 ds) M { nx := fun _ M' => P .non M', rt := P } := by
  obtain ⟨ns, i, rfl, hi, k⟩ := h
  have hx := List.getElem?_eq_getElem hi
  unfold t_is_context
  walk_at "all"
  refine ifP (fun q => ?_) (fun q => ?_)
  · obtain rfl : i = 0 := by omega
    exact k
  · walk_at "all"
    refine br_ixL (.of .lst) (atI_nn (enc_get hx)) ?_
    walk_at "all"
    refine br_ixT (atI_nn (n := 1) rfl) ?_
    refine be_lstF ?_
    walk_at "all"
    refine ⟨by show 3 ≤ sizeLine; decide, ?_⟩
    refine br_isin (.inr (.of .lst)) (x := .str ns[i].kind.str) (xs := [.str "float", .str "box", .str "over"]) rfl rfl ?_
    have e : inV (.str ns[i].kind.str) [.str "float", .str "box", .str "over"] = ctx ns i := by
      rw [ctx_at hx (by omega)]
      cases ns[i].kind <;> decide
    rw [e]
    exact k
/-! ### _law_homes -/
def madeD (ns : List Nd) : D := .tup [.lst ((List.range ns.length).map fun k => .int (home ns k)), .lst ((List.range ns.length).map fun k => .int (way ns k).length), .lst ((List.range ns.length).map fun k => .int (arnd ns k))]
def pre_homes : List D → Own → KD → Prop := fun ds M P => ∃ ns : List Nd, ds = [.lst (ns.map Nd.enc)] ∧ GoodN ns ∧ 0 < ns.length ∧ ns.length ≤ 1000 ∧ P (madeD ns) M
def t_homes (K : PySem.W.Frag) : TS := (tSeq (tPar3 1 2 3 (tCons (tLst (tCons (tC (.int 0)) tNil)) (tCons (tLst (tCons (tC (.int 0)) tNil)) (tCons (tLst (tCons (tC (.int 0)) tNil)) tNil))))
  (tSeq (tFor (iRng2 (tCons (tC (.int 1)) (tCons (tCB (rLenP K) (tCons (tVar 0) tNil)) tNil))) (gName 4) (tSeq (tAsg (tOp (rIx K) (tVar 1) (tOp (rIx K) (tOp (rIx K) (tVar 0) (tVar 4)) (tC (.int 0)))) (gName 5))
  (tIfS (tB (tCall (spB K (pre_is_context)) [] E0 (tCons (tVar 0) (tCons (tVar 4) tNil)))) (tSeq (tDrop (tBM K "list" rAppend (tVar 1) (tCons (tVar 4) tNil)))
  (tSeq (tDrop (tBM K "list" rAppend (tVar 2) (tCons (tOp (rPlus K) (tOp (rIx K) (tVar 2) (tOp (rIx K) (tOp (rIx K) (tVar 0) (tVar 4)) (tC (.int 0)))) (tC (.int 1))) tNil)))
  (tDrop (tBM K "list" rAppend (tVar 3) (tCons (tVar 5) tNil))))) (tSeq (tDrop (tBM K "list" rAppend (tVar 1) (tCons (tVar 5) tNil)))
  (tSeq (tDrop (tBM K "list" rAppend (tVar 2) (tCons (tOp (rIx K) (tVar 2) (tOp (rIx K) (tOp (rIx K) (tVar 0) (tVar 4)) (tC (.int 0)))) tNil)))
  (tDrop (tBM K "list" rAppend (tVar 3) (tCons (tOp (rIx K) (tVar 3) (tOp (rIx K) (tOp (rIx K) (tVar 0) (tVar 4)) (tC (.int 0)))) tNil))))))))
  (tRet (tTup (tCons (tVar 1) (tCons (tVar 2) (tCons (tVar 3) tNil)))))))
theorem len_homes (h : pre_homes ds M P) : ds.length = 1 := by
  obtain ⟨ns, rfl, _⟩ := h
  rfl
theorem rg_get {F : Nat → D} {n i : Nat} (h : i < n) : ((List.range n).map F)[i]? = some (F i) := by
  rw [List.getElem?_map, List.getElem?_range h]
  rfl
theorem bs_homes (h : pre_homes ds M P) : BS K E (t_homes K) (startE 6 ds) M { nx := fun _ M' => P .non M', rt := P } := by
  obtain ⟨ns, rfl, g, hn, hl, k⟩ := h
  have gd := g.desc
  unfold t_homes
  walk_at "all"
  refine bs_par3 ?_
  walk_at "all"
  refine be_lst ?_
  walk_at "all"
  refine ⟨by decide, fun a ha => ?_⟩
  walk_at "all"
  refine be_lst ?_
  walk_at "all"
  refine ⟨by decide, fun b hb => ?_⟩
  walk_at "all"
  refine be_lst ?_
  walk_at "all"
  refine ⟨by decide, fun c hc => ?_⟩
  walk_at "all"
  refine ⟨_, _, _, rfl, ?_⟩
  walk_at "all"
  refine bs_forR2 ?_
  walk_at "all"
  refine bc_lenL (.of .lst) ?_
  walk_at "all"
  rw [List.length_map]
  refine ⟨1, ns.length, rfl, by omega, fun i ρ' M' => ∃ (x y : Option D), ρ' = [some (.lst (ns.map Nd.enc)), some (.raw (.ref a)), some (.raw (.ref b)), some (.raw (.ref c)), x, y] ∧
    M' = (c, .lst ((List.range (i + 1)).map fun k => .int (arnd ns k))) :: (b, .lst ((List.range (i + 1)).map fun k => .int (way ns k).length)) :: (a, .lst ((List.range (i + 1)).map fun k => .int (home ns k))) :: M, ⟨none, none, rfl, ?_⟩, ?_, ?_⟩
  · have e1 : home ns 0 = 0 := home_ctx rfl
    have e2 : arnd ns 0 = 0 := by rw [arnd, if_pos rfl]
    show _ = (c, Cell.lst [.int (arnd ns 0)]) :: (b, Cell.lst [.int (way ns 0).length]) :: (a, Cell.lst [.int (home ns 0)]) :: M
    rw [e1, e2, way_zero]
    rfl
  · rintro i ρ' M' hi ⟨x, y, rfl, rfl⟩
    have hlt : i + 1 < ns.length := by omega
    have hx := List.getElem?_eq_getElem hlt
    obtain ⟨p, w, e1, e2, e3, e4, e5⟩ := g.succ i _ hx
    have hp : pr ns (i + 1) = p := pr_at hx e1
    have epar : ∀ P' : KD, ∀ M' : Own, P' (.int p) M' → BR K (rIx K) (.tup [encP ns[i + 1].par, .str ns[i + 1].kind.str, .int ns[i + 1].z]) (.int 0) M' P' := fun P' M' q => by
      refine br_ixT (atI_nn (n := 0) rfl) ?_
      rw [e1]
      exact q
    have nx1 : (1 : Int) + (i : Nat) = ((i + 1 : Nat) : Int) := by omega
    rw [nx1]
    have sn1 : ((List.range (i + 1)).map fun k => D.int (home ns k)) ++ [.int (home ns (i + 1))] = (List.range (i + 1 + 1)).map fun k => D.int (home ns k) := range_snoc (fun k => D.int (home ns k)) (i + 1)
    have sn2 : ((List.range (i + 1)).map fun k => D.int (way ns k).length) ++ [.int (way ns (i + 1)).length] = (List.range (i + 1 + 1)).map fun k => D.int (way ns k).length := range_snoc (fun k => D.int (way ns k).length) (i + 1)
    have sn3 : ((List.range (i + 1)).map fun k => D.int (arnd ns k)) ++ [.int (arnd ns (i + 1))] = (List.range (i + 1 + 1)).map fun k => D.int (arnd ns k) := range_snoc (fun k => D.int (arnd ns k)) (i + 1)
    have lz : ∀ F : Nat → D, ((List.range (i + 1)).map F).length < sizeLine := fun F => by
      rw [List.length_map, List.length_range]
      exact line_lt (by omega)
    walk_at "all"
    refine br_ixL (.of .lst) (atI_nn (enc_get hx)) ?_
    walk_at "all"
    refine epar _ _ ?_
    refine br_ixL (.of (.own (n := 2) rfl)) (atI_nn (rg_get (by omega))) ?_
    walk_at "all"
    refine ⟨ns, i + 1, rfl, hlt, ?_⟩
    walk_at "all"
    refine ifB (fun cc => ?_) (fun cc => ?_)
    · have f1 : home ns (i + 1) = i + 1 := home_ctx cc
      have f2 : (way ns (i + 1)).length = (way ns p).length + 1 := by
        rw [way_ctx (k := i + 1) (by omega) (by omega) cc, hp, List.length_append]
        rfl
      have f3 : arnd ns (i + 1) = home ns p := by rw [arnd_ctx (k := i + 1) (by omega) (by omega) cc, hp]
      walk_at "all"
      refine be_bm ?_
      walk_at "all"
      refine ⟨ty_list (.of (.own (n := 2) rfl)), ?_⟩
      walk_at "all"
      refine bm_append (n := 2) rfl (lz _) ?_
      have g1 : ((List.range (i + 1)).map fun k => D.int (home ns k)) ++ [.int ((i + 1 : Nat) : Int)] = (List.range (i + 1 + 1)).map fun k => D.int (home ns k) := by rw [← sn1, f1]
      rw [g1]
      walk_at "all"
      refine be_bm ?_
      walk_at "all"
      refine ⟨ty_list (.of (.own (n := 1) rfl)), ?_⟩
      walk_at "all"
      refine br_ixL (.of .lst) (atI_nn (enc_get hx)) ?_
      walk_at "all"
      refine epar _ _ ?_
      refine br_ixL (.of (.own (n := 1) rfl)) (atI_nn (rg_get (by omega))) ?_
      walk_at "all"
      refine bm_append (n := 1) rfl (lz _) ?_
      have g2 : ((List.range (i + 1)).map fun k => D.int (way ns k).length) ++ [.int (((way ns p).length : Int) + 1)] = (List.range (i + 1 + 1)).map fun k => D.int (way ns k).length := by rw [← sn2, f2]; rfl
      rw [g2]
      walk_at "all"
      refine be_bm ?_
      walk_at "all"
      refine ⟨ty_list (.of (.own (n := 0) rfl)), ?_⟩
      walk_at "all"
      refine bm_append (n := 0) rfl (lz _) ?_
      have g3 : ((List.range (i + 1)).map fun k => D.int (arnd ns k)) ++ [.int (home ns p)] = (List.range (i + 1 + 1)).map fun k => D.int (arnd ns k) := by rw [← sn3, f3]
      rw [g3]
      exact ⟨_, _, rfl, rfl⟩
    · have f1 : home ns (i + 1) = home ns p := by rw [home_non (k := i + 1) (by omega) cc, hp]
      have f2 : (way ns (i + 1)).length = (way ns p).length := by rw [way_non (k := i + 1) (by omega) (by omega) cc, hp]
      have f3 : arnd ns (i + 1) = arnd ns p := by rw [arnd_non (k := i + 1) (by omega) (by omega) cc, hp]
      walk_at "all"
      refine be_bm ?_
      walk_at "all"
      refine ⟨ty_list (.of (.own (n := 2) rfl)), ?_⟩
      walk_at "all"
      refine bm_append (n := 2) rfl (lz _) ?_
      have g1 : ((List.range (i + 1)).map fun k => D.int (home ns k)) ++ [.int (home ns p)] = (List.range (i + 1 + 1)).map fun k => D.int (home ns k) := by rw [← sn1, f1]
      rw [g1]
      walk_at "all"
      refine be_bm ?_
      walk_at "all"
      refine ⟨ty_list (.of (.own (n := 1) rfl)), ?_⟩
      walk_at "all"
      refine br_ixL (.of .lst) (atI_nn (enc_get hx)) ?_
      walk_at "all"
      refine epar _ _ ?_
      refine br_ixL (.of (.own (n := 1) rfl)) (atI_nn (rg_get (by omega))) ?_
      refine ba_nil ?_
      refine bm_append (n := 1) rfl (lz _) ?_
      have g2 : ((List.range (i + 1)).map fun k => D.int (way ns k).length) ++ [.int ((way ns p).length : Int)] = (List.range (i + 1 + 1)).map fun k => D.int (way ns k).length := by rw [← sn2, f2]
      rw [g2]
      walk_at "all"
      refine be_bm ?_
      walk_at "all"
      refine ⟨ty_list (.of (.own (n := 0) rfl)), ?_⟩
      walk_at "all"
      refine br_ixL (.of .lst) (atI_nn (enc_get hx)) ?_
      walk_at "all"
      refine epar _ _ ?_
      refine br_ixL (.of (.own (n := 0) rfl)) (atI_nn (rg_get (by omega))) ?_
      refine ba_nil ?_
      refine bm_append (n := 0) rfl (lz _) ?_
      have g3 : ((List.range (i + 1)).map fun k => D.int (arnd ns k)) ++ [.int (arnd ns p)] = (List.range (i + 1 + 1)).map fun k => D.int (arnd ns k) := by rw [← sn3, f3]
      rw [g3]
      exact ⟨_, _, rfl, rfl⟩
  · rintro ρ' M' ⟨x, y, rfl, rfl⟩
    have en : ((ns.length : Int) - 1).toNat + 1 = ns.length := by omega
    rw [en]
    refine bs_freeze (k := 0) (a := c) rfl (.keep (.keep (.keep (.here (.keep (.keep .nil)))))) ?_
    refine bs_freeze (k := 0) (a := b) rfl (.keep (.keep (.here (.keep (.keep (.keep .nil)))))) ?_
    refine bs_freeze (k := 0) (a := a) rfl (.keep (.here (.keep (.keep (.keep (.keep .nil)))))) ?_
    walk_at "all"
    exact ⟨by show 3 ≤ sizeLine; decide, k⟩
end
end K62

namespace K62
open PySem PySem.Spec PyProof.Rows L2 Evl Pv
local macro_rules | `(tactic| walk_at "bx") => `(tactic| first
  | (with_reducible refine be_var (by with_unfolding_all exact rfl) ?_)
  | with_reducible refine be_int ?_
  | with_reducible refine be_str ?_
  | with_reducible refine ba_cons ?_
  | with_reducible refine ba_nil ?_
  | with_reducible refine be_cb ?_
  | with_reducible refine be_call ?_
  | with_reducible refine be_op ?_
  | with_reducible refine br_plusI ?_
  | with_reducible refine br_int ?_
  | with_reducible refine br_bl ?_
  | with_reducible refine br_eqI ?_
  | with_reducible refine br_neI ?_
  | with_reducible refine br_eqS ?_
  | with_reducible refine br_neS ?_
  | with_reducible refine br_eqB ?_
  | with_reducible refine br_neB ?_
  | with_reducible refine br_isN ?_
  | with_reducible refine br_notN ?_
  | with_reducible refine bc_int ?_
  | with_reducible refine bc_intB ?_
  | with_reducible refine bc_lenT ?_
  | with_reducible refine be_bl ?_
  | with_reducible refine be_non ?_
  | with_reducible refine be_ty ?_
  | with_reducible refine be_un ?_
  | with_reducible refine bu_int ?_
  | with_reducible refine be_ref ?_
  | with_reducible refine bt_test ?_
  | with_reducible refine bt_B ?_
  | with_reducible refine bt_not ?_
  | with_reducible refine bt_and ?_
  | with_reducible refine bt_or ?_
  | with_reducible refine ex_bl ?_
  | with_reducible refine ex_int ?_
  | with_reducible refine be_andV ?_
  | with_reducible refine be_orV ?_
  | with_reducible refine be_notV ?_
  | with_reducible refine be_if ?_
  | with_reducible refine be_chain ?_
  | with_reducible refine be_sl ?_
  | with_reducible refine bo_none ?_
  | with_reducible refine bo_some ?_
  | with_reducible refine be_tup ?_
  | with_reducible refine bt_tru ?_)
local macro_rules | `(tactic| walk_at "bs") => `(tactic| first
  | with_reducible refine bs_seq ?_
  | with_reducible refine bs_asg ?_
  | with_reducible refine bs_drop ?_
  | with_reducible refine bs_ret ?_
  | with_reducible refine bs_if ?_
  | with_reducible refine bs_next ?_
  | with_reducible refine bs_brk ?_
  | with_reducible refine bs_cont ?_
  | with_reducible refine bg_name ?_
  | with_reducible refine bs_retN ?_)
local macro_rules | `(tactic| walk_at "go") => `(tactic| repeat (first | walk_at "bx" | walk_at "bs"))
local macro_rules | `(tactic| walk_at "sub") => `(tactic| first | exact List.Sublist.refl _ | (refine List.Sublist.cons₂ _ ?_; walk_at "sub") | (refine List.Sublist.cons _ ?_; walk_at "sub"))
local macro_rules | `(tactic| walk_at "it") => `(tactic| first
  | with_reducible refine ifT ?_
  | with_reducible refine ifF ?_
  | with_reducible refine ifNT ?_
  | with_reducible refine ifNF ?_
  | with_reducible refine ifNF ?_)
local macro_rules | `(tactic| walk_at "all") => `(tactic| repeat (first | walk_at "bx" | walk_at "bs" | walk_at "it"))

section
variable {K : PySem.W.Frag} {E : XK} {ds : List D} {M : Own} {P : KD} {C : Cs}
/-! ### _law_stands -/
def pre_stands : List D → Own → KD → Prop := fun ds M P => ∃ (ns : List Nd) (k : Nat) (w : Bool), ds = [.lst (ns.map Nd.enc), .int k, .bl w] ∧ k < ns.length ∧ P (tD (st ns k w)) M
def t_stands (K : PySem.W.Frag) : TS := (tSeq (tAsg (tOp (rIx K) (tVar 0) (tVar 1)) (gTup K 3 (gCons (gName 3) (gCons (gName 4) (gCons (gName 5) gNil)))))
  (tSeq (tIfS (tAnd (tNot (tB (tVar 2))) (tB (tCall (spB K (pre_is_context)) [] E0 (tCons (tVar 0) (tCons (tVar 1) tNil))))) (tRet (tTup (tCons (tC (.int 0)) (tCons (tC (.int 0)) (tCons (tVar 1) tNil))))) tNext)
  (tSeq (tIfS (tTest (tOp rEq (tVar 4) (tC (.str ("over" : Str))))) (tRet (tTup (tCons (tOp (rIx K) (tLst (tCons (tC (.int 5)) (tCons (tC (.int 6)) (tCons (tC (.int 1)) tNil)))) (tOp (rPlus K) (tCB rInt1 (tCons (tOp (rI0 fun i j => .bl (decide (j < i))) (tVar 5) (tC (.int 0))) tNil)) (tOp rTimes (tC (.int 2)) (tCB rInt1 (tCons (tOp (rI0 fun i j => .bl (decide (i < j))) (tVar 5) (tC (.int 0))) tNil))))) (tCons (tVar 5) (tCons (tVar 1) tNil))))) tNext)
  (tRet (tTup (tCons (tDGet (tDisp [((tC (.str ("block" : Str))), (tC (.int 2))), ((tC (.str ("float" : Str))), (tC (.int 3))), ((tC (.str ("box" : Str))), (tC (.int 4))), ((tC (.str ("text" : Str))), (tC (.int 4)))]) (tVar 4)) (tCons (tC (.int 0)) (tCons (tVar 1) tNil))))))))
theorem len_stands (h : pre_stands ds M P) : ds.length = 3 := by
  obtain ⟨ns, k, w, rfl, _⟩ := h
  rfl
def ranks : List (Key × D) := [(.inr "block", .int 2), (.inr "float", .int 3), (.inr "box", .int 4), (.inr "text", .int 4)]
theorem bs_stands (h : pre_stands ds M P) : BS K E (t_stands K) (startE 6 ds) M { nx := fun _ M' => P .non M', rt := P } := by
  obtain ⟨ns, i, w, rfl, hi, k⟩ := h
  have hx := List.getElem?_eq_getElem hi
  generalize ns[i] = x at hx
  have ek := kdOf_at hx
  have ez := zOf_at hx
  unfold t_stands
  walk_at "all"
  refine br_ixL (.of .lst) (atI_nn (enc_get hx)) ?_
  refine bg_tup rfl (bgs_cons (bg_name (bgs_cons (bg_name (bgs_cons (bg_name (bgs_nil ?_)))))))
  walk_at "all"
  -- what stands for itself
  have rest : st ns i w = stT x.kind x.z i → BS K E (tSeq (tIfS (tTest (tOp rEq (tVar 4) (tC (.str ("over" : Str))))) (tRet (tTup (tCons (tOp (rIx K) (tLst (tCons (tC (.int 5)) (tCons (tC (.int 6)) (tCons (tC (.int 1)) tNil)))) (tOp (rPlus K) (tCB rInt1 (tCons (tOp (rI0 fun i j => .bl (decide (j < i))) (tVar 5) (tC (.int 0))) tNil)) (tOp rTimes (tC (.int 2)) (tCB rInt1 (tCons (tOp (rI0 fun i j => .bl (decide (i < j))) (tVar 5) (tC (.int 0))) tNil))))) (tCons (tVar 5) (tCons (tVar 1) tNil))))) tNext)
  (tRet (tTup (tCons (tDGet (tDisp [((tC (.str ("block" : Str))), (tC (.int 2))), ((tC (.str ("float" : Str))), (tC (.int 3))), ((tC (.str ("box" : Str))), (tC (.int 4))), ((tC (.str ("text" : Str))), (tC (.int 4)))]) (tVar 4)) (tCons (tC (.int 0)) (tCons (tVar 1) tNil))))))
    [some (.lst (ns.map Nd.enc)), some (.int i), some (.bl w), some (encP x.par), some (.str x.kind.str), some (.int x.z)] M { nx := fun _ M' => P .non M', rt := P } := fun e => by
    rw [e] at k
    by_cases ho : x.kind = .over
    · rw [ho] at k ⊢
      walk_at "all"
      refine ifD (by decide) ?_
      walk_at "all"
      refine be_lstF ?_
      walk_at "all"
      refine ⟨by show 3 ≤ sizeLine; decide, ?_⟩
      walk_at "all"
      refine br_timesI (.inl (by decide)) ?_
      walk_at "all"
      have pick : ∀ v : Int, (v = if x.z > 0 then 6 else if x.z < 0 then 1 else 5) → [D.int v, .int x.z, .int i].length ≤ sizeLine ∧ P (.tup [.int v, .int x.z, .int i]) M := fun v hv => by
        refine ⟨by show 3 ≤ sizeLine; decide, ?_⟩
        rw [hv]
        exact k
      by_cases h1 : 0 < x.z
      · rw [decide_eq_true h1, decide_eq_false (by omega : ¬ x.z < 0)]
        refine br_ixL (.of .lst) (d := .int 6) (atI_nn (n := 1) rfl) ?_
        walk_at "all"
        exact pick 6 (by rw [if_pos h1])
      · by_cases h2 : x.z < 0
        · rw [decide_eq_false h1, decide_eq_true h2]
          refine br_ixL (.of .lst) (d := .int 1) (atI_nn (n := 2) rfl) ?_
          walk_at "all"
          exact pick 1 (by rw [if_neg (by omega), if_pos h2])
        · rw [decide_eq_false h1, decide_eq_false h2]
          refine br_ixL (.of .lst) (d := .int 5) (atI_nn (n := 0) rfl) ?_
          walk_at "all"
          exact pick 5 (by rw [if_neg (by omega), if_neg h2])
    · refine bs_seq ?_
      walk_at "all"
      refine ifDn (by intro z; cases e2 : x.kind <;> rw [e2] at z ho <;> first | exact ho rfl | exact absurd z (by decide)) ?_
      refine bs_next ?_
      refine bs_ret (be_sub ?_)
      walk_at "all"
      refine be_dget ?_
      refine be_disp fun p hp => ?_
      have step : ∀ (s : Str) (n : Int) (r : List (TE × TE)) (P' : List (Key × D) → Own → Prop) (M' : Own) (ρ : Pv.Env), BPs K r ρ M' (fun kvs M3 => P' ((.inr s, .int n) :: kvs) M3) → BPs K ((tC (.str s), tC (.int n)) :: r) ρ M' P' := fun s n r P' M' ρ q => by
        refine bps_cons (be_str ⟨.inr s, rfl, be_int q⟩)
      refine step _ _ _ _ _ _ (step _ _ _ _ _ _ (step _ _ _ _ _ _ (step _ _ _ _ _ _ (bps_nil ?_))))
      refine ⟨0, rfl, by decide, ?_⟩
      walk_at "all"
      have got : ∀ v : Int, getD ranks (.inr x.kind.str) = some (.int v) → stT x.kind x.z i = [v, 0, (i : Int)] → ∃ (n : Nat) (a : Addr) (kvs : List (Key × D)) (k : Key) (d : D), D.raw (V.ref p) = D.raw (V.ref a) ∧ (List.set ((p, Cell.dct []) :: M) 0 (p, Cell.dct (mergeD [] ranks)))[n]? = some (a, Cell.dct kvs) ∧ keyD (D.str x.kind.str) = some k ∧ getD kvs k = some d ∧
          BA K (tCons (tC (.int 0)) (tCons (tVar 1) tNil)) [some (.lst (ns.map Nd.enc)), some (.int i), some (.bl w), some (encP x.par), some (.str x.kind.str), some (.int x.z)] (List.set ((p, Cell.dct []) :: M) 0 (p, Cell.dct (mergeD [] ranks))) (fun ds M2 => (d :: ds).length ≤ sizeLine ∧ ∃ M3, M3.Sublist M2 ∧ P (D.tup (d :: ds)) M3) := fun v h1 h2 => by
        refine ⟨0, p, mergeD [] ranks, .inr x.kind.str, .int v, rfl, rfl, rfl, h1, ?_⟩
        walk_at "all"
        refine ⟨by show 3 ≤ sizeLine; decide, M, List.sublist_cons_self _ _, ?_⟩
        rw [h2] at k
        exact k
      cases e3 : x.kind with
      | over => exact absurd e3 ho
      | block =>
        rw [e3] at got
        exact got 2 rfl rfl
      | float =>
        rw [e3] at got
        exact got 3 rfl rfl
      | box =>
        rw [e3] at got
        exact got 4 rfl rfl
      | text =>
        rw [e3] at got
        exact got 4 rfl rfl
  cases w with
  | true =>
    refine ifNT ?_
    refine ifF ?_
    refine bs_next ?_
    refine rest ?_
    rw [st_true, ek, ez]
  | false =>
    walk_at "all"
    refine ⟨ns, i, rfl, hi, ?_⟩
    walk_at "all"
    refine ifB (fun c => ?_) (fun c => ?_)
    · walk_at "all"
      refine ⟨by show 3 ≤ sizeLine; decide, ?_⟩
      rw [st_false_ctx c] at k
      exact k
    · refine bs_next ?_
      refine rest ?_
      rw [st_false_non c, ek, ez]
/-! ### _law_is_ahead -/
def pre_is_ahead : List D → Own → KD → Prop := fun ds M P => ∃ (ns : List Nd) (a b : Nat), ds = [.lst (ns.map Nd.enc), madeD ns, .int a, .int b] ∧ GoodN ns ∧ ns.length ≤ 1000 ∧ a < ns.length ∧ b < ns.length ∧ a ≠ b ∧ Bef ns a b ∧ P (.bl true) M
def t_is_ahead (K : PySem.W.Frag) : TS := (tSeq (tAsg (tVar 1) (gTup K 3 (gCons (gName 4) (gCons (gName 5) (gCons (gName 6) gNil)))))
  (tSeq (tPar 7 8 (tCons (tCall (spB K (pre_stands)) [] E0 (tCons (tVar 0) (tCons (tVar 2) (tCons (tC (.bl false)) tNil)))) (tCons (tCall (spB K (pre_stands)) [] E0 (tCons (tVar 0) (tCons (tVar 3) (tCons (tC (.bl false)) tNil)))) tNil)))
  (tSeq (tPar 9 10 (tCons (tOp (rIx K) (tVar 4) (tVar 2)) (tCons (tOp (rIx K) (tVar 4) (tVar 3)) tNil)))
  (tSeq (tFor (iRng1 (tCons (tOp rTimes (tC (.int 2)) (tCB (rLenP K) (tCons (tVar 0) tNil))) tNil)) (gName 11) (tSeq (tIfS (tTest (tOp rEq (tVar 9) (tVar 10))) tBreak tNext)
  (tIfS (tTest (tOp (rI0 fun i j => .bl (decide (j ≤ i))) (tOp (rIx K) (tVar 5) (tVar 9)) (tOp (rIx K) (tVar 5) (tVar 10)))) (tPar 7 9 (tCons (tCall (spB K (pre_stands)) [] E0 (tCons (tVar 0) (tCons (tVar 9) (tCons (tC (.bl true)) tNil)))) (tCons (tOp (rIx K) (tVar 6) (tVar 9)) tNil))) (tPar 8 10 (tCons (tCall (spB K (pre_stands)) [] E0 (tCons (tVar 0) (tCons (tVar 10) (tCons (tC (.bl true)) tNil)))) (tCons (tOp (rIx K) (tVar 6) (tVar 10)) tNil))))))
  (tRet (tOp (rLtT K) (tVar 7) (tVar 8)))))))
theorem len_is_ahead (h : pre_is_ahead ds M P) : ds.length = 4 := by
  obtain ⟨ns, a, b, rfl, _⟩ := h
  rfl
theorem bs_is_ahead (h : pre_is_ahead ds M P) : BS K E (t_is_ahead K) (startE 12 ds) M { nx := fun _ M' => P .non M', rt := P } := by
  obtain ⟨ns, a, b, rfl, g, hl, ha, hb, ne, bef, k⟩ := h
  have gd := g.desc
  obtain ⟨C0, x, y, r, s, e1, e2, nxy⟩ := key_part gd ha hb ne
  unfold t_is_ahead
  walk_at "all"
  refine bg_tup rfl (bgs_cons (bg_name (bgs_cons (bg_name (bgs_cons (bg_name (bgs_nil ?_)))))))
  walk_at "all"
  refine bs_par ?_
  walk_at "all"
  refine ⟨ns, a, false, rfl, ha, ?_⟩
  walk_at "all"
  refine ⟨ns, b, false, rfl, hb, ?_⟩
  walk_at "all"
  refine ⟨_, _, rfl, ?_⟩
  walk_at "all"
  refine bs_par ?_
  walk_at "all"
  refine br_ixL (.of .lst) (atI_nn (rg_get ha)) ?_
  walk_at "all"
  refine br_ixL (.of .lst) (atI_nn (rg_get hb)) ?_
  walk_at "all"
  refine ⟨_, _, rfl, ?_⟩
  walk_at "all"
  refine bs_forR1 ?_
  walk_at "all"
  refine bc_lenL (.of .lst) ?_
  rw [List.length_map]
  refine br_timesI (.inl (by decide)) ?_
  walk_at "all"
  have e3 : ((2 : Int) * (ns.length : Int)).toNat = 2 * ns.length := by omega
  refine ⟨_, rfl, by omega, by omega, fun i ρ' M' => ∃ (p q : Nat) (f t : List Int) (u : Option D), Climb ns a b p q f t i C0 ∧ M' = M ∧
    ρ' = [some (.lst (ns.map Nd.enc)), some (madeD ns), some (.int a), some (.int b), some (.lst ((List.range ns.length).map fun k => .int (home ns k))), some (.lst ((List.range ns.length).map fun k => .int (way ns k).length)), some (.lst ((List.range ns.length).map fun k => .int (arnd ns k))), some (tD f), some (tD t), some (.int p), some (.int q), u],
    ⟨_, _, _, _, none, Climb.start gd ha hb e1 e2, rfl, rfl⟩, ?_, ?_⟩
  · rintro i ρ' M' hi ⟨p, q, f, t, u, cl, rfl, rfl⟩
    walk_at "all"
    refine ifP (fun z => ?_) (fun z => ?_)
    · obtain rfl : p = q := by omega
      obtain ⟨rfl, rfl⟩ := cl.done e1 e2 nxy
      walk_at "all"
      refine br_ltT ?_
      rw [bef C0 _ _ r s e1 e2 nxy]
      exact k
    · have npq : p ≠ q := fun w => z (by rw [w])
      walk_at "all"
      refine br_ixL (.of .lst) (atI_nn (rg_get cl.pl)) ?_
      walk_at "all"
      refine br_ixL (.of .lst) (atI_nn (rg_get cl.ql)) ?_
      walk_at "all"
      refine ifP (fun z => ?_) (fun z => ?_)
      · refine bs_par ?_
        walk_at "all"
        refine ⟨ns, p, true, rfl, cl.pl, ?_⟩
        walk_at "all"
        refine br_ixL (.of .lst) (atI_nn (rg_get cl.pl)) ?_
        walk_at "all"
        exact ⟨_, _, rfl, _, _, _, _, _, cl.left gd e1 e2 npq (by omega), rfl, rfl⟩
      · refine bs_par ?_
        walk_at "all"
        refine ⟨ns, q, true, rfl, cl.ql, ?_⟩
        walk_at "all"
        refine br_ixL (.of .lst) (atI_nn (rg_get cl.ql)) ?_
        walk_at "all"
        exact ⟨_, _, rfl, _, _, _, _, _, cl.right gd e1 e2 npq (by omega), rfl, rfl⟩
  · rintro ρ' M' ⟨p, q, f, t, u, cl, rfl, rfl⟩
    have := cl.nn
    omega
/-! ### _law_is_order -/
def natsD (os : List Nat) : List D := os.map fun (k : Nat) => D.int k
def pre_is_order : List D → Own → KD → Prop := fun ds M P => ∃ (ns : List Nd) (dt : D), ds = [.lst (ns.map Nd.enc), dt] ∧ GoodN ns ∧ 0 < ns.length ∧ ns.length ≤ 1000 ∧ IsL M dt (natsD (ordOf ns)) ∧ P (.bl true) M
def t_is_order (K : PySem.W.Frag) (Ar : Around) : TS := (tSeq (tAsg (tCB (rLenP K) (tCons (tVar 0) tNil)) (gName 2))
  (tSeq (tIfS (tOr (tNot (tB (tCB (rIsi K) (tCons (tVar 1) (tCons (tC (.ty "list")) tNil))))) (tOr (tTest (tOp rNe (tCB (rLenP K) (tCons (tVar 1) tNil)) (tVar 2))) (tNot (tB (tCB (rAll K) (tCons (tLc (iList K (tVar 1)) (gName 4) tYes (tAndV (tCB (rIsi K) (tCons (tVar 4) (tCons (tC (.ty "int")) tNil))) (tNotV (tCB (rIsi K) (tCons (tVar 4) (tCons (tC (.ty "bool")) tNil))))) [4]) tNil)))))) (tRet (tC (.bl false))) tNext)
  (tSeq (tIfS (tTest (tOp (rNeD K) (tCB (rSortedDt K Ar) (tCons (tVar 1) tNil)) (tLc (iRng1 (tCons (tVar 2) tNil)) (gName 4) tYes (tVar 4) [4]))) (tRet (tC (.bl false))) tNext)
  (tSeq (tAsg (tCall (spB K (pre_homes)) [] E0 (tCons (tVar 0) tNil)) (gName 3))
  (tSeq (tFor (iRng2 (tCons (tC (.int 1)) (tCons (tVar 2) tNil))) (gName 4) (tIfS (tNot (tB (tCall (spB K (pre_is_ahead)) [] E0 (tCons (tVar 0) (tCons (tVar 3) (tCons (tOp (rIx K) (tVar 1) (tOp (rI0 fun i j => .int (i - j)) (tVar 4) (tC (.int 1)))) (tCons (tOp (rIx K) (tVar 1) (tVar 4)) tNil))))))) (tRet (tC (.bl false))) tNext))
  (tRet (tC (.bl true))))))))
theorem len_is_order (h : pre_is_order ds M P) : ds.length = 2 := by
  obtain ⟨ns, dt, rfl, _⟩ := h
  rfl
theorem natsD_len (os : List Nat) : (natsD os).length = os.length := by
  unfold natsD
  rw [List.length_map]
theorem natsD_get {os : List Nat} {i k : Nat} (h : os[i]? = some k) : (natsD os)[i]? = some (.int k) := by
  unfold natsD
  rw [List.getElem?_map, h]
  rfl
theorem natsD_at {os : List Nat} {i : Nat} {d : D} (h : (natsD os)[i]? = some d) : ∃ k : Nat, os[i]? = some k ∧ d = .int k := by
  unfold natsD at h
  rw [List.getElem?_map] at h
  cases e : os[i]? with
  | none => rw [e] at h; cases h
  | some k => rw [e] at h; exact ⟨k, rfl, (Option.some.inj h).symm⟩
theorem natsD_py (os : List Nat) : pyAll (natsD os) = some (os.map fun (k : Nat) => PyData.int k) := pyAll_map (f := fun (k : Nat) => D.int k) (g := fun (k : Nat) => PyData.int k) (fun _ => rfl) os
theorem IsL.cons {x : Addr × Cell} {d : D} {ds : List D} (h : IsL M d ds) : IsL (x :: M) d ds := by
  cases h with
  | own q => exact .own (n := _ + 1) q
  | lst => exact .lst
theorem bs_is_order {Ar : Around} (hA : Ar.units + 64 < cLine) (h : pre_is_order ds M P) : BS K E (t_is_order K Ar) (startE 5 ds) M { nx := fun _ M' => P .non M', rt := P } := by
  obtain ⟨ns, dt, rfl, g, hn, hl, ht, k⟩ := h
  have hz : ns.length ≤ sizeLine := line_of (by omega)
  unfold t_is_order
  walk_at "all"
  refine bc_lenL (.of .lst) ?_
  rw [List.length_map]
  walk_at "all"
  refine bc_isi (.lst ht) (b := true) (by rfl) ?_
  walk_at "all"
  refine bc_lenL (.of ht) ?_
  rw [natsD_len, ord_len]
  walk_at "all"
  refine ifND rfl ?_
  walk_at "all"
  refine be_lcL ?_
  walk_at "all"
  refine lcL_map (fun _ => .bl true) (.of ht) (by rw [natsD_len, ord_len]; exact hz) (fun i x Dl acc hx => ?_) fun p hp => ?_
  · obtain ⟨j, _, rfl⟩ := natsD_at hx
    refine ⟨_, ct_name (by decide), ?_⟩
    walk_at "all"
    refine bc_isi (.int j) (b := true) (by rfl) ?_
    walk_at "all"
    refine bc_isi (.int j) (b := false) (by rfl) ?_
    walk_at "all"
    exact ⟨rfl, rfl⟩
  · rw [natsD_len, ord_len]
    walk_at "all"
    refine bc_all (bs := (List.range ns.length).map fun _ => true) (.of (.own (n := 0) ?_)) ?_
    · rw [List.map_map]
      rfl
    have ea : ((List.range ns.length).map fun _ => true).all id = true := by
      rw [List.all_eq_true]
      intro b hb
      obtain ⟨_, _, rfl⟩ := List.mem_map.mp hb
      rfl
    rw [ea]
    walk_at "all"
    refine bc_sorted (.of (IsL.cons ht)) (natsD_py _) (PySem.W.AllAlike.of fun a b => by simp [PySem.W.alike]) (PySem.W.Sortable.others fun a => ⟨by simp, fun xs z => nomatch z⟩) (fun d hd => ?_) fun p hp => ?_
    · obtain ⟨j, _, rfl⟩ := List.mem_map.mp hd
      rw [PyData.depth]
      omega
    · have e1 := sort_range (ord_perm ns)
      have e2 : ((((natsD (ordOf ns)).zip ((ordOf ns).map fun (k : Nat) => PyData.int k)).mergeSort (PySem.W.dataLe false fun x => x.2)).map fun x => x.1) = natsD (List.range ns.length) := e1
      rw [e2]
      refine be_lcR1 ?_
      walk_at "all"
      refine ⟨_, rfl, by omega, by omega, ?_⟩
      refine lcR_map (fun k => .int k) (by omega) (fun i Dl acc hi => ?_) fun p2 hp2 => ?_
      · refine ⟨_, ct_name (by decide), ?_⟩
        walk_at "all"
        exact ⟨by rw [Int.zero_add], rfl⟩
      · rw [Int.toNat_natCast]
        have py1 : pyAll (natsD (List.range ns.length)) = _ := natsD_py _
        refine br_neD (PyIs.own (n := 1) rfl py1) (PyIs.own (n := 0) rfl (natsD_py (List.range ns.length))) ?_ ?_ ?_
        · exact shaped_nats _
        · exact shaped_nats _
        · have eq : PyData.eqv (PyData.list ((List.range ns.length).map fun (k : Nat) => PyData.int k)) (PyData.list ((List.range ns.length).map fun (k : Nat) => PyData.int k)) = true := by
            rw [PyData.eqv]
            have := eqv_ints ((List.range ns.length).map fun (k : Nat) => (k : Int)) ((List.range ns.length).map fun (k : Nat) => (k : Int))
            rw [List.map_map] at this
            rw [decide_eq_true rfl] at this
            exact this
          rw [eq]
          walk_at "all"
          refine ⟨ns, rfl, g, hn, hl, ?_⟩
          walk_at "all"
          refine bs_sub (M' := M) (List.Sublist.cons _ (List.Sublist.cons _ (List.sublist_cons_self _ _))) ?_
          refine bs_forR2 ?_
          walk_at "all"
          refine ⟨1, ns.length, rfl, by omega, fun i ρ' M' => ∃ u : Option D, M' = M ∧ ρ' = [some (.lst (ns.map Nd.enc)), some dt, some (.int ns.length), some (madeD ns), u], ⟨_, rfl, rfl⟩, ?_, ?_⟩
          · rintro i ρ' M' hi ⟨u, rfl, rfl⟩
            have l0 : i < (ordOf ns).length := by rw [ord_len]; omega
            have l1 : i + 1 < (ordOf ns).length := by rw [ord_len]; omega
            have o0 := List.getElem?_eq_getElem l0
            have o1 := List.getElem?_eq_getElem l1
            obtain ⟨b1, b2⟩ := ord_bef o0 o1
            walk_at "all"
            refine br_ixL (.of ht) (d := .int ((ordOf ns)[i] : Nat)) ?_ ?_
            · have : (1 : Int) + (i : Nat) - 1 = ((i : Nat) : Int) := by omega
              rw [this]
              exact atI_nn (natsD_get o0)
            walk_at "all"
            refine br_ixL (.of ht) (d := .int ((ordOf ns)[i + 1] : Nat)) ?_ ?_
            · have : (1 : Int) + (i : Nat) = ((i + 1 : Nat) : Int) := by omega
              rw [this]
              exact atI_nn (natsD_get o1)
            walk_at "all"
            refine ⟨ns, _, _, rfl, g, hl, ord_lt (List.getElem_mem _), ord_lt (List.getElem_mem _), b2, b1, ?_⟩
            walk_at "all"
            exact ⟨_, rfl, rfl⟩
          · rintro ρ' M' ⟨u, rfl, rfl⟩
            walk_at "all"
            exact k
end
end K62

namespace K62
open PySem PySem.Spec PyProof.Rows L2 Evl Pv
local macro_rules | `(tactic| walk_at "bx") => `(tactic| first
  | (with_reducible refine be_var (by with_unfolding_all exact rfl) ?_)
  | with_reducible refine be_int ?_
  | with_reducible refine be_str ?_
  | with_reducible refine ba_cons ?_
  | with_reducible refine ba_nil ?_
  | with_reducible refine be_cb ?_
  | with_reducible refine be_call ?_
  | with_reducible refine be_op ?_
  | with_reducible refine br_plusI ?_
  | with_reducible refine br_int ?_
  | with_reducible refine br_bl ?_
  | with_reducible refine br_eqI ?_
  | with_reducible refine br_neI ?_
  | with_reducible refine br_eqS ?_
  | with_reducible refine br_neS ?_
  | with_reducible refine br_eqB ?_
  | with_reducible refine br_neB ?_
  | with_reducible refine br_isN ?_
  | with_reducible refine br_notN ?_
  | with_reducible refine bc_int ?_
  | with_reducible refine bc_intB ?_
  | with_reducible refine bc_lenT ?_
  | with_reducible refine be_bl ?_
  | with_reducible refine be_non ?_
  | with_reducible refine be_ty ?_
  | with_reducible refine be_un ?_
  | with_reducible refine bu_int ?_
  | with_reducible refine be_ref ?_
  | with_reducible refine bt_test ?_
  | with_reducible refine bt_B ?_
  | with_reducible refine bt_not ?_
  | with_reducible refine bt_and ?_
  | with_reducible refine bt_or ?_
  | with_reducible refine ex_bl ?_
  | with_reducible refine ex_int ?_
  | with_reducible refine be_andV ?_
  | with_reducible refine be_orV ?_
  | with_reducible refine be_notV ?_
  | with_reducible refine be_if ?_
  | with_reducible refine be_chain ?_
  | with_reducible refine be_sl ?_
  | with_reducible refine bo_none ?_
  | with_reducible refine bo_some ?_
  | with_reducible refine be_tup ?_
  | with_reducible refine bt_tru ?_)
local macro_rules | `(tactic| walk_at "bs") => `(tactic| first
  | with_reducible refine bs_seq ?_
  | with_reducible refine bs_asg ?_
  | with_reducible refine bs_drop ?_
  | with_reducible refine bs_ret ?_
  | with_reducible refine bs_if ?_
  | with_reducible refine bs_next ?_
  | with_reducible refine bs_brk ?_
  | with_reducible refine bs_cont ?_
  | with_reducible refine bg_name ?_
  | with_reducible refine bs_retN ?_)
local macro_rules | `(tactic| walk_at "go") => `(tactic| repeat (first | walk_at "bx" | walk_at "bs"))
local macro_rules | `(tactic| walk_at "sub") => `(tactic| first | exact List.Sublist.refl _ | (refine List.Sublist.cons₂ _ ?_; walk_at "sub") | (refine List.Sublist.cons _ ?_; walk_at "sub"))
local macro_rules | `(tactic| walk_at "it") => `(tactic| first
  | with_reducible refine ifT ?_
  | with_reducible refine ifF ?_
  | with_reducible refine ifNT ?_
  | with_reducible refine ifNF ?_
  | with_reducible refine ifNF ?_)
local macro_rules | `(tactic| walk_at "all") => `(tactic| repeat (first | walk_at "bx" | walk_at "bs" | walk_at "it"))

section
variable {K : PySem.W.Frag} {E : XK} {ds : List D} {M : Own} {P : KD} {C : Cs}
/-! ### _law_same -/
def pl : Nat → D → Prop
  | _, .non => True
  | _, .int _ => True
  | _, .str s => PyData.canLay0 (.str s) = true
  | n + 1, .tup ds => ∀ d ∈ ds, pl n d
  | n + 1, .lst ds => ∀ d ∈ ds, pl n d
  | _, _ => False
def sz : Nat → D → Nat
  | n + 1, .tup ds => 1 + (ds.map (sz n)).sum
  | n + 1, .lst ds => 1 + (ds.map (sz n)).sum
  | _, _ => 1
theorem sz_pos : ∀ (n : Nat) (d : D), 1 ≤ sz n d
  | 0, d => by
    unfold sz
    exact Nat.le_refl _
  | n + 1, d => by
    cases d <;> unfold sz <;> omega
theorem pyAll_ex {A : PyData → Prop} : ∀ {ds : List D}, (∀ d ∈ ds, ∃ p, pyOf d = some p ∧ A p) → ∃ ps, pyAll ds = some ps ∧ ∀ p ∈ ps, A p
  | [], _ => ⟨[], by simp [pyAll], fun p m => (nomatch m)⟩
  | d :: ds, h => by
    obtain ⟨p, h1, h2⟩ := h d List.mem_cons_self
    obtain ⟨ps, h3, h4⟩ := pyAll_ex (A := A) fun x m => h x (List.mem_cons_of_mem _ m)
    refine ⟨p :: ps, by rw [pyAll, h1, h3], fun x m => ?_⟩
    rcases List.mem_cons.mp m with rfl | m
    · exact h2
    · exact h4 x m
theorem pl_py : ∀ (n : Nat) (d : D), pl n d → ∃ p, pyOf d = some p ∧ PyData.canLay0 p = true ∧ PyData.depth p ≤ n := by
  intro n
  induction n with
  | zero =>
    intro d h
    cases d with
    | non => exact ⟨.none, rfl, rfl, by rw [PyData.depth]; exact Nat.le_refl _⟩
    | int i => exact ⟨.int i, rfl, rfl, by rw [PyData.depth]; exact Nat.le_refl _⟩
    | str s => exact ⟨.str s, rfl, h, by rw [PyData.depth]; exact Nat.le_refl _⟩
    | bl b => cases h
    | tup ds => cases h
    | lst ds => cases h
    | fls ds => cases h
    | dic => cases h
    | raw v => cases h
  | succ n ih =>
    intro d h
    cases d with
    | non => exact ⟨.none, rfl, rfl, by rw [PyData.depth]; exact Nat.zero_le _⟩
    | int i => exact ⟨.int i, rfl, rfl, by rw [PyData.depth]; exact Nat.zero_le _⟩
    | str s => exact ⟨.str s, rfl, h, by rw [PyData.depth]; exact Nat.zero_le _⟩
    | tup ds =>
      obtain ⟨ps, h1, h2⟩ := pyAll_ex (A := fun p => PyData.canLay0 p = true ∧ PyData.depth p ≤ n) fun x m => ih x (h x m)
      refine ⟨.tuple ps, by rw [pyOf, h1]; rfl, ?_, ?_⟩
      · rw [PyData.canLay0]
        exact lay_all fun x m => (h2 x m).1
      · rw [PyData.depth]
        have := depth_all fun x m => (h2 x m).2
        omega
    | lst ds =>
      obtain ⟨ps, h1, h2⟩ := pyAll_ex (A := fun p => PyData.canLay0 p = true ∧ PyData.depth p ≤ n) fun x m => ih x (h x m)
      refine ⟨.list ps, by rw [pyOf, h1]; rfl, ?_, ?_⟩
      · rw [PyData.canLay0]
        exact lay_all fun x m => (h2 x m).1
      · rw [PyData.depth]
        have := depth_all fun x m => (h2 x m).2
        omega
    | bl b => cases h
    | fls ds => cases h
    | dic => cases h
    | raw v => cases h
def prs (xs : List (Nat × D)) : List D := xs.map fun x => .tup [x.2, x.2]
def cost (xs : List (Nat × D)) : Nat := (xs.map fun x => sz x.1 x.2).sum
theorem cost_append (xs ys : List (Nat × D)) : cost (xs ++ ys) = cost xs + cost ys := by
  unfold cost
  rw [List.map_append, List.sum_append]
theorem cost_len : ∀ xs : List (Nat × D), xs.length ≤ cost xs
  | [] => Nat.le_refl _
  | x :: xs => by
    have h1 := cost_len xs
    have h2 := sz_pos x.1 x.2
    show xs.length + 1 ≤ (sz x.1 x.2 :: xs.map fun x => sz x.1 x.2).sum
    rw [List.sum_cons]
    unfold cost at h1
    omega
theorem cost_one (x : Nat × D) : cost [x] = sz x.1 x.2 := by
  unfold cost
  simp
theorem prs_len (xs : List (Nat × D)) : (prs xs).length = xs.length := by
  unfold prs
  rw [List.length_map]
theorem prs_py {xs : List (Nat × D)} (h : ∀ x ∈ xs, pl x.1 x.2 ∧ x.1 ≤ 20) : ∃ ps, pyAll (prs xs) = some ps ∧ ∀ p ∈ ps, PyData.canLay0 p = true ∧ PyData.depth p ≤ 21 := by
  refine pyAll_ex fun d m => ?_
  obtain ⟨x, mx, rfl⟩ := List.mem_map.mp m
  obtain ⟨h1, h2⟩ := h x mx
  obtain ⟨p, h3, h4, h5⟩ := pl_py _ _ h1
  refine ⟨.tuple [p, p], by rw [pyOf, pyAll, h3, pyAll, h3, pyAll]; rfl, ?_, ?_⟩
  · rw [PyData.canLay0]
    exact lay_all fun y m => by
      rcases List.mem_cons.mp m with rfl | m
      · exact h4
      · rcases List.mem_cons.mp m with rfl | m
        · exact h4
        · cases m
  · rw [PyData.depth]
    have := depth_all (b := 20) (xs := [p, p]) fun y m => by
      rcases List.mem_cons.mp m with rfl | m
      · omega
      · rcases List.mem_cons.mp m with rfl | m
        · omega
        · cases m
    omega
def pre_same : List D → Own → KD → Prop := fun ds M P => ∃ (d : D) (n : Nat), ds = [d, d] ∧ pl n d ∧ n ≤ 20 ∧ sz n d ≤ 50000 ∧ P (.bl true) M
def t_same (K : PySem.W.Frag) : TS := (tSeq (tAsg (tLst (tCons (tTup (tCons (tVar 0) (tCons (tVar 1) tNil))) tNil)) (gName 2))
  (tSeq (tFor (iRng1 (tCons (tOp (rI CPow fun i j => .int (i ^ j.toNat)) (tC (.int 10)) (tC (.int 7))) tNil)) (gName 3) (tSeq (tIfS (tTest (tOp (rEqD K) (tVar 2) (tLst tNil))) (tRet (tC (.bl true))) tNext)
  (tSeq (tAsg (tBM0 K "list" rPop (tVar 2)) (gTup K 2 (gCons (gName 4) (gCons (gName 5) gNil))))
  (tIfS (tTest (tOp (fun x y H Q => y = V.non ∧ Q (.bl (decide (x = V.non))) H) (tVar 5) (tC .non))) (tIfS (tTest (tOp (fun x y H Q => y = V.non ∧ Q (.bl (!decide (x = V.non))) H) (tVar 4) (tC .non))) (tRet (tC (.bl false))) tNext) (tIfS (tB (tCB (rIsi K) (tCons (tVar 5) (tCons (tC (.ty "bool")) tNil)))) (tIfS (tOr (tNot (tB (tCB (rIsi K) (tCons (tVar 4) (tCons (tC (.ty "bool")) tNil))))) (tTest (tOp rNe (tVar 4) (tVar 5)))) (tRet (tC (.bl false))) tNext) (tIfS (tB (tCB (rIsi K) (tCons (tVar 5) (tCons (tC (.ty "int")) tNil)))) (tIfS (tOr (tNot (tB (tCB (rIsi K) (tCons (tVar 4) (tCons (tC (.ty "int")) tNil))))) (tOr (tB (tCB (rIsi K) (tCons (tVar 4) (tCons (tC (.ty "bool")) tNil)))) (tTest (tOp rNe (tVar 4) (tVar 5))))) (tRet (tC (.bl false))) tNext) (tIfS (tB (tCB (rIsi K) (tCons (tVar 5) (tCons (tC (.ty "str")) tNil)))) (tIfS (tOr (tNot (tB (tCB (rIsi K) (tCons (tVar 4) (tCons (tC (.ty "str")) tNil))))) (tTest (tOp rNe (tVar 4) (tVar 5)))) (tRet (tC (.bl false))) tNext) (tIfS (tB (tCB (rIsi K) (tCons (tVar 5) (tCons (tC (.ty "dict")) tNil)))) tNever (tIfS (tOr (tAnd (tB (tCB (rIsi K) (tCons (tVar 5) (tCons (tC (.ty "tuple")) tNil)))) (tNot (tB (tCB (rIsi K) (tCons (tVar 4) (tCons (tC (.ty "tuple")) tNil)))))) (tAnd (tB (tCB (rIsi K) (tCons (tVar 5) (tCons (tC (.ty "list")) tNil)))) (tNot (tB (tCB (rIsi K) (tCons (tVar 4) (tCons (tC (.ty "list")) tNil))))))) (tRet (tC (.bl false))) (tIfS (tTest (tOp rNe (tCB (rLenP K) (tCons (tVar 4) tNil)) (tCB (rLenP K) (tCons (tVar 5) tNil)))) (tRet (tC (.bl false))) (tDrop (tBM K "list" rExtend (tVar 2) (tCons (tLc (iRng1 (tCons (tCB (rLenP K) (tCons (tVar 5) tNil)) tNil)) (gName 7) tYes (tTup (tCons (tOp (rIx K) (tVar 4) (tVar 7)) (tCons (tOp (rIx K) (tVar 5) (tVar 7)) tNil))) [7]) tNil)))))))))))))
  (tRet (tC (.bl false)))))
theorem len_same (h : pre_same ds M P) : ds.length = 2 := by
  obtain ⟨d, n, rfl, _⟩ := h
  rfl
theorem bs_same (h : pre_same ds M P) : BS K E (t_same K) (startE 8 ds) M { nx := fun _ M' => P .non M', rt := P } := by
  obtain ⟨d, n, rfl, hp, hn, hs, k⟩ := h
  unfold t_same
  walk_at "all"
  refine be_lst ?_
  walk_at "all"
  refine ⟨by show 2 ≤ sizeLine; decide, ?_⟩
  walk_at "all"
  refine ⟨by show 1 ≤ sizeLine; decide, fun c hc => ?_⟩
  walk_at "all"
  refine bs_forR1 ?_
  walk_at "all"
  refine br_intC ⟨by decide, by decide, by decide⟩ ?_
  walk_at "all"
  have e7 : ((10 : Int) ^ Int.toNat 7).toNat = 10000000 := by decide
  refine ⟨_, rfl, by decide, by decide, ?_⟩
  rw [e7]
  refine ⟨fun i ρ' M' => ∃ (xs : List (Nat × D)) (o1 o2 o3 o4 : Option D), (∀ x ∈ xs, pl x.1 x.2 ∧ x.1 ≤ 20) ∧ cost xs + i ≤ 50000 ∧ ρ' = [some d, some d, some (.raw (.ref c)), o1, o2, o3, none, o4] ∧ M' = (c, .lst (prs xs)) :: M,
    ⟨[(n, d)], none, none, none, none, fun x m => by rw [List.mem_singleton] at m; subst m; exact ⟨hp, hn⟩, by rw [cost_one]; show sz n d + 0 ≤ 50000; omega, rfl, rfl⟩, ?_, ?_⟩
  · rintro i ρ' M' hi ⟨xs, o1, o2, o3, o4, hx, hcost, rfl, rfl⟩
    obtain ⟨ps, py1, py2⟩ := prs_py hx
    walk_at "all"
    refine be_lstF ?_
    walk_at "all"
    refine ⟨by decide, ?_⟩
    refine br_eqD (PyIs.own (n := 0) rfl py1) (PyIs.of (p := .list []) rfl) (shaped_all (fun p m => (py2 p m).1) (fun p m => (py2 p m).2) (by decide)) rfl ?_
    walk_at "all"
    rcases List.eq_nil_or_concat xs with rfl | ⟨ys, x, rfl⟩
    · have : ps = [] := by
        have e : pyAll [] = some ps := py1
        rw [pyAll] at e
        exact (Option.some.inj e).symm
      subst this
      show if true = true then _ else _
      refine ifT ?_
      refine bs_ret (be_sub (be_bl ⟨M, List.sublist_cons_self _ _, k⟩))
    · rw [List.concat_eq_append] at *
      have hne : PyData.eqv (.list ps) (.list []) = false := by
        cases ps with
        | cons => rw [PyData.eqv, PyData.eqvAll]
        | nil =>
          exfalso
          unfold prs at py1
          rw [List.map_append] at py1
          generalize ys.map _ = l at py1
          cases l with
          | nil =>
            obtain ⟨_, _, _, _, z⟩ := pyAll_cons py1
            cases z
          | cons =>
            obtain ⟨_, _, _, _, z⟩ := pyAll_cons py1
            cases z
      rw [hne]
      walk_at "all"
      refine be_bm0 ?_
      walk_at "all"
      refine ⟨ty_list (.of (.own (n := 0) rfl)), ?_⟩
      have ep : prs (ys ++ [x]) = prs ys ++ [.tup [x.2, x.2]] := by
        unfold prs
        rw [List.map_append]
        rfl
      rw [ep]
      refine bm_pop (n := 0) (d := .tup [x.2, x.2]) rfl ?_ ?_
      · rw [List.length_append, List.length_singleton, Nat.add_sub_cancel, List.getElem?_append_right (Nat.le_refl _), Nat.sub_self]
        rfl
      rw [List.dropLast_concat]
      refine bg_tup rfl (bgs_cons (bg_name (bgs_cons (bg_name (bgs_nil ?_)))))
      obtain ⟨hpx, hnx⟩ := hx x (List.mem_append_right _ List.mem_cons_self)
      have hys : ∀ y ∈ ys, pl y.1 y.2 ∧ y.1 ≤ 20 := fun y m => hx y (List.mem_append_left _ m)
      rw [cost_append] at hcost
      have hsz := sz_pos x.1 x.2
      rw [cost_one] at hcost
      obtain ⟨m, dx⟩ := x
      have hcl := cost_len ys
      -- the same thing for tuples and lists
      have many : ∀ es : List D, (∀ e ∈ es, pl (m - 1) e) → m ≠ 0 → cost ys + (1 + (es.map (sz (m - 1))).sum) + i ≤ 50000 → dx = .tup es ∨ dx = .lst es →
          BS K E (tDrop (tBM K "list" rExtend (tVar 2) (tCons (tLc (iRng1 (tCons (tCB (rLenP K) (tCons (tVar 5) tNil)) tNil)) (gName 7) tYes (tTup (tCons (tOp (rIx K) (tVar 4) (tVar 7)) (tCons (tOp (rIx K) (tVar 5) (tVar 7)) tNil))) [7]) tNil)))
            [some d, some d, some (.raw (.ref c)), some (.int (0 + (i : Int))), some dx, some dx, none, o4] ((c, .lst (prs ys)) :: M)
            { nx := fun ρ' M' => ∃ (xs : List (Nat × D)) (o1 o2 o3 o4 : Option D), (∀ x ∈ xs, pl x.1 x.2 ∧ x.1 ≤ 20) ∧ cost xs + (i + 1) ≤ 50000 ∧ ρ' = [some d, some d, some (.raw (.ref c)), o1, o2, o3, none, o4] ∧ M' = (c, .lst (prs xs)) :: M, rt := P } := fun es he hm hco hdx => by
        have hel : es.length ≤ (es.map (sz (m - 1))).sum := by
          have := cost_len (es.map fun e => (m - 1, e))
          unfold cost at this
          rw [List.length_map, List.map_map] at this
          exact this
        have hlen : ∀ (M' : Own) (P' : KD), P' (.int es.length) M' → BC K (rLenP K) [dx] M' P' := fun M' P' q => by
          rcases hdx with rfl | rfl
          · exact bc_lenT q
          · exact bc_lenL (.of .lst) q
        have hix : ∀ (M' : Own) (P' : KD) (j : Nat) (e : D), es[j]? = some e → P' e M' → BR K (rIx K) dx (.int (0 + (j : Int))) M' P' := fun M' P' j e hj q => by
          rw [Int.zero_add]
          rcases hdx with rfl | rfl
          · exact br_ixT (atI_nn hj) q
          · exact br_ixL (.of .lst) (atI_nn hj) q
        refine bs_sub_nx ?_
        walk_at "all"
        refine be_bm ?_
        walk_at "all"
        refine ⟨ty_list (.of (.own (n := 0) rfl)), ?_⟩
        walk_at "all"
        refine be_lcR1 ?_
        walk_at "all"
        refine hlen _ _ ?_
        walk_at "all"
        refine ⟨_, rfl, by omega, by omega, ?_⟩
        rw [Int.toNat_natCast]
        refine lcR_map (fun j => .tup [(es[j]?).getD .non, (es[j]?).getD .non]) (line_of (by omega)) (fun j Dl acc hj => ?_) fun p2 hp2 => ?_
        · have g := List.getElem?_eq_getElem hj
          refine ⟨_, ct_name (by decide), ?_⟩
          walk_at "all"
          refine hix _ _ j _ g ?_
          walk_at "all"
          refine hix _ _ j _ g ?_
          walk_at "all"
          refine ⟨by show 2 ≤ sizeLine; decide, ?_, rfl⟩
          rw [g]
          rfl
        · walk_at "all"
          have e1 : (List.range es.length).map (fun j => D.tup [(es[j]?).getD .non, (es[j]?).getD .non]) = prs (es.map fun e => (m - 1, e)) := by
            have := range_map_get (xs := prs (es.map fun e => (m - 1, e))) (F := fun j => D.tup [(es[j]?).getD .non, (es[j]?).getD .non]) fun j x hx => by
              unfold prs at hx
              rw [List.map_map, List.getElem?_map] at hx
              cases e : es[j]? with
              | none => rw [e] at hx; cases hx
              | some y => rw [e] at hx; exact Option.some.inj hx
            rw [prs_len, List.length_map] at this
            exact this
          rw [e1]
          refine bm_extend (n := 1) rfl (.own (n := 0) rfl) (by rw [prs_len, prs_len, List.length_map]; exact line_of (by omega)) ?_
          refine ⟨_, List.sublist_cons_self _ _, ys ++ es.map (fun e => (m - 1, e)), _, _, _, _, fun x mx => ?_, ?_, rfl, ?_⟩
          · rcases List.mem_append.mp mx with q | q
            · exact hys x q
            · obtain ⟨e, he', rfl⟩ := List.mem_map.mp q
              exact ⟨he e he', by show m - 1 ≤ 20; have : m ≤ 20 := hnx; omega⟩
          · rw [cost_append]
            have : cost (es.map fun e => (m - 1, e)) = (es.map (sz (m - 1))).sum := by
              unfold cost
              rw [List.map_map]
              rfl
            rw [this]
            omega
          · unfold prs
            rw [List.map_append]
            rfl
      have plain : cost ys + (i + 1) ≤ 50000 := by omega
      cases dx with
      | non =>
        walk_at "all"
        show if true = true then _ else _
        refine ifT ?_
        walk_at "all"
        show if false = true then _ else _
        refine ifF ?_
        exact bs_next ⟨ys, _, _, _, _, hys, plain, rfl, rfl⟩
      | int j =>
        walk_at "all"
        show if false = true then _ else _
        refine ifF ?_
        walk_at "all"
        refine bc_isi (.int j) (b := false) (by rfl) ?_
        walk_at "all"
        refine bc_isi (.int j) (b := true) (by rfl) ?_
        walk_at "all"
        refine bc_isi (.int j) (b := true) (by rfl) ?_
        walk_at "all"
        refine bc_isi (.int j) (b := false) (by rfl) ?_
        walk_at "all"
        refine ifND rfl ?_
        exact bs_next ⟨ys, _, _, _, _, hys, plain, rfl, rfl⟩
      | str j =>
        walk_at "all"
        show if false = true then _ else _
        refine ifF ?_
        walk_at "all"
        refine bc_isi (.str j) (b := false) (by rfl) ?_
        walk_at "all"
        refine bc_isi (.str j) (b := false) (by rfl) ?_
        walk_at "all"
        refine bc_isi (.str j) (b := true) (by rfl) ?_
        walk_at "all"
        refine bc_isi (.str j) (b := true) (by rfl) ?_
        walk_at "all"
        refine ifND rfl ?_
        exact bs_next ⟨ys, _, _, _, _, hys, plain, rfl, rfl⟩
      | tup es =>
        walk_at "all"
        show if false = true then _ else _
        refine ifF ?_
        walk_at "all"
        refine bc_isi (.tup _) (b := false) (by rfl) ?_
        walk_at "all"
        refine bc_isi (.tup _) (b := false) (by rfl) ?_
        walk_at "all"
        refine bc_isi (.tup _) (b := false) (by rfl) ?_
        walk_at "all"
        refine bc_isi (.tup _) (b := false) (by rfl) ?_
        walk_at "all"
        refine bc_isi (.tup _) (b := true) (by rfl) ?_
        walk_at "all"
        refine bc_isi (.tup _) (b := true) (by rfl) ?_
        walk_at "all"
        refine bc_isi (.tup _) (b := false) (by rfl) ?_
        walk_at "all"
        refine ifND rfl ?_
        cases m with
        | zero => cases hpx
        | succ m => exact bs_imp (many es hpx (Nat.succ_ne_zero m) (by have : sz (m + 1) (.tup es) = 1 + (es.map (sz m)).sum := rfl; rw [this] at hcost; exact hcost) (.inl rfl)) (fun _ _ h => h) (fun _ _ h => h) (fun _ _ h => h.elim) (fun _ _ h => h.elim) (fun _ _ h => h.elim)
      | lst es =>
        walk_at "all"
        show if false = true then _ else _
        refine ifF ?_
        walk_at "all"
        refine bc_isi (.lst .lst) (b := false) (by rfl) ?_
        walk_at "all"
        refine bc_isi (.lst .lst) (b := false) (by rfl) ?_
        walk_at "all"
        refine bc_isi (.lst .lst) (b := false) (by rfl) ?_
        walk_at "all"
        refine bc_isi (.lst .lst) (b := false) (by rfl) ?_
        walk_at "all"
        refine bc_isi (.lst .lst) (b := false) (by rfl) ?_
        walk_at "all"
        refine bc_isi (.lst .lst) (b := true) (by rfl) ?_
        walk_at "all"
        refine bc_isi (.lst .lst) (b := true) (by rfl) ?_
        walk_at "all"
        refine bc_lenL (.of .lst) ?_
        walk_at "all"
        refine bc_lenL (.of .lst) ?_
        walk_at "all"
        refine ifND rfl ?_
        cases m with
        | zero => cases hpx
        | succ m => exact bs_imp (many es hpx (Nat.succ_ne_zero m) (by have : sz (m + 1) (.lst es) = 1 + (es.map (sz m)).sum := rfl; rw [this] at hcost; exact hcost) (.inr rfl)) (fun _ _ h => h) (fun _ _ h => h) (fun _ _ h => h.elim) (fun _ _ h => h.elim) (fun _ _ h => h.elim)
      | bl b => cases m <;> cases hpx
      | fls es => cases m <;> cases hpx
      | dic => cases m <;> cases hpx
      | raw v => cases m <;> cases hpx
  · rintro ρ' M' ⟨xs, o1, o2, o3, o4, hx, hcost, rfl, rfl⟩
    omega
end
end K62

namespace K62
open PySem PySem.Spec PyProof.Rows L2 Evl Pv
local macro_rules | `(tactic| walk_at "bx") => `(tactic| first
  | (with_reducible refine be_var (by with_unfolding_all exact rfl) ?_)
  | with_reducible refine be_int ?_
  | with_reducible refine be_str ?_
  | with_reducible refine ba_cons ?_
  | with_reducible refine ba_nil ?_
  | with_reducible refine be_cb ?_
  | with_reducible refine be_call ?_
  | with_reducible refine be_op ?_
  | with_reducible refine br_plusI ?_
  | with_reducible refine br_int ?_
  | with_reducible refine br_bl ?_
  | with_reducible refine br_eqI ?_
  | with_reducible refine br_neI ?_
  | with_reducible refine br_eqS ?_
  | with_reducible refine br_neS ?_
  | with_reducible refine br_eqB ?_
  | with_reducible refine br_neB ?_
  | with_reducible refine br_isN ?_
  | with_reducible refine br_notN ?_
  | with_reducible refine bc_int ?_
  | with_reducible refine bc_intB ?_
  | with_reducible refine bc_lenT ?_
  | with_reducible refine be_bl ?_
  | with_reducible refine be_non ?_
  | with_reducible refine be_ty ?_
  | with_reducible refine be_un ?_
  | with_reducible refine bu_int ?_
  | with_reducible refine be_ref ?_
  | with_reducible refine bt_test ?_
  | with_reducible refine bt_B ?_
  | with_reducible refine bt_not ?_
  | with_reducible refine bt_and ?_
  | with_reducible refine bt_or ?_
  | with_reducible refine ex_bl ?_
  | with_reducible refine ex_int ?_
  | with_reducible refine be_andV ?_
  | with_reducible refine be_orV ?_
  | with_reducible refine be_notV ?_
  | with_reducible refine be_if ?_
  | with_reducible refine be_chain ?_
  | with_reducible refine be_sl ?_
  | with_reducible refine bo_none ?_
  | with_reducible refine bo_some ?_
  | with_reducible refine be_tup ?_
  | with_reducible refine bt_tru ?_)
local macro_rules | `(tactic| walk_at "bs") => `(tactic| first
  | with_reducible refine bs_seq ?_
  | with_reducible refine bs_asg ?_
  | with_reducible refine bs_drop ?_
  | with_reducible refine bs_ret ?_
  | with_reducible refine bs_if ?_
  | with_reducible refine bs_next ?_
  | with_reducible refine bs_brk ?_
  | with_reducible refine bs_cont ?_
  | with_reducible refine bg_name ?_
  | with_reducible refine bs_retN ?_)
local macro_rules | `(tactic| walk_at "go") => `(tactic| repeat (first | walk_at "bx" | walk_at "bs"))
local macro_rules | `(tactic| walk_at "sub") => `(tactic| first | exact List.Sublist.refl _ | (refine List.Sublist.cons₂ _ ?_; walk_at "sub") | (refine List.Sublist.cons _ ?_; walk_at "sub"))
local macro_rules | `(tactic| walk_at "it") => `(tactic| first
  | with_reducible refine ifT ?_
  | with_reducible refine ifF ?_
  | with_reducible refine ifNT ?_
  | with_reducible refine ifNF ?_
  | with_reducible refine ifNF ?_)
local macro_rules | `(tactic| walk_at "all") => `(tactic| repeat (first | walk_at "bx" | walk_at "bs" | walk_at "it"))

section
variable {K : PySem.W.Frag} {E : XK} {ds : List D} {M : Own} {P : KD} {C : Cs}
/-! ### _law_opened -/
def nt (ns : List Nd) (a : Nat) : Bool := !decide ((kdOf ns a).str = ("text" : Str))
def opn (ns : List Nd) (k : Nat) : List Nat := if k = 0 then [] else (path ns (k - 1)).reverse.filter (nt ns)
theorem path_up {ns : List Nd} (g : GoodN ns) {a : Nat} {x : Nd} (h : ns[a]? = some x) : (x.par = none ∧ path ns a = [a]) ∨ ∃ p, x.par = some p ∧ p < ns.length ∧ path ns a = path ns p ++ [a] := by
  have hp : parOf ns a = x.par := by
    unfold parOf
    rw [h]
    rfl
  cases e : x.par with
  | none =>
    rw [e] at hp
    exact .inl ⟨rfl, path_none hp⟩
  | some p =>
    rw [e] at hp
    obtain ⟨h1, y, h2, _⟩ := g.par hp
    exact .inr ⟨p, rfl, (List.getElem?_eq_some_iff.mp h2).1, path_some hp h1⟩
def pre_opened : List D → Own → KD → Prop := fun ds M P => ∃ (ns : List Nd) (k : Nat), ds = [.lst (ns.map Nd.enc), .int k] ∧ GoodN ns ∧ ns.length ≤ 1000 ∧ k ≤ ns.length ∧ ∀ p, p ∉ keysO M → P (.raw (.ref p)) ((p, .lst (natsD (opn ns k))) :: M)
def t_opened (K : PySem.W.Frag) : TS := (tSeq (tPar 2 3 (tCons (tLst tNil) (tCons (tOp (rI0 fun i j => .int (i - j)) (tVar 1) (tC (.int 1))) tNil)))
  (tSeq (tFor (iRng1 (tCons (tVar 1) tNil)) (gName 4) (tSeq (tIfS (tTest (tOp (fun x y H Q => y = V.non ∧ Q (.bl (decide (x = V.non))) H) (tVar 3) (tC .non))) tBreak tNext)
  (tSeq (tIfS (tTest (tOp rNe (tOp (rIx K) (tOp (rIx K) (tVar 0) (tVar 3)) (tC (.int 1))) (tC (.str ("text" : Str))))) (tDrop (tBM K "list" rAppend (tVar 2) (tCons (tVar 3) tNil))) tNext)
  (tAsg (tOp (rIx K) (tOp (rIx K) (tVar 0) (tVar 3)) (tC (.int 0))) (gName 3)))))
  (tRet (tVar 2))))
theorem len_opened (h : pre_opened ds M P) : ds.length = 2 := by
  obtain ⟨ns, k, rfl, _⟩ := h
  rfl
theorem natsD_append (a b : List Nat) : natsD (a ++ b) = natsD a ++ natsD b := by
  unfold natsD
  rw [List.map_append]
theorem bs_opened (h : pre_opened ds M P) : BS K E (t_opened K) (startE 5 ds) M { nx := fun _ M' => P .non M', rt := P } := by
  obtain ⟨ns, n, rfl, g, hl, hn, k⟩ := h
  unfold t_opened
  walk_at "all"
  refine bs_par ?_
  walk_at "all"
  refine be_lst ?_
  walk_at "all"
  refine ⟨by decide, fun c hc => ?_⟩
  walk_at "all"
  refine ⟨_, _, rfl, ?_⟩
  walk_at "all"
  refine bs_forR1 ?_
  walk_at "all"
  refine ⟨_, rfl, by omega, by omega, ?_⟩
  rw [Int.toNat_natCast]
  refine ⟨fun i ρ' M' => ∃ (os : List Nat) (at' : D) (o : Option D), ρ' = [some (.lst (ns.map Nd.enc)), some (.int n), some (.raw (.ref c)), some at', o] ∧ M' = (c, .lst (natsD os)) :: M ∧
    ((n = 0 ∧ os = []) ∨ (0 < n ∧ at' = .non ∧ os = opn ns n) ∨ (0 < n ∧ ∃ a suf, path ns (n - 1) = path ns a ++ suf ∧ suf.length = i ∧ a < ns.length ∧ at' = .int (a : Nat) ∧ os = suf.reverse.filter (nt ns))), ⟨[], _, none, rfl, rfl, ?_⟩, ?_, ?_⟩
  · rcases Nat.eq_zero_or_pos n with h0 | h0
    · exact .inl ⟨h0, rfl⟩
    · refine .inr (.inr ⟨h0, n - 1, [], by rw [List.append_nil], rfl, by omega, ?_, rfl⟩)
      have : (n : Int) - 1 = ((n - 1 : Nat) : Int) := by omega
      rw [this]
  · rintro i ρ' M' hi ⟨os, at', o, rfl, rfl, h⟩
    rcases h with ⟨h0, _⟩ | ⟨h0, rfl, ho⟩ | ⟨h0, a, suf, hp, hs, ha, rfl, ho⟩
    · omega
    · walk_at "all"
      show if true = true then _ else _
      refine ifT ?_
      walk_at "all"
      subst ho
      exact k c hc
    · have hx := List.getElem?_eq_getElem ha
      generalize ns[a] = x at hx
      have hk := kdOf_at hx
      have hplen : (path ns (n - 1)).length ≤ n := by
        have := path_len (ns := ns) (i := n - 1)
        omega
      have hosl : os.length ≤ n := by
        rw [ho]
        refine Nat.le_trans (List.length_filter_le _ _) ?_
        rw [List.length_reverse]
        omega
      walk_at "all"
      show if false = true then _ else _
      refine ifF ?_
      walk_at "all"
      refine br_ixL (.of .lst) (atI_nn (enc_get hx)) ?_
      walk_at "all"
      refine br_ixT (atI_nn (n := 1) rfl) ?_
      walk_at "all"
      -- the next, when what is found is known
      have next : ∀ os2 : List Nat, os2 = (a :: suf).reverse.filter (nt ns) → BS K E (tAsg (tOp (rIx K) (tOp (rIx K) (tVar 0) (tVar 3)) (tC (.int 0))) (gName 3)) [some (.lst (ns.map Nd.enc)), some (.int n), some (.raw (.ref c)), some (.int a), some (.int (0 + (i : Int)))] ((c, .lst (natsD os2)) :: M)
          { nx := fun ρ' M' => ∃ (os : List Nat) (at' : D) (o : Option D), ρ' = [some (.lst (ns.map Nd.enc)), some (.int n), some (.raw (.ref c)), some at', o] ∧ M' = (c, .lst (natsD os)) :: M ∧
    ((n = 0 ∧ os = []) ∨ (0 < n ∧ at' = .non ∧ os = opn ns n) ∨ (0 < n ∧ ∃ a suf, path ns (n - 1) = path ns a ++ suf ∧ suf.length = i + 1 ∧ a < ns.length ∧ at' = .int (a : Nat) ∧ os = suf.reverse.filter (nt ns))), rt := P } := fun os2 ho2 => by
        walk_at "all"
        refine br_ixL (.of .lst) (atI_nn (enc_get hx)) ?_
        walk_at "all"
        refine br_ixT (atI_nn (n := 0) rfl) ?_
        walk_at "all"
        refine ⟨os2, _, _, rfl, rfl, ?_⟩
        rcases path_up g hx with ⟨e1, e2⟩ | ⟨p, e1, e2, e3⟩
        · rw [e1]
          refine .inr (.inl ⟨h0, rfl, ?_⟩)
          rw [ho2]
          unfold opn
          rw [if_neg (by omega), hp, e2]
          rfl
        · rw [e1]
          refine .inr (.inr ⟨h0, p, a :: suf, ?_, by rw [List.length_cons, hs], e2, rfl, ho2⟩)
          rw [hp, e3, List.append_assoc]
          rfl
      refine ifNP (fun q => ?_) (fun q => ?_)
      · walk_at "all"
        refine be_bm ?_
        walk_at "all"
        refine ⟨ty_list (.of (.own (n := 0) rfl)), ?_⟩
        walk_at "all"
        refine bm_append (n := 0) rfl (by rw [natsD_len]; exact line_lt (by omega)) ?_
        have e4 : natsD os ++ [.int (a : Nat)] = natsD (os ++ [a]) := by
          rw [natsD_append]
          rfl
        rw [e4]
        refine bs_imp (next (os ++ [a]) ?_) (fun _ _ h => h) (fun _ _ h => h) (fun _ _ h => h.elim) (fun _ _ h => h.elim) (fun _ _ h => h.elim)
        rw [List.reverse_cons, List.filter_append, ← ho]
        congr 1
        have : nt ns a = true := by
          unfold nt
          rw [hk, decide_eq_false q]
          rfl
        rw [List.filter_cons_of_pos this]
        rfl
      · refine bs_next ?_
        refine bs_imp (next os ?_) (fun _ _ h => h) (fun _ _ h => h) (fun _ _ h => h.elim) (fun _ _ h => h.elim) (fun _ _ h => h.elim)
        rw [List.reverse_cons, List.filter_append, ← ho]
        have : ¬ nt ns a = true := by
          unfold nt
          rw [hk, decide_eq_true q]
          exact Bool.false_ne_true
        rw [List.filter_cons_of_neg this]
        exact (List.append_nil _).symm
  · rintro ρ' M' ⟨os, at', o, rfl, rfl, h⟩
    have fin : os = opn ns n → BS K E (tRet (tVar 2)) [some (.lst (ns.map Nd.enc)), some (.int n), some (.raw (.ref c)), some at', o] ((c, .lst (natsD os)) :: M) { nx := fun x M' => P .non M', rt := P } := fun e => by
      subst e
      walk_at "all"
      exact k c hc
    rcases h with ⟨h0, ho⟩ | ⟨h0, _, ho⟩ | ⟨h0, a, suf, hp, hs, ha, _, ho⟩
    · exact fin (by rw [ho]; unfold opn; rw [if_pos h0])
    · exact fin ho
    · exfalso
      have h1 := path_len (ns := ns) (i := n - 1)
      obtain ⟨l, e⟩ := path_last ns a
      rw [hp, e] at h1
      rw [List.length_append, List.length_append, List.length_singleton] at h1
      omega
/-! ### _law_is_refused -/
def pre_is_refused : List D → Own → KD → Prop := fun ds M P => ∃ d : D, ds = [d] ∧ BadIn d ∧ P (.bl true) M
def t_is_refused (K : PySem.W.Frag) (C : Cs) : TS := (tSeq (fun De σ H => (fun W => (tDrop (tCallS (spX K (pre_painting_order C)) (WE W) (tCons (tVar 0) tNil)))) ((wTup K [.ref C.c_BadCell, .ref C.c_BadKey, .ref C.c_BadMarks, .ref C.c_BadParts, .ref C.c_BadState, .ref C.c_BadText, .ref C.c_BadValue] (fun _ _ _ => (tRet (tC (.bl false)))) (wOne K (.ref C.c_BadList) (fun _ _ _ => (tRet (tC (.bl true)))) (fun _ => (fun _ _ _ _ => False)))) De) De σ H)
  (tRet (tC (.bl false))))
theorem len_is_refused (h : pre_is_refused ds M P) : ds.length = 1 := by
  obtain ⟨d, rfl, _⟩ := h
  rfl
theorem bs_is_refused (hC : CsOk K C) (h : pre_is_refused ds M P) : BS K E (t_is_refused K C) (startE 1 ds) M { nx := fun _ M' => P .non M', rt := P } := by
  obtain ⟨d, rfl, hb, k⟩ := h
  unfold t_is_refused
  refine bs_seq ?_
  refine bs_try_drop (w := (wTup K [.ref C.c_BadCell, .ref C.c_BadKey, .ref C.c_BadMarks, .ref C.c_BadParts, .ref C.c_BadState, .ref C.c_BadText, .ref C.c_BadValue] (fun _ _ _ => (tRet (tC (.bl false)))) (wOne K (.ref C.c_BadList) (fun _ _ _ => (tRet (tC (.bl true)))) (fun _ => (fun _ _ _ _ => False))))) ?_
  walk_at "all"
  refine ⟨d, rfl, .inr ⟨hb, fun M' hs => ?_⟩⟩
  refine bw_tup (b := false) ?_ (fun h => nomatch h) fun _ => ?_
  · simp only [PySem.W.exmAny, hC.m_BadList_BadCell, hC.m_BadList_BadKey, hC.m_BadList_BadMarks, hC.m_BadList_BadParts, hC.m_BadList_BadState, hC.m_BadList_BadText, hC.m_BadList_BadValue, Bool.or_false]
  · exact bw_one (b := true) hC.m_BadList_BadList (fun _ a => bs_ret (be_sub (be_bl ⟨M, hs, k⟩))) (fun h => nomatch h)
end
end K62

namespace K62
open PySem PySem.Spec PyProof.Rows L2 Evl Pv
local macro_rules | `(tactic| walk_at "bx") => `(tactic| first
  | (with_reducible refine be_var (by with_unfolding_all exact rfl) ?_)
  | with_reducible refine be_int ?_
  | with_reducible refine be_str ?_
  | with_reducible refine ba_cons ?_
  | with_reducible refine ba_nil ?_
  | with_reducible refine be_cb ?_
  | with_reducible refine be_call ?_
  | with_reducible refine be_op ?_
  | with_reducible refine br_plusI ?_
  | with_reducible refine br_int ?_
  | with_reducible refine br_bl ?_
  | with_reducible refine br_eqI ?_
  | with_reducible refine br_neI ?_
  | with_reducible refine br_eqS ?_
  | with_reducible refine br_neS ?_
  | with_reducible refine br_eqB ?_
  | with_reducible refine br_neB ?_
  | with_reducible refine br_isN ?_
  | with_reducible refine br_notN ?_
  | with_reducible refine bc_int ?_
  | with_reducible refine bc_intB ?_
  | with_reducible refine bc_lenT ?_
  | with_reducible refine be_bl ?_
  | with_reducible refine be_non ?_
  | with_reducible refine be_ty ?_
  | with_reducible refine be_un ?_
  | with_reducible refine bu_int ?_
  | with_reducible refine be_ref ?_
  | with_reducible refine bt_test ?_
  | with_reducible refine bt_B ?_
  | with_reducible refine bt_not ?_
  | with_reducible refine bt_and ?_
  | with_reducible refine bt_or ?_
  | with_reducible refine ex_bl ?_
  | with_reducible refine ex_int ?_
  | with_reducible refine be_andV ?_
  | with_reducible refine be_orV ?_
  | with_reducible refine be_notV ?_
  | with_reducible refine be_if ?_
  | with_reducible refine be_chain ?_
  | with_reducible refine be_sl ?_
  | with_reducible refine bo_none ?_
  | with_reducible refine bo_some ?_
  | with_reducible refine be_tup ?_
  | with_reducible refine bt_tru ?_)
local macro_rules | `(tactic| walk_at "bs") => `(tactic| first
  | with_reducible refine bs_seq ?_
  | with_reducible refine bs_asg ?_
  | with_reducible refine bs_drop ?_
  | with_reducible refine bs_ret ?_
  | with_reducible refine bs_if ?_
  | with_reducible refine bs_next ?_
  | with_reducible refine bs_brk ?_
  | with_reducible refine bs_cont ?_
  | with_reducible refine bg_name ?_
  | with_reducible refine bs_retN ?_)
local macro_rules | `(tactic| walk_at "go") => `(tactic| repeat (first | walk_at "bx" | walk_at "bs"))
local macro_rules | `(tactic| walk_at "sub") => `(tactic| first | exact List.Sublist.refl _ | (refine List.Sublist.cons₂ _ ?_; walk_at "sub") | (refine List.Sublist.cons _ ?_; walk_at "sub"))
local macro_rules | `(tactic| walk_at "it") => `(tactic| first
  | with_reducible refine ifT ?_
  | with_reducible refine ifF ?_
  | with_reducible refine ifNT ?_
  | with_reducible refine ifNF ?_
  | with_reducible refine ifNF ?_)
local macro_rules | `(tactic| walk_at "len") => `(tactic| with_reducible refine And.intro (show List.length _ ≤ sizeLine from Nat.le_of_ble_eq_true (by with_unfolding_all rfl)) ?_)
local macro_rules | `(tactic| walk_at "all") => `(tactic| repeat (first | walk_at "bx" | walk_at "bs" | walk_at "it"))
local macro_rules | `(tactic| walk_at "fro") => `(tactic| repeat (first | walk_at "bx" | walk_at "it" | walk_at "len" | with_reducible refine be_lstF ?_ | with_reducible refine be_dnewF ?_ | with_reducible refine br_plusS (by decide) ?_))

section
variable {K : PySem.W.Frag} {E : XK} {ds : List D} {M : Own} {P : KD} {C : Cs} {ρ : Pv.Env}
theorem be_fz {te : TE} (h : BE K te ρ M fun d M1 => ∃ (a : Addr) (ds : List D) (k : Nat) (M2 : Own), d = .raw (.ref a) ∧ M1[k]? = some (a, .lst ds) ∧ M2.Sublist (M1.eraseIdx k) ∧ P (.lst ds) M2) : BE K te ρ M P :=
  be_sub (be_freeze (h.imp fun d M1 ⟨a, ds, k, M2, e, hk, hs, p⟩ => ⟨k, a, ds, e, hk, M2, hs, p⟩))
/-! ### bad nodes -/
def Bd (ns : List Nd) (k : Nat) (d : D) : Prop := ∀ xs : List D, (∀ (i : Nat) (x : Nd), i < k → ns[i]? = some x → xs[i]? = some x.enc) → BadAt xs (ns.take k) d
theorem take_len {ns : List Nd} {k : Nat} (hk : k < ns.length) : (ns.take k).length = k := by
  rw [List.length_take, Nat.min_eq_left (by omega)]
theorem Bd.no {ns : List Nd} {k : Nat} {d : D} (hk : k < ns.length) (h : ∀ xs, NodeIs [] xs d k false) : Bd ns k d := fun xs _ => .inl (by rw [take_len hk]; exact h xs)
theorem encP_ty (p : Option Nat) : ∃ T, TyD [] (encP p) T ∧ kitB T "str" = some false ∧ kitB T "tuple" = some false := by
  cases p with
  | none => exact ⟨_, .non, rfl, rfl⟩
  | some n => exact ⟨_, .int _, rfl, rfl⟩
theorem num_no {j lo hi : Int} (h : ¬ (lo ≤ j ∧ j ≤ hi)) : NumIs [] (.int j) lo hi false := by
  have := NumIs.int (M := []) j lo hi
  rw [decide_eq_false h] at this
  exact this
/-- what is no number of an earlier node -/
theorem bd_par {ns : List Nd} {k : Nat} {p : D} {kd : Kd} {z : Int} (hk : k < ns.length) (h1 : k = 0 → isNon p = false) (h2 : 0 < k → NumIs [] p 0 (k - 1) false) : Bd ns k (.tup [p, .str kd.str, .int z]) := .no hk fun xs => by
  rcases Nat.eq_zero_or_pos k with h0 | h0
  · subst h0
    have := NodeIs.root (M := []) (xs := xs) (p := p) (s := kd.str) (z := z) (kd_in _)
    rw [h1 rfl] at this
    exact this
  · exact .nopar (kd_in _) h0 (h2 h0)
theorem bd_kind {ns : List Nd} {k : Nat} {p d z : D} {T : String} (hk : k < ns.length) (t : TyD [] d T) (h : kitB T "str" = some false) : Bd ns k (.tup [p, d, z]) := .no hk fun xs => .nostr t h
theorem bd_word {ns : List Nd} {k : Nat} {p z : D} {s : Str} (hk : k < ns.length) (h : inV (.str s) kinds = false) : Bd ns k (.tup [p, .str s, z]) := .no hk fun xs => .nokind h
theorem bd_z {ns : List Nd} {k : Nat} {p z : D} {kd : Kd} (hk : k < ns.length) (h : WholeIs [] z false) : Bd ns k (.tup [p, .str kd.str, z]) := .no hk fun xs => .noz (kd_in _) h
theorem kd_s (kd : Kd) : inV (.str (kd.str ++ ("s" : Str))) kinds = false := by
  cases kd <;> decide
theorem kd_s_len (kd : Kd) : kd.str.length + ("s" : Str).length ≤ sizeLine := by
  cases kd <;> decide
theorem path_take_ns {ns : List Nd} {k i : Nat} (hi : i < k) (hk : k < ns.length) : path (ns.take k) i = path ns i := by
  have h : i < (ns.take k).length := by rw [take_len hk]; exact hi
  have := path_append (ns := ns.take k) (ms := ns.drop k) h
  rw [List.take_append_drop] at this
  exact this.symm
theorem GoodN.take {ns : List Nd} (g : GoodN ns) {k : Nat} (hk : k < ns.length) : GoodN (ns.take k) where
  zero := fun x e => by
    have h0 : 0 < (ns.take k).length := (List.getElem?_eq_some_iff.mp e).1
    rw [take_len hk] at h0
    rw [List.getElem?_take_of_lt h0] at e
    exact g.zero x e
  succ := fun i x e => by
    have h0 : i + 1 < (ns.take k).length := (List.getElem?_eq_some_iff.mp e).1
    rw [take_len hk] at h0
    rw [List.getElem?_take_of_lt h0] at e
    obtain ⟨p, y, e1, e2, e3, e4, e5⟩ := g.succ i x e
    exact ⟨p, y, e1, e2, by rw [List.getElem?_take_of_lt (by omega)]; exact e3, e4, by rw [path_take_ns (by omega) hk]; exact e5⟩
theorem bd_other {ns : List Nd} (g : GoodN ns) {k j : Nat} {kd : Kd} {z : Int} (hk : k < ns.length) (hj : j < k) (ho : j ∉ opn ns k) : Bd ns k (.tup [.int j, .str kd.str, .int z]) := fun xs hx => by
  have hjl : j < ns.length := by omega
  have gj := List.getElem?_eq_getElem hjl
  have kj := kdOf_at gj
  have h := NodeIs.par (M := []) (xs := xs) (d := .non) (p := j) (s := kd.str) (z := z) (k := k) (t := ns[j].kind.str) (es := [encP ns[j].par, .str ns[j].kind.str, .int ns[j].z]) (kd_in _) hj (hx j _ hj gj) rfl
  by_cases e : ns[j].kind.str = ("text" : Str)
  · rw [decide_eq_true e] at h
    exact .inl (by rw [take_len hk]; exact h)
  · rw [decide_eq_false e] at h
    refine .inr ⟨j, _, _, rfl, by rw [take_len hk]; exact h, by rw [take_len hk]; omega, fun hp => ho ?_⟩
    rw [take_len hk, path_take_ns (by omega) hk] at hp
    unfold opn
    rw [if_neg (by omega)]
    refine List.mem_filter.mpr ⟨List.mem_reverse.mpr hp, ?_⟩
    unfold nt
    rw [kj, decide_eq_false e]
    rfl
structure BL (ns : List Nd) (k N : Nat) (wl : List D) : Prop where
  pos : 0 < wl.length
  len : wl.length ≤ N
  bad : ∀ d ∈ wl, Bd ns k d
theorem BL.add {ns : List Nd} {k N m : Nat} {wl more : List D} (h : BL ns k N wl) (hm : more.length ≤ m) (hb : ∀ d ∈ more, Bd ns k d) : BL ns k (N + m) (wl ++ more) := ⟨by rw [List.length_append]; have := h.pos; omega, by rw [List.length_append]; have := h.len; omega, fun d q => by
  rcases List.mem_append.mp q with q | q
  · exact h.bad d q
  · exact hb d q⟩
theorem cut_take {ds : List D} {k : Nat} (h : k ≤ ds.length) : Pv.cutD ds none (some (k : Int)) = ds.take k := by
  unfold Pv.cutD
  rw [HT.sIx_none, HT.sIx_nat, List.drop_zero, Nat.sub_zero, Nat.min_eq_left h]
theorem cut_drop {ds : List D} {k : Nat} (h : k ≤ ds.length) : Pv.cutD ds (some (k : Int)) none = ds.drop k := by
  unfold Pv.cutD
  rw [HT.sIx_none, HT.sIx_nat, Nat.min_eq_left h]
  exact List.take_of_length_le (by rw [List.length_drop]; exact Nat.le_refl _)
theorem mem_cut {ds : List D} {lo hi : Option Int} {d : D} (h : d ∈ Pv.cutD ds lo hi) : d ∈ ds := List.mem_of_mem_drop (List.mem_of_mem_take h)
theorem bc_strP {p : Option Nat} (hp : ∀ n, p = some n → n < 1024) (k : ∀ s, P (.str s) M) : BC K (rStrAny K) [encP p] M P := by
  cases p with
  | none => exact bc_strN (k _)
  | some n =>
    refine bc_strI ?_ (k _)
    have := hp n rfl
    show (n : Int).natAbs.log2 < 1920
    rw [Int.natAbs_natCast]
    rcases Nat.eq_zero_or_pos n with h0 | h0
    · subst h0
      decide
    · have h1 : n.log2 < 10 := (Nat.log2_lt (by omega)).mpr this
      omega
theorem bad_fin {ns : List Nd} (g : GoodN ns) {k : Nat} {d : D} (hl : ns.length ≤ 1000) (hk : k < ns.length) (h : Bd ns k d) : BadIn (.lst (((ns.map Nd.enc).take k ++ [d]) ++ (ns.map Nd.enc).drop (k + 1))) := by
  have tl : ((ns.map Nd.enc).take k).length = k := by
    rw [List.length_take, List.length_map, Nat.min_eq_left (by omega)]
  have get : ∀ (i : Nat) (x : Nd), i < k → ns[i]? = some x → (((ns.map Nd.enc).take k ++ [d]) ++ (ns.map Nd.enc).drop (k + 1))[i]? = some x.enc := fun i x hi hx => by
    rw [List.append_assoc, List.getElem?_append_left (by rw [tl]; exact hi), List.getElem?_take_of_lt hi, List.getElem?_map, hx]
    rfl
  have len : (((ns.map Nd.enc).take k ++ [d]) ++ (ns.map Nd.enc).drop (k + 1)).length = ns.length := by
    rw [List.length_append, List.length_append, tl, List.length_drop, List.length_map, List.length_singleton]
    omega
  refine .at (ns := ns.take k) (d := d) (by rw [len]; exact hl) ⟨g.take hk, fun i x hx => ?_, by rw [len, take_len hk]; omega⟩ ?_ (h _ get)
  · have hi : i < (ns.take k).length := (List.getElem?_eq_some_iff.mp hx).1
    rw [take_len hk] at hi
    rw [List.getElem?_take_of_lt hi] at hx
    exact get i x hi hx
  · rw [take_len hk, List.append_assoc, List.getElem?_append_right (by rw [tl]; exact Nat.le_refl _), tl, Nat.sub_self]
    rfl
theorem bad_first {xs : List D} {d : D} {T : String} (hl : (d :: xs).length ≤ 1000) (t : TyD [] d T) (h : kitB T "tuple" = some false) : BadIn (.lst (d :: xs)) :=
  .at (ns := []) (d := d) hl ⟨⟨fun x e => (nomatch e), fun i x e => (nomatch e)⟩, fun i x e => (nomatch e), Nat.zero_le _⟩ rfl (.inl (.notup t h))
/-! ### _law_bent -/
def pre_bent : List D → Own → KD → Prop := fun ds M P => ∃ (F : Cell → Own) (p : Addr) (c : Cell) (n : Nat) (ns : List Nd), ds = [.raw (.ref p), .lst (ns.map Nd.enc)] ∧ M = F c ∧ PlaceF F p ∧ IsPool c n ∧ GoodN ns ∧ 0 < ns.length ∧ ns.length ≤ 1000 ∧ ∀ d c', BadIn d → IsPool c' n → P d (F c')
def t_bent (K : PySem.W.Frag) : TS := (tSeq (tAsg (tCB (rLenP K) (tCons (tVar 1) tNil)) (gName 2))
  (tSeq (tAsg (tOp (rIx K) (tLst (tCons (tOp (rI0 fun i j => .int (i - j)) (tVar 2) (tC (.int 1))) (tCons (tOp (rI (fun _ j => 0 < j) fun i j => .int (i % j)) (tCB rInt1 (tCons (tCall (spB K (pre_far)) [] E0 (tCons (tVar 0) (tCons (tC (.int 200000)) tNil))) tNil)) (tVar 2)) tNil))) (tCall (spB K (pre_pick)) [] E0 (tCons (tVar 0) (tCons (tC (.int 2)) tNil)))) (gName 3))
  (tSeq (tAsg (tOp (rIx K) (tVar 1) (tVar 3)) (gTup K 3 (gCons (gName 4) (gCons (gName 5) (gCons (gName 6) gNil)))))
  (tSeq (tAsg (tTup (tCons (tCall (spB K (pre_pick)) [] E0 (tCons (tVar 0) (tCons (tC (.int 5)) tNil))) (tCons (tCall (spB K (pre_opened)) [] E0 (tCons (tVar 1) (tCons (tVar 3) tNil))) tNil))) (gTup K 2 (gCons (gName 7) (gCons (gName 8) gNil))))
  (tSeq (tAsg (tLst (tCons (tTup (tCons (tVar 4) (tCons (tVar 5) tNil))) (tCons (tTup (tCons (tVar 4) (tCons (tVar 5) (tCons (tVar 6) (tCons (tVar 6) tNil))))) (tCons (tLst (tCons (tVar 4) (tCons (tVar 5) (tCons (tVar 6) tNil)))) (tCons (tTup (tCons (tVar 5) (tCons (tVar 4) (tCons (tVar 6) tNil)))) (tCons (tC .non) (tCons (tTup (tCons (tVar 4) (tCons (tLst (tCons (tVar 5) tNil)) (tCons (tVar 6) tNil)))) (tCons (tTup (tCons (tVar 4) (tCons tDNewK (tCons (tVar 6) tNil)))) (tCons (tTup (tCons (tVar 4) (tCons (tOp (rPlus K) (tVar 5) (tC (.str ("s" : Str)))) (tCons (tVar 6) tNil)))) (tCons (tTup (tCons (tVar 4) (tCons (tC (.str ("" : Str))) (tCons (tVar 6) tNil)))) tNil)))))))))) (gName 9))
  (tSeq (tAsg (tOp (rPlus K) (tVar 9) (tLst (tCons (tTup (tCons (tVar 4) (tCons (tVar 5) (tCons (tC (.bl true)) tNil)))) (tCons (tTup (tCons (tVar 4) (tCons (tVar 5) (tCons (tC .non) tNil)))) (tCons (tTup (tCons (tVar 4) (tCons (tVar 5) (tCons (tC (.str ("0" : Str))) tNil)))) (tCons (tTup (tCons (tVar 4) (tCons (tVar 5) (tCons (tTup (tCons (tVar 6) tNil)) tNil)))) (tCons (tTup (tCons (tTup (tCons (tVar 4) tNil)) (tCons (tVar 5) (tCons (tVar 6) tNil)))) (tCons (tTup (tCons (tCB (rStrAny K) (tCons (tVar 4) tNil)) (tCons (tVar 5) (tCons (tVar 6) tNil)))) tNil)))))))) (gName 9))
  (tSeq (tAsg (tOp (rPlus K) (tVar 9) (tLst (tCons (tTup (tCons (tUn (rU fun i => .int (-i)) (tC (.int 1))) (tCons (tVar 5) (tCons (tVar 6) tNil)))) (tCons (tTup (tCons (tVar 3) (tCons (tVar 5) (tCons (tVar 6) tNil)))) (tCons (tTup (tCons (tOp (rPlus K) (tVar 3) (tC (.int 1))) (tCons (tVar 5) (tCons (tVar 6) tNil)))) (tCons (tTup (tCons (tC (.bl true)) (tCons (tVar 5) (tCons (tVar 6) tNil)))) (tCons (tTup (tCons (tC (.bl false)) (tCons (tVar 5) (tCons (tVar 6) tNil)))) (tCons (tTup (tCons (tVar 2) (tCons (tVar 5) (tCons (tVar 6) tNil)))) tNil)))))))) (gName 9))
  (tSeq (tIfS (tTest (tOp rEq (tVar 3) (tC (.int 0)))) (tAsg (tOp (rPlus K) (tVar 9) (tLst (tCons (tTup (tCons (tC (.int 0)) (tCons (tVar 5) (tCons (tVar 6) tNil)))) (tCons (tTup (tCons (tVar 4) (tCons (tC (.str ("text" : Str))) (tCons (tVar 6) tNil)))) (tCons (tTup (tCons (tVar 4) (tCons (tC .non) (tCons (tVar 6) tNil)))) tNil))))) (gName 9)) (tSeq (tAsg (tLc (iRng1 (tCons (tVar 3) tNil)) (gName 12) (tTest (tOp (rIn K true) (tVar 12) (tVar 8))) (tVar 12) [12]) (gName 10))
  (tAsg (tOp (rPlus K) (tOp (rPlus K) (tVar 9) (tLst (tCons (tTup (tCons (tC .non) (tCons (tVar 5) (tCons (tVar 6) tNil)))) tNil))) (tOp rTimes (tLc (iList K (tOp (rPlus K) (tSl (rSlice K) (tVar 10) (tPart (tUn (rU fun i => .int (-i)) (tC (.int 3)))) tNoPart) (tSl (rSlice K) (tVar 10) tNoPart (tPart (tC (.int 2)))))) (gName 12) tYes (tTup (tCons (tVar 12) (tCons (tVar 5) (tCons (tVar 6) tNil)))) [12]) (tC (.int 3)))) (gName 9))))
  (tSeq (tAsg (tOp (rIx K) (tVar 9) (tOp (rI (fun _ j => 0 < j) fun i j => .int (i % j)) (tCB rInt1 (tCons (tCall (spB K (pre_far)) [] E0 (tCons (tVar 0) (tCons (tC (.int 200000)) tNil))) tNil)) (tCB (rLenP K) (tCons (tVar 9) tNil)))) (gName 11))
  (tSeq (tIfS (tTest (tOp rEq (tVar 7) (tC (.int 0)))) (tRet (tOp (rIx K) (tLst (tCons (tCB (rTupP K) (tCons (tVar 1) tNil)) (tCons (tC .non) (tCons tDNewK (tCons (tC (.str ("" : Str))) (tCons (tC (.int 0)) (tCons (tLst (tCons (tC .non) tNil)) (tCons (tLst (tCons (tLst tNil) tNil)) (tCons (tLst (tCons (tTup tNil) tNil)) (tCons (tC (.bl true)) (tCons (tLst (tCons (tVar 1) tNil)) tNil))))))))))) (tCall (spB K (pre_pick)) [] E0 (tCons (tVar 0) (tCons (tC (.int 10)) tNil))))) tNext)
  (tRet (tOp (rPlus K) (tOp (rPlus K) (tSl (rSlice K) (tVar 1) tNoPart (tPart (tVar 3))) (tLst (tCons (tVar 11) tNil))) (tSl (rSlice K) (tVar 1) (tPart (tOp (rPlus K) (tVar 3) (tC (.int 1)))) tNoPart)))))))))))))
theorem len_bent (h : pre_bent ds M P) : ds.length = 2 := by
  obtain ⟨F, p, c, n, ns, rfl, _⟩ := h
  rfl
theorem vAll_nats : ∀ os : List Nat, vAll (natsD os) = some (os.map fun (k : Nat) => V.int k)
  | [] => rfl
  | o :: os => by
    show vAll (.int o :: natsD os) = _
    rw [vAll, vAll_nats os]
    rfl
theorem in_nats {os : List Nat} {j : Nat} (h : j ∈ os) : inV (.int j) (os.map fun (k : Nat) => V.int k) = true := by
  unfold inV
  rw [List.any_eq_true]
  exact ⟨.int j, List.mem_map.mpr ⟨j, h, rfl⟩, by simp [eqV]⟩
theorem at_two {a b d : Int} {r : Int} (h0 : 0 ≤ r) (h2 : r < 2) : ∃ v, atI [D.int a, D.int b] r = some (.int v) ∧ (v = a ∨ v = b) := by
  rcases (by omega : r = 0 ∨ r = 1) with rfl | rfl
  · exact ⟨a, rfl, .inl rfl⟩
  · exact ⟨b, rfl, .inr rfl⟩
theorem bs_bent (h : pre_bent ds M P) : BS K E (t_bent K) (startE 13 ds) M { nx := fun _ M' => P .non M', rt := P } := by
  obtain ⟨F, p, c, n, ns, rfl, rfl, hF, hc, g, hn, hl, k⟩ := h
  unfold t_bent
  walk_at "all"
  refine bc_lenL (.of .lst) ?_
  rw [List.length_map]
  walk_at "all"
  refine be_lstF ?_
  walk_at "all"
  refine ⟨F, p, c, n, _, rfl, rfl, hF, hc, by decide, fun r1 c1 a1 b1 hc1 => ?_⟩
  walk_at "all"
  refine br_intC (by omega) ?_
  walk_at "all"
  refine ⟨by show 2 ≤ sizeLine; decide, ?_⟩
  walk_at "all"
  refine ⟨F, p, c1, n, _, rfl, rfl, hF, hc1, by decide, fun r2 c2 a2 b2 hc2 => ?_⟩
  obtain ⟨v, hv, hv2⟩ := at_two (a := (ns.length : Int) - 1) (b := r1 % (ns.length : Int)) (d := 0) a2 b2
  refine br_ixL (.of .lst) hv ?_
  have m1 := Int.emod_nonneg r1 (show (ns.length : Int) ≠ 0 by omega)
  have m2 := Int.emod_lt_of_pos r1 (show (0 : Int) < ns.length by omega)
  obtain ⟨i, rfl⟩ : ∃ i : Nat, v = (i : Int) := ⟨v.toNat, by rcases hv2 with rfl | rfl <;> omega⟩
  have hi : i < ns.length := by rcases hv2 with h | h <;> omega
  clear hv hv2 m1 m2 hc hc1
  have hx := List.getElem?_eq_getElem hi
  have hpar : ∀ q, ns[i].par = some q → q < 1024 := fun q hq => by
    have hp : parOf ns i = some q := by
      unfold parOf
      rw [hx]
      exact hq
    have := (g.par hp).1
    omega
  have hroot : i = 0 → encP ns[i].par = .non := fun h0 => by
    subst h0
    rw [(g.zero _ hx).1]
    rfl
  generalize ns[i] = x at hx hpar hroot
  obtain ⟨Tp, tp1, tp2, tp3⟩ := encP_ty x.par
  walk_at "all"
  refine br_ixL (.of .lst) (atI_nn (enc_get hx)) ?_
  refine bg_tup rfl (bgs_cons (bg_name (bgs_cons (bg_name (bgs_cons (bg_name (bgs_nil ?_)))))))
  walk_at "all"
  refine ⟨F, p, c2, n, _, rfl, rfl, hF, hc2, by decide, fun w c3 a3 b3 hc3 => ?_⟩
  walk_at "all"
  refine ⟨ns, i, rfl, g, hl, by omega, fun po hpo => ?_⟩
  walk_at "all"
  refine ⟨by show 2 ≤ sizeLine; decide, ?_⟩
  refine bg_tup rfl (bgs_cons (bg_name (bgs_cons (bg_name (bgs_nil ?_)))))
  refine bs_seq ?_
  refine bs_freeze (k := 0) (a := po) (ds := natsD (opn ns i)) rfl (.keep (.keep (.keep (.keep (.keep (.keep (.keep (.keep (.here (.keep (.keep (.keep (.keep .nil))))))))))))) ?_
  show BS K E _ _ (F c3) _
  -- the first nine
  refine bs_asg ?_
  walk_at "fro"
  refine br_plusS (kd_s_len _) ?_
  walk_at "fro"
  refine bg_name ?_
  have w9 : ∀ wl : List D, wl = _ → BL ns i 9 wl := fun wl (hw : wl = [D.tup [encP x.par, .str x.kind.str], .tup [encP x.par, .str x.kind.str, .int x.z, .int x.z], .lst [encP x.par, .str x.kind.str, .int x.z], .tup [.str x.kind.str, encP x.par, .int x.z], .non, .tup [encP x.par, .lst [.str x.kind.str], .int x.z], .tup [encP x.par, .dic, .int x.z], .tup [encP x.par, .str (x.kind.str ++ ("s" : Str)), .int x.z], .tup [encP x.par, .str ("" : Str), .int x.z]]) => by
    subst hw
    refine ⟨by show 0 < 9; decide, Nat.le_refl _, ?_⟩
    intro d m
    simp only [List.mem_cons, List.not_mem_nil, or_false] at m
    rcases m with rfl | rfl | rfl | rfl | rfl | rfl | rfl | rfl | rfl
    · exact .no hi fun xs => .len (by show 2 ≠ 3; decide)
    · exact .no hi fun xs => .len (by show 4 ≠ 3; decide)
    · exact .no hi fun xs => .notup (.lst .lst) rfl
    · exact bd_kind hi tp1 tp2
    · exact .no hi fun xs => .notup .non rfl
    · exact bd_kind hi (.lst .lst) rfl
    · exact bd_kind hi .dic rfl
    · exact bd_word hi (kd_s _)
    · exact bd_word hi (by decide)
  have b9 := w9 _ rfl
  clear w9
  generalize [D.tup [encP x.par, .str x.kind.str], .tup [encP x.par, .str x.kind.str, .int x.z, .int x.z], .lst [encP x.par, .str x.kind.str, .int x.z], .tup [.str x.kind.str, encP x.par, .int x.z], .non, .tup [encP x.par, .lst [.str x.kind.str], .int x.z], .tup [encP x.par, .dic, .int x.z], .tup [encP x.par, .str (x.kind.str ++ ("s" : Str)), .int x.z], .tup [encP x.par, .str ("" : Str), .int x.z]] = wl at b9
  -- six more
  refine bs_seq (bs_asg (be_fz ?_))
  walk_at "fro"
  refine bc_strP hpar fun so => ?_
  walk_at "fro"
  refine br_plusL .lst .lst (line_of (by have := b9.len; show wl.length + 6 ≤ 100000; omega)) fun q hq => ⟨q, _, 0, F c3, rfl, rfl, List.Sublist.refl _, ?_⟩
  refine bg_name ?_
  have tupn : ∀ (q : D) (T : String), TyD [] q T → kitB T "bool" = some false → kitB T "int" = some false → isNon q = false → Bd ns i (.tup [q, .str x.kind.str, .int x.z]) := fun q T t h1 h2 h3 => bd_par hi (fun _ => h3) fun _ => .no 0 _ t h1 h2
  have b15 := b9.add (m := 6) (by exact Nat.le_refl 6) (show ∀ d ∈ [D.tup [encP x.par, .str x.kind.str, .bl true], .tup [encP x.par, .str x.kind.str, .non], .tup [encP x.par, .str x.kind.str, .str ("0" : Str)], .tup [encP x.par, .str x.kind.str, .tup [.int x.z]], .tup [.tup [encP x.par], .str x.kind.str, .int x.z], .tup [.str so, .str x.kind.str, .int x.z]], Bd ns i d from fun d m => by
    simp only [List.mem_cons, List.not_mem_nil, or_false] at m
    rcases m with rfl | rfl | rfl | rfl | rfl | rfl
    · exact bd_z hi (.bl true)
    · exact bd_z hi (.no .non rfl)
    · exact bd_z hi (.no (.str _) rfl)
    · exact bd_z hi (.no (.tup _) rfl)
    · exact tupn _ _ (.tup _) rfl rfl rfl
    · exact tupn _ _ (.str _) rfl rfl rfl)
  generalize wl ++ [D.tup [encP x.par, .str x.kind.str, .bl true], .tup [encP x.par, .str x.kind.str, .non], .tup [encP x.par, .str x.kind.str, .str ("0" : Str)], .tup [encP x.par, .str x.kind.str, .tup [.int x.z]], .tup [.tup [encP x.par], .str x.kind.str, .int x.z], .tup [.str so, .str x.kind.str, .int x.z]] = wm at b15
  clear b9
  -- and six
  refine bs_seq (bs_asg (be_fz ?_))
  walk_at "fro"
  refine br_plusL .lst .lst (line_of (by have := b15.len; show wm.length + 6 ≤ 100000; omega)) fun q hq => ⟨q, _, 0, F c3, rfl, rfl, List.Sublist.refl _, ?_⟩
  refine bg_name ?_
  have intn : ∀ j : Int, ¬ (0 ≤ j ∧ j ≤ (i : Int) - 1) → Bd ns i (.tup [.int j, .str x.kind.str, .int x.z]) := fun j hj => bd_par hi (fun _ => rfl) fun _ => num_no hj
  have b21 := b15.add (m := 6) (by exact Nat.le_refl 6) (show ∀ d ∈ [D.tup [.int (-1), .str x.kind.str, .int x.z], .tup [.int i, .str x.kind.str, .int x.z], .tup [.int ((i : Int) + 1), .str x.kind.str, .int x.z], .tup [.bl true, .str x.kind.str, .int x.z], .tup [.bl false, .str x.kind.str, .int x.z], .tup [.int ns.length, .str x.kind.str, .int x.z]], Bd ns i d from fun d m => by
    simp only [List.mem_cons, List.not_mem_nil, or_false] at m
    rcases m with rfl | rfl | rfl | rfl | rfl | rfl
    · exact intn _ (by omega)
    · exact intn _ (by omega)
    · exact intn _ (by omega)
    · exact bd_par hi (fun _ => rfl) fun _ => .bl true 0 _
    · exact bd_par hi (fun _ => rfl) fun _ => .bl false 0 _
    · exact intn _ (by omega))
  generalize wm ++ [D.tup [.int (-1), .str x.kind.str, .int x.z], .tup [.int i, .str x.kind.str, .int x.z], .tup [.int ((i : Int) + 1), .str x.kind.str, .int x.z], .tup [.bl true, .str x.kind.str, .int x.z], .tup [.bl false, .str x.kind.str, .int x.z], .tup [.int ns.length, .str x.kind.str, .int x.z]] = wn at b21
  clear b15
  -- the end, whatever else is wrong
  have rest : ∀ (wl : List D) (o1 o2 : Option D), BL ns i 60 wl → BS K E (tSeq (tAsg (tOp (rIx K) (tVar 9) (tOp (rI (fun _ j => 0 < j) fun i j => .int (i % j)) (tCB rInt1 (tCons (tCall (spB K (pre_far)) [] E0 (tCons (tVar 0) (tCons (tC (.int 200000)) tNil))) tNil)) (tCB (rLenP K) (tCons (tVar 9) tNil)))) (gName 11))
  (tSeq (tIfS (tTest (tOp rEq (tVar 7) (tC (.int 0)))) (tRet (tOp (rIx K) (tLst (tCons (tCB (rTupP K) (tCons (tVar 1) tNil)) (tCons (tC .non) (tCons tDNewK (tCons (tC (.str ("" : Str))) (tCons (tC (.int 0)) (tCons (tLst (tCons (tC .non) tNil)) (tCons (tLst (tCons (tLst tNil) tNil)) (tCons (tLst (tCons (tTup tNil) tNil)) (tCons (tC (.bl true)) (tCons (tLst (tCons (tVar 1) tNil)) tNil))))))))))) (tCall (spB K (pre_pick)) [] E0 (tCons (tVar 0) (tCons (tC (.int 10)) tNil))))) tNext)
  (tRet (tOp (rPlus K) (tOp (rPlus K) (tSl (rSlice K) (tVar 1) tNoPart (tPart (tVar 3))) (tLst (tCons (tVar 11) tNil))) (tSl (rSlice K) (tVar 1) (tPart (tOp (rPlus K) (tVar 3) (tC (.int 1)))) tNoPart)))))
    [some (.raw (.ref p)), some (.lst (ns.map Nd.enc)), some (.int ns.length), some (.int i), some (encP x.par), some (.str x.kind.str), some (.int x.z), some (.int w), some (.lst (natsD (opn ns i))), some (.lst wl), o1, none, o2] (F c3) { nx := fun _ M' => P .non M', rt := P } := fun wl o1 o2 bl => by
    have bp := bl.pos
    have blen := bl.len
    walk_at "all"
    refine ⟨F, p, c3, n, _, rfl, rfl, hF, hc3, by decide, fun r c4 a4 b4 hc4 => ?_⟩
    walk_at "all"
    refine bc_lenL (.of .lst) ?_
    refine br_intC (by omega) ?_
    have m1 := Int.emod_nonneg r (show (wl.length : Int) ≠ 0 by omega)
    have m2 := Int.emod_lt_of_pos r (show (0 : Int) < wl.length by omega)
    have hlt : (r % (wl.length : Int)).toNat < wl.length := by omega
    have gd := List.getElem?_eq_getElem hlt
    have hb := bl.bad _ (List.getElem_mem hlt)
    generalize wl[(r % (wl.length : Int)).toNat] = bad at gd hb
    refine br_ixL (.of .lst) (atI_pos m1 gd) ?_
    walk_at "all"
    refine ifP (fun hw => ?_) (fun hw => ?_)
    · refine bs_ret ?_
      refine be_op (be_lstF ?_)
      walk_at "fro"
      refine bc_tuple (.inr (.of .lst)) ?_
      walk_at "fro"
      refine ⟨F, p, c4, n, _, rfl, rfl, hF, hc4, by decide, fun r5 c5 a5 b5 hc5 => ?_⟩
      have fin : ∀ d, BadIn d → atI [D.tup (ns.map Nd.enc), .non, .dic, .str ("" : Str), .int 0, .lst [.non], .lst [.lst []], .lst [.tup []], .bl true, .lst [.lst (ns.map Nd.enc)]] r5 = some d → BR K (rIx K) (.lst [D.tup (ns.map Nd.enc), .non, .dic, .str ("" : Str), .int 0, .lst [.non], .lst [.lst []], .lst [.tup []], .bl true, .lst [.lst (ns.map Nd.enc)]]) (.int r5) (F c5) P := fun d hd ha => br_ixL (.of .lst) ha (k d c5 hd hc5)
      rcases (by omega : r5 = 0 ∨ r5 = 1 ∨ r5 = 2 ∨ r5 = 3 ∨ r5 = 4 ∨ r5 = 5 ∨ r5 = 6 ∨ r5 = 7 ∨ r5 = 8 ∨ r5 = 9) with rfl | rfl | rfl | rfl | rfl | rfl | rfl | rfl | rfl | rfl
      · exact fin _ (.nolist (.tup _) rfl) rfl
      · exact fin _ (.nolist .non rfl) rfl
      · exact fin _ (.nolist .dic rfl) rfl
      · exact fin _ (.nolist (.str _) rfl) rfl
      · exact fin _ (.nolist (.int _) rfl) rfl
      · exact fin _ (bad_first (by show 1 ≤ 1000; decide) .non rfl) rfl
      · exact fin _ (bad_first (by show 1 ≤ 1000; decide) (.lst .lst) rfl) rfl
      · exact fin _ (.at (ns := []) (d := .tup []) (by show 1 ≤ 1000; decide) ⟨⟨fun x e => (nomatch e), fun i x e => (nomatch e)⟩, fun i x e => (nomatch e), Nat.zero_le _⟩ rfl (.inl (.len (by decide)))) rfl
      · exact fin _ (.nolist (.bl _) rfl) rfl
      · exact fin _ (bad_first (by show 1 ≤ 1000; decide) (.lst .lst) rfl) rfl
    · refine bs_next ?_
      refine bs_ret (be_fz ?_)
      walk_at "fro"
      refine bsl_L (.of .lst) fun q1 hq1 => ?_
      rw [cut_take (by rw [List.length_map]; omega)]
      walk_at "fro"
      have tl : ((ns.map Nd.enc).take i).length = i := by rw [List.length_take, List.length_map, Nat.min_eq_left (by omega)]
      refine br_plusL (.own (n := 0) rfl) .lst (by rw [tl]; exact line_of (show i + 1 ≤ 100000 by omega)) fun q2 hq2 => ?_
      walk_at "fro"
      refine bsl_L (.of .lst) fun q3 hq3 => ?_
      have e1 : (i : Int) + 1 = ((i + 1 : Nat) : Int) := by omega
      rw [e1, cut_drop (by rw [List.length_map]; omega)]
      refine br_plusL (.own (n := 1) rfl) (.own (n := 0) rfl) (by rw [List.length_append, tl, List.length_drop, List.length_map]; exact line_of (show i + 1 + (ns.length - (i + 1)) ≤ 100000 by omega)) fun q4 hq4 => ?_
      refine ⟨q4, _, 0, F c4, rfl, rfl, ?_, k _ c4 (bad_fin g hl hi hb) hc4⟩
      exact .cons _ (.cons _ (.cons _ (List.Sublist.refl _)))
  refine bs_seq (bs_if ?_)
  walk_at "bx"
  walk_at "fro"
  refine ifP (fun h0 => ?_) (fun h0 => ?_)
  · have hi0 : i = 0 := by omega
    refine bs_asg (be_fz ?_)
    walk_at "fro"
    refine br_plusL .lst .lst (line_of (by have := b21.len; show wn.length + 3 ≤ 100000; omega)) fun q hq => ⟨q, _, 0, F c3, rfl, rfl, List.Sublist.refl _, ?_⟩
    refine bg_name ?_
    have b24 := b21.add (m := 3) (by exact Nat.le_refl 3) (show ∀ d ∈ [D.tup [.int 0, .str x.kind.str, .int x.z], .tup [encP x.par, .str ("text" : Str), .int x.z], .tup [encP x.par, .non, .int x.z]], Bd ns i d from fun d m => by
      simp only [List.mem_cons, List.not_mem_nil, or_false] at m
      rcases m with rfl | rfl | rfl
      · exact intn _ (by omega)
      · rw [hroot hi0]
        subst hi0
        exact .no hi fun xs => NodeIs.root (p := .non) (s := ("text" : Str)) (z := x.z) (by decide)
      · exact bd_kind hi .non rfl)
    exact rest _ _ _ ⟨b24.pos, by have := b24.len; omega, b24.bad⟩
  · have hip : 0 < i := by omega
    refine bs_seq (bs_asg (be_fz ?_))
    refine be_lcR1 ?_
    walk_at "fro"
    refine ⟨_, rfl, by omega, by omega, ?_⟩
    rw [Int.toNat_natCast]
    refine ⟨fun j acc M' => M' = F c3 ∧ ∃ js : List Nat, acc = natsD js ∧ js.length ≤ j ∧ ∀ a ∈ js, a < i ∧ a ∉ opn ns i, ⟨rfl, [], rfl, Nat.le_refl _, fun a m => (nomatch m)⟩, ?_, ?_⟩
    · rintro j acc M' Dl hj ⟨rfl, js, rfl, hjl, hjs⟩ hD
      refine ⟨_, ct_name (by decide), ?_⟩
      walk_at "fro"
      refine br_nin (.inr (.of .lst)) (x := .int (0 + (j : Int))) rfl (vAll_nats _) ?_
      walk_at "fro"
      refine ifB (fun hin => ?_) (fun hin => ?_)
      · walk_at "fro"
        refine ⟨0, rfl, by rw [natsD_len]; exact line_lt (by omega), rfl, js ++ [j], ?_, by rw [List.length_append, List.length_singleton]; omega, fun a m => ?_⟩
        · rw [natsD_append, Int.zero_add]
          rfl
        · rcases List.mem_append.mp m with m | m
          · exact hjs a m
          · rw [List.mem_singleton] at m
            subst m
            refine ⟨hj, fun q => ?_⟩
            rw [Int.zero_add, in_nats q] at hin
            cases hin
      · exact ⟨0, rfl, rfl, js, rfl, by omega, hjs⟩
    · rintro acc M' Dl ⟨rfl, js, rfl, hjl, hjs⟩ hD
      refine ⟨Dl, _, 0, F c3, rfl, rfl, List.Sublist.refl _, ?_⟩
      refine bg_name ?_
      refine bs_asg (be_fz ?_)
      walk_at "fro"
      refine br_plusL .lst .lst (line_of (by have := b21.len; show wn.length + 1 ≤ 100000; omega)) fun q1 hq1 => ?_
      walk_at "fro"
      refine be_lcL ?_
      walk_at "fro"
      refine bsl_L (.of .lst) fun q2 hq2 => ?_
      walk_at "fro"
      refine bsl_L (.of .lst) fun q3 hq3 => ?_
      have mem3 : ∀ d ∈ Pv.cutD (natsD js) (some (-3)) none, ∃ a : Nat, d = .int a ∧ a < i ∧ a ∉ opn ns i := fun d m => by
        have m' := mem_cut m
        obtain ⟨a, ma, rfl⟩ := List.mem_map.mp m'
        exact ⟨a, rfl, hjs a ma⟩
      have mem2 : ∀ d ∈ Pv.cutD (natsD js) none (some 2), ∃ a : Nat, d = .int a ∧ a < i ∧ a ∉ opn ns i := fun d m => by
        have m' := mem_cut m
        obtain ⟨a, ma, rfl⟩ := List.mem_map.mp m'
        exact ⟨a, rfl, hjs a ma⟩
      have len3 : (Pv.cutD (natsD js) (some (-3)) none).length ≤ 3 := by
        unfold Pv.cutD
        rw [HT.sIx_none, List.length_take, List.length_drop]
        have : HT.sIx (natsD js).length 0 (some (-3)) = ((-3 : Int) + ((natsD js).length : Int)).toNat := by
          unfold HT.sIx
          exact if_pos (by decide)
        rw [this]
        omega
      have len2 : (Pv.cutD (natsD js) none (some 2)).length ≤ 2 := by
        unfold Pv.cutD
        rw [HT.sIx_none, List.length_take, List.length_drop]
        have : HT.sIx (natsD js).length (natsD js).length (some 2) = min 2 (natsD js).length := HT.sIx_nat _ _ 2
        rw [this]
        omega
      generalize Pv.cutD (natsD js) (some (-3)) none = l3 at mem3 len3 ⊢
      generalize Pv.cutD (natsD js) none (some 2) = l2 at mem2 len2 ⊢
      refine br_plusL (.own (n := 1) rfl) (.own (n := 0) rfl) (line_of (by omega)) fun q4 hq4 => ?_
      refine lcL_map (fun t => .tup [((l3 ++ l2)[t]?).getD .non, .str x.kind.str, .int x.z]) (.of (.own (n := 0) rfl)) (line_of (by rw [List.length_append]; omega)) (fun t y Dl2 acc hy => ?_) fun q5 hq5 => ?_
      · refine ⟨_, ct_name (by decide), ?_⟩
        walk_at "fro"
        refine ⟨?_, rfl⟩
        rw [hy]
        rfl
      · walk_at "fro"
        refine br_timesL (.own (n := 0) rfl) ⟨by decide, by decide⟩ (by rw [List.length_map, List.length_range, List.length_append]; exact line_of (show (l3.length + l2.length) * 3 ≤ 100000 by omega)) fun q6 hq6 => ?_
        have badm : ∀ d ∈ (List.replicate (Int.toNat 3) ((List.range (l3 ++ l2).length).map fun t => D.tup [((l3 ++ l2)[t]?).getD .non, .str x.kind.str, .int x.z])).flatten, Bd ns i d := fun d m => by
          obtain ⟨l, ml, md⟩ := List.mem_flatten.mp m
          have := List.eq_of_mem_replicate ml
          subst this
          obtain ⟨t, mt, rfl⟩ := List.mem_map.mp md
          have ht := List.mem_range.mp mt
          have gt := List.getElem?_eq_getElem ht
          have mg : (l3 ++ l2)[t] ∈ l3 ++ l2 := List.getElem_mem ht
          rw [gt]
          show Bd ns i (.tup [(l3 ++ l2)[t], .str x.kind.str, .int x.z])
          have : ∃ a : Nat, (l3 ++ l2)[t] = .int a ∧ a < i ∧ a ∉ opn ns i := by
            rcases List.mem_append.mp mg with m | m
            · exact mem3 _ m
            · exact mem2 _ m
          obtain ⟨a, ea, a1, a2⟩ := this
          rw [ea]
          exact bd_other g hi a1 a2
        have lenm : (List.replicate (Int.toNat 3) ((List.range (l3 ++ l2).length).map fun t => D.tup [((l3 ++ l2)[t]?).getD .non, .str x.kind.str, .int x.z])).flatten.length ≤ 15 := by
          rw [List.length_flatten, List.map_replicate, List.sum_replicate_nat, List.length_map, List.length_range, List.length_append]
          show 3 * (l3.length + l2.length) ≤ 15
          omega
        have b22 := b21.add (m := 1) (by exact Nat.le_refl 1) (show ∀ d ∈ [D.tup [.non, .str x.kind.str, .int x.z]], Bd ns i d from fun d m => by
          rw [List.mem_singleton] at m
          subst m
          exact bd_par hi (fun h => absurd h (by omega)) fun _ => .no 0 _ .non rfl rfl)
        have b37 := b22.add lenm badm
        refine br_plusL (.own (n := 5) rfl) (.own (n := 0) rfl) (line_of (by have := b22.len; omega)) fun q7 hq7 => ⟨q7, _, 0, F c3, rfl, rfl, ?_, ?_⟩
        · walk_at "sub"
        · refine bg_name ?_
          exact rest _ _ _ ⟨b37.pos, by have := b37.len; omega, b37.bad⟩
end
end K62

namespace K62
open PySem PySem.Spec PyProof.Rows L2 Evl Pv
local macro_rules | `(tactic| walk_at "bx") => `(tactic| first
  | (with_reducible refine be_var (by with_unfolding_all exact rfl) ?_)
  | with_reducible refine be_int ?_
  | with_reducible refine be_str ?_
  | with_reducible refine ba_cons ?_
  | with_reducible refine ba_nil ?_
  | with_reducible refine be_cb ?_
  | with_reducible refine be_call ?_
  | with_reducible refine be_op ?_
  | with_reducible refine br_plusI ?_
  | with_reducible refine br_int ?_
  | with_reducible refine br_bl ?_
  | with_reducible refine br_eqI ?_
  | with_reducible refine br_neI ?_
  | with_reducible refine br_eqS ?_
  | with_reducible refine br_neS ?_
  | with_reducible refine br_eqB ?_
  | with_reducible refine br_neB ?_
  | with_reducible refine br_isN ?_
  | with_reducible refine br_notN ?_
  | with_reducible refine bc_int ?_
  | with_reducible refine bc_intB ?_
  | with_reducible refine bc_lenT ?_
  | with_reducible refine be_bl ?_
  | with_reducible refine be_non ?_
  | with_reducible refine be_ty ?_
  | with_reducible refine be_un ?_
  | with_reducible refine bu_int ?_
  | with_reducible refine be_ref ?_
  | with_reducible refine bt_test ?_
  | with_reducible refine bt_B ?_
  | with_reducible refine bt_not ?_
  | with_reducible refine bt_and ?_
  | with_reducible refine bt_or ?_
  | with_reducible refine ex_bl ?_
  | with_reducible refine ex_int ?_
  | with_reducible refine be_andV ?_
  | with_reducible refine be_orV ?_
  | with_reducible refine be_notV ?_
  | with_reducible refine be_if ?_
  | with_reducible refine be_chain ?_
  | with_reducible refine be_sl ?_
  | with_reducible refine bo_none ?_
  | with_reducible refine bo_some ?_
  | with_reducible refine be_tup ?_
  | with_reducible refine bt_tru ?_)
local macro_rules | `(tactic| walk_at "bs") => `(tactic| first
  | with_reducible refine bs_seq ?_
  | with_reducible refine bs_asg ?_
  | with_reducible refine bs_drop ?_
  | with_reducible refine bs_ret ?_
  | with_reducible refine bs_if ?_
  | with_reducible refine bs_next ?_
  | with_reducible refine bs_brk ?_
  | with_reducible refine bs_cont ?_
  | with_reducible refine bg_name ?_
  | with_reducible refine bs_retN ?_)
local macro_rules | `(tactic| walk_at "go") => `(tactic| repeat (first | walk_at "bx" | walk_at "bs"))
local macro_rules | `(tactic| walk_at "sub") => `(tactic| first | exact List.Sublist.refl _ | (refine List.Sublist.cons₂ _ ?_; walk_at "sub") | (refine List.Sublist.cons _ ?_; walk_at "sub"))
local macro_rules | `(tactic| walk_at "it") => `(tactic| first
  | with_reducible refine ifT ?_
  | with_reducible refine ifF ?_
  | with_reducible refine ifNT ?_
  | with_reducible refine ifNF ?_
  | with_reducible refine ifNF ?_)
local macro_rules | `(tactic| walk_at "len") => `(tactic| with_reducible refine And.intro (show List.length _ ≤ sizeLine from Nat.le_of_ble_eq_true (by with_unfolding_all rfl)) ?_)
local macro_rules | `(tactic| walk_at "all") => `(tactic| repeat (first | walk_at "bx" | walk_at "bs" | walk_at "it"))
local macro_rules | `(tactic| walk_at "fro") => `(tactic| repeat (first | walk_at "bx" | walk_at "it" | walk_at "len" | with_reducible refine be_lstF ?_ | with_reducible refine be_dnewF ?_ | with_reducible refine br_plusS (by decide) ?_))

section
variable {K : PySem.W.Frag} {E : XK} {ds : List D} {M : Own} {P : KD} {C : Cs} {ρ : Pv.Env}
/-! ### _law_list -/
def pre_list : List D → Own → KD → Prop := fun ds M P => ∃ (F : Cell → Own) (p : Addr) (c : Cell) (n many : Nat) (sh : Int), ds = [.raw (.ref p), .int many, .int sh] ∧ M = F c ∧ PlaceF F p ∧ IsPool c n ∧ 0 < many ∧ many ≤ 1000 ∧ 0 ≤ sh ∧ sh < 4 ∧
  ∀ nd (ns : List Nd) c', nd ∉ keysO (F c') → GoodN ns → ns.length = many → IsPool c' n → P (.raw (.ref nd)) ((nd, .lst (ns.map Nd.enc)) :: F c')
def t_list (K : PySem.W.Frag) : TS := (tSeq (tPar 3 4 (tCons (tLst (tCons (tC (.int 0)) (tCons (tC (.int 1)) (tCons (tUn (rU fun i => .int (-i)) (tC (.int 1))) (tCons (tC (.int 1)) (tCons (tOp (rI0 fun i j => .int (i - j)) (tCall (spB K (pre_far)) [] E0 (tCons (tVar 0) (tCons (tC (.int 199)) tNil))) (tC (.int 99))) (tCons (tOp (rI CPow fun i j => .int (i ^ j.toNat)) (tC (.int 10)) (tC (.int 9))) tNil))))))) (tCons (tLst (tCons (tC (.str ("block" : Str))) (tCons (tC (.str ("float" : Str))) (tCons (tC (.str ("box" : Str))) (tCons (tC (.str ("over" : Str))) (tCons (tC (.str ("over" : Str))) (tCons (tC (.str ("text" : Str))) tNil))))))) tNil)))
  (tSeq (tPar 5 6 (tCons (tLst (tCons (tTup (tCons (tC .non) (tCons (tOp (rIx K) (tVar 4) (tCall (spB K (pre_pick)) [] E0 (tCons (tVar 0) (tCons (tC (.int 5)) tNil)))) (tCons (tCall (spB K (pre_z)) [] E0 (tCons (tVar 0) (tCons (tVar 3) tNil))) tNil)))) tNil)) (tCons (tLst (tCons (tC (.int 0)) tNil)) tNil)))
  (tSeq (tFor (iRng2 (tCons (tC (.int 1)) (tCons (tVar 1) tNil))) (gName 7) (tSeq (tAsg (tOp (rIx K) (tLst (tCons (tOp (rI0 fun i j => .int (i - j)) (tCB (rLenP K) (tCons (tVar 6) tNil)) (tC (.int 1))) (tCons (tC (.int 0)) (tCons (tOp (rIx K) (tLst (tCons (tOp (rI0 fun i j => .int (i - j)) (tCB (rLenP K) (tCons (tVar 6) tNil)) (tC (.int 1))) (tCons (tOp (rI CDiv fun i j => .int (i / j)) (tCB (rLenP K) (tCons (tVar 6) tNil)) (tC (.int 2))) tNil))) (tCB rInt1 (tCons (tOp (rI0 fun i j => .bl (decide (j < i))) (tOp rTimes (tVar 7) (tC (.int 2))) (tVar 1)) tNil))) (tCons (tOp (rI (fun _ j => 0 < j) fun i j => .int (i % j)) (tCB rInt1 (tCons (tCall (spB K (pre_far)) [] E0 (tCons (tVar 0) (tCons (tC (.int 200000)) tNil))) tNil)) (tCB (rLenP K) (tCons (tVar 6) tNil))) tNil))))) (tVar 2)) (gName 8))
  (tSeq (tAsg (tOp (rIx K) (tVar 4) (tCall (spB K (pre_pick)) [] E0 (tCons (tVar 0) (tCons (tOp (rIx K) (tLst (tCons (tC (.int 5)) (tCons (tC (.int 6)) (tCons (tC (.int 6)) (tCons (tC (.int 6)) tNil))))) (tVar 2)) tNil)))) (gName 9))
  (tSeq (tFor (iRng1 (tCons (tOp (rPlus K) (tC (.int 1)) (tOp rTimes (tC (.int 2)) (tCB rInt1 (tCons (tAndV (tOp rEq (tCall (spB K (pre_pick)) [] E0 (tCons (tVar 0) (tCons (tC (.int 6)) tNil))) (tC (.int 0))) (tAndV (tOp (rI0 fun i j => .bl (decide (j < i))) (tVar 2) (tC (.int 0))) (tOp (rI0 fun i j => .bl (decide (i < j))) (tOp (rPlus K) (tCB (rLenP K) (tCons (tVar 5) tNil)) (tC (.int 3))) (tVar 1)))) tNil)))) tNil)) (gName 10) (tIfS (tTest (tOp (rI0 fun i j => .bl (decide (i < j))) (tCB (rLenP K) (tCons (tVar 5) tNil)) (tVar 1))) (tDrop (tBM K "list" rAppend (tVar 5) (tCons (tTup (tCons (tOp (rIx K) (tVar 6) (tVar 8)) (tCons (tVar 9) (tCons (tCall (spB K (pre_z)) [] E0 (tCons (tVar 0) (tCons (tOp (rPlus K) (tOp rTimes (tOp rTimes (tSl (rSlice K) (tVar 3) (tPart (tC (.int 1))) (tPart (tC (.int 2)))) (tC (.int 2))) (tVar 10)) (tVar 3)) tNil))) tNil)))) tNil))) tNext))
  (tSeq (tAsg (tSl (rSlice K) (tVar 6) tNoPart (tPart (tOp (rPlus K) (tVar 8) (tC (.int 1))))) (gName 6))
  (tSeq (tIfS (tTest (tOp rNe (tVar 9) (tC (.str ("text" : Str))))) (tDrop (tBM K "list" rAppend (tVar 6) (tCons (tOp (rI0 fun i j => .int (i - j)) (tCB (rLenP K) (tCons (tVar 5) tNil)) (tC (.int 1))) tNil))) tNext)
  (tIfS (tTest (tOp (rI0 fun i j => .bl (decide (j ≤ i))) (tCB (rLenP K) (tCons (tVar 5) tNil)) (tVar 1))) tBreak tNext)))))))
  (tRet (tVar 5)))))
theorem len_list (h : pre_list ds M P) : ds.length = 3 := by
  obtain ⟨F, p, c, n, many, sh, rfl, _⟩ := h
  rfl
def kindsD : List D := [.str "block", .str "float", .str "box", .str "over", .str "over", .str "text"]
def levD (f : Int) : List D := [.int 0, .int 1, .int (-1), .int 1, .int f, .int (10 ^ Int.toNat 9)]
theorem at_kind {r m : Int} (h0 : 0 ≤ r) (hr : r < m) (hm : m ≤ 6) : ∃ kd : Kd, atI kindsD r = some (.str kd.str) ∧ (m = 5 → kd ≠ .text) := by
  rcases (by omega : r = 0 ∨ r = 1 ∨ r = 2 ∨ r = 3 ∨ r = 4 ∨ r = 5) with rfl | rfl | rfl | rfl | rfl | rfl
  · exact ⟨.block, rfl, fun _ => by decide⟩
  · exact ⟨.float, rfl, fun _ => by decide⟩
  · exact ⟨.box, rfl, fun _ => by decide⟩
  · exact ⟨.over, rfl, fun _ => by decide⟩
  · exact ⟨.over, rfl, fun _ => by decide⟩
  · exact ⟨.text, rfl, fun h => by omega⟩
theorem at_four {a b c d : Int} {n : Nat} {sh : Int} (h0 : 0 ≤ sh) (h4 : sh < 4) (ha : 0 ≤ a ∧ a < n) (hb : 0 ≤ b ∧ b < n) (hc : 0 ≤ c ∧ c < n) (hd : 0 ≤ d ∧ d < n) : ∃ v : Nat, atI [D.int a, D.int b, D.int c, D.int d] sh = some (.int v) ∧ v < n := by
  rcases (by omega : sh = 0 ∨ sh = 1 ∨ sh = 2 ∨ sh = 3) with rfl | rfl | rfl | rfl
  · exact ⟨a.toNat, by rw [Int.toNat_of_nonneg ha.1]; rfl, by omega⟩
  · exact ⟨b.toNat, by rw [Int.toNat_of_nonneg hb.1]; rfl, by omega⟩
  · exact ⟨c.toNat, by rw [Int.toNat_of_nonneg hc.1]; rfl, by omega⟩
  · exact ⟨d.toNat, by rw [Int.toNat_of_nonneg hd.1]; rfl, by omega⟩
theorem lev_map (f : Int) : levD f = [0, 1, -1, 1, f, 10 ^ Int.toNat 9].map D.int := rfl
theorem more_map (f : Int) (t : Nat) : (List.replicate t (List.replicate (Int.toNat 2) [D.int 1]).flatten).flatten ++ levD f = ((List.replicate t [1, 1]).flatten ++ [0, 1, -1, 1, f, 10 ^ Int.toNat 9]).map D.int := by
  rw [List.map_append, List.map_flatten, List.map_replicate, lev_map]
  rfl
/-- nodes that are added under a -/
structure Ext (ns : List Nd) (a : Nat) (kd : Kd) (many : Nat) (j : Nat) (ms : List Nd) : Prop where
  good : GoodN ms
  le : ns.length ≤ ms.length
  most : ms.length ≤ many
  len : ms.length ≤ ns.length + j
  pre : ∀ i, i < ns.length → path ms i = path ns i
  old : ∀ (i : Nat) (x : Nd), ns[i]? = some x → ms[i]? = some x
  mem : a ∈ path ms (ms.length - 1)
  new : 0 < j → ns.length < many → ns.length < ms.length ∧ path ms (ms.length - 1) = path ms a ++ [ms.length - 1] ∧ ∃ y, ms[ms.length - 1]? = some y ∧ y.kind = kd
theorem Ext.start {ns : List Nd} {a many : Nat} {kd : Kd} (g : GoodN ns) (hm : ns.length ≤ many) (h : a ∈ path ns (ns.length - 1)) : Ext ns a kd many 0 ns :=
  ⟨g, Nat.le_refl _, hm, Nat.le_refl _, fun _ _ => rfl, fun _ _ h => h, h, fun h => absurd h (Nat.lt_irrefl _)⟩
theorem Ext.more {ns ms : List Nd} {a many j : Nat} {kd : Kd} {x : Nd} {z : Int} (h : Ext ns a kd many j ms) (hn : 0 < ns.length) (ha : ns[a]? = some x) (hx : x.kind ≠ .text) (hlt : ms.length < many) : Ext ns a kd many (j + 1) (ms ++ [⟨some a, kd, z⟩]) := by
  have ham : ms[a]? = some x := h.old a x ha
  have hal : a < ms.length := (List.getElem?_eq_some_iff.mp ham).1
  have hle := h.le
  have hl : (ms ++ [Nd.mk (some a) kd z]).length = ms.length + 1 := by rw [List.length_append]; rfl
  have e1 : (ms ++ [Nd.mk (some a) kd z]).length - 1 = ms.length := by rw [hl]; omega
  have pn := path_new (ns := ms) (x := ⟨some a, kd, z⟩) rfl hal
  refine ⟨h.good.add (by omega) ham hx h.mem rfl, by rw [hl]; omega, by rw [hl]; omega, by rw [hl]; have := h.len; omega, fun i hi => ?_, fun i y hy => ?_, ?_, fun _ _ => ⟨by rw [hl]; omega, ?_, ?_⟩⟩
  · rw [path_append (by omega)]
    exact h.pre i hi
  · have := h.old i y hy
    rw [List.getElem?_append_left (List.getElem?_eq_some_iff.mp this).1]
    exact this
  · rw [e1, pn]
    exact List.mem_append_left _ (mem_path_self _ _)
  · rw [e1, pn, path_append hal]
  · rw [e1]
    exact ⟨⟨some a, kd, z⟩, by rw [List.getElem?_append_right (Nat.le_refl _), Nat.sub_self]; rfl, rfl⟩
theorem Ext.full {ns ms : List Nd} {a many j : Nat} {kd : Kd} (h : Ext ns a kd many (j + 1) ms) : Ext ns a kd many (j + 1 + 1) ms :=
  ⟨h.good, h.le, h.most, by have := h.len; omega, h.pre, h.old, h.mem, fun _ q => h.new (Nat.succ_pos _) q⟩
/-- the state at the head of the loop -/
structure Hd (ns : List Nd) (q many i : Nat) : Prop where
  good : GoodN ns
  least : i < ns.length
  most : ns.length ≤ many
  room : many = 1 ∨ ns.length < many
  kd : ∃ x, ns[q]? = some x ∧ x.kind ≠ .text
  mem : q ∈ path ns (ns.length - 1)
theorem bs_list (h : pre_list ds M P) : BS K E (t_list K) (startE 11 ds) M { nx := fun _ M' => P .non M', rt := P } := by
  obtain ⟨F, p, c, n, many, sh, rfl, rfl, hF, hc, h1, h2, s0, s4, k⟩ := h
  unfold t_list
  refine bs_seq (bs_par ?_)
  walk_at "fro"
  refine ⟨F, p, c, n, _, rfl, rfl, hF, hc, by decide, fun r1 c1 a1 b1 hc1 => ?_⟩
  walk_at "fro"
  refine br_intC ⟨by decide, by decide, by decide⟩ ?_
  walk_at "fro"
  refine ⟨_, _, rfl, ?_⟩
  refine bs_seq (bs_par ?_)
  refine ba_cons (be_lst ?_)
  walk_at "fro"
  refine ⟨F, p, c1, n, _, rfl, rfl, hF, hc1, by decide, fun r2 c2 a2 b2 hc2 => ?_⟩
  obtain ⟨kd0, hk0, hk5⟩ := at_kind a2 b2 (by decide)
  refine br_ixL (.of .lst) hk0 ?_
  walk_at "fro"
  refine ⟨F, p, c2, n, .lst (levD (r1 - 99)), [0, 1, -1, 1, r1 - 99, 10 ^ Int.toNat 9], rfl, rfl, hF, hc2, fun _ => .of .lst, by show 0 < 6; decide, fun z0 c3 _ hc3 => ?_⟩
  walk_at "fro"
  intro nd hnd
  refine ba_cons (be_lst ?_)
  walk_at "fro"
  intro w hw
  walk_at "fro"
  refine ⟨_, _, rfl, ?_⟩
  have hndk : ∀ c', nd ∉ keysO (F c') := fun c' => by
    rw [hF.keys c' c3]
    exact hnd
  -- the end
  have fin : ∀ (ns : List Nd) (w : Addr) (l : List D) (c' : Cell) (o1 o2 o3 o4 : Option D), GoodN ns → ns.length = many → IsPool c' n → BS K E (tRet (tVar 5))
      [some (.raw (.ref p)), some (.int many), some (.int sh), some (.lst (levD (r1 - 99))), some (.lst kindsD), some (.raw (.ref nd)), some (.raw (.ref w)), o1, o2, o3, o4] ((w, .lst l) :: (nd, .lst (ns.map Nd.enc)) :: F c') { nx := fun _ M' => P .non M', rt := P } := fun ns w l c' o1 o2 o3 o4 g e hc' => by
    refine bs_ret (be_sub ?_)
    walk_at "fro"
    exact ⟨_, List.sublist_cons_self _ _, k nd ns c' (hndk c') g e hc'⟩
  refine bs_seq (bs_forR2 ?_)
  walk_at "fro"
  refine ⟨1, many, rfl, by omega, fun i ρ' M' => ∃ (ns : List Nd) (q : Nat) (w : Addr) (c' : Cell) (o1 o2 o3 o4 : Option D), Hd ns q many i ∧ IsPool c' n ∧
    ρ' = [some (.raw (.ref p)), some (.int many), some (.int sh), some (.lst (levD (r1 - 99))), some (.lst kindsD), some (.raw (.ref nd)), some (.raw (.ref w)), o1, o2, o3, o4] ∧ M' = (w, .lst (natsD (path ns q))) :: (nd, .lst (ns.map Nd.enc)) :: F c',
    ⟨[⟨none, kd0, z0⟩], 0, w, c3, none, none, none, none, ⟨.one rfl (hk5 rfl), by show 0 < 1; decide, h1, by show many = 1 ∨ 1 < many; omega, ⟨_, rfl, hk5 rfl⟩, mem_path_self _ _⟩, hc3, rfl, ?_⟩, ?_, ?_⟩
  · rw [path_none (ns := [⟨none, kd0, z0⟩]) (i := 0) rfl]
    rfl
  · rintro i ρ' M' hi ⟨ns, q, w, c', o1, o2, o3, o4, hd, hc', rfl, rfl⟩
    obtain ⟨g, hl, hm, hroom, ⟨x, hx, hxk⟩, hq⟩ := hd
    have hlt : ns.length < many := by omega
    have hw0 : 0 < (path ns q).length := List.length_pos_of_mem (mem_path_self ns q)
    have hqn : q < ns.length := (List.getElem?_eq_some_iff.mp hx).1
    have hwl : (path ns q).length ≤ 1000 := by
      have := path_len (ns := ns) (i := q)
      omega
    have hF2 : PlaceF (fun c => (w, .lst (natsD (path ns q))) :: (nd, .lst (ns.map Nd.enc)) :: F c) p := hF.cons.cons
    have wlen : ∀ (M' : Own) (P' : KD), M'[0]? = some (w, .lst (natsD (path ns q))) → P' (.int (path ns q).length) M' → BC K (rLenP K) [.raw (.ref w)] M' P' := fun M' P' hM hP => by
      refine bc_lenL (.of (.own (n := 0) hM)) ?_
      rw [natsD_len]
      exact hP
    refine bg_name ?_
    refine bs_seq (bs_asg ?_)
    refine be_op ?_
    walk_at "fro"
    refine wlen _ _ rfl ?_
    walk_at "fro"
    refine wlen _ _ rfl ?_
    walk_at "fro"
    refine wlen _ _ rfl ?_
    walk_at "fro"
    refine br_intC ⟨by decide, by decide⟩ ?_
    walk_at "fro"
    refine br_timesI (.inr (by decide)) ?_
    walk_at "fro"
    have two : ∀ r : Int, (r = 0 ∨ r = 1) → ∃ v : Int, atI [D.int ((path ns q).length - 1), D.int ((path ns q).length / 2)] r = some (.int v) ∧ 0 ≤ v ∧ v < (path ns q).length := fun r hr => by
      rcases hr with rfl | rfl
      · exact ⟨_, rfl, by omega, by omega⟩
      · exact ⟨_, rfl, by omega, by omega⟩
    obtain ⟨v2, hv2, v20, v21⟩ := two (if decide ((many : Int) < (1 + (i : Int)) * 2) = true then 1 else 0) (by split <;> simp)
    refine br_ixL (.of .lst) hv2 ?_
    walk_at "fro"
    refine ⟨_, p, c', n, _, rfl, rfl, hF2, hc', by decide, fun r3 c4 a3 b3 hc4 => ?_⟩
    walk_at "fro"
    refine wlen _ _ rfl ?_
    refine br_intC (by omega) ?_
    walk_at "fro"
    have m1 := Int.emod_nonneg r3 (show ((path ns q).length : Int) ≠ 0 by omega)
    have m2 := Int.emod_lt_of_pos r3 (show (0 : Int) < (path ns q).length by omega)
    obtain ⟨dp, hdp, hdl⟩ := at_four (n := (path ns q).length) s0 s4 (a := (path ns q).length - 1) (b := 0) (c := v2) (d := r3 % (path ns q).length) (by omega) (by omega) ⟨v20, v21⟩ ⟨m1, m2⟩
    refine br_ixL (.of .lst) hdp ?_
    refine bg_name ?_
    have ga := List.getElem?_eq_getElem hdl
    generalize (path ns q)[dp] = a at ga
    have hapq : a ∈ path ns q := List.mem_of_getElem? ga
    have hal : a ∈ path ns (ns.length - 1) := path_trans hapq hq
    obtain ⟨xa, hxa, hxak⟩ := g.way hx hxk hapq
    have tk := path_take ga
    refine bs_seq (bs_asg ?_)
    walk_at "fro"
    have five : ∃ v : Int, atI [D.int 5, D.int 6, D.int 6, D.int 6] sh = some (.int v) ∧ 0 < v ∧ v ≤ 6 := by
      rcases (by omega : sh = 0 ∨ sh = 1 ∨ sh = 2 ∨ sh = 3) with rfl | rfl | rfl | rfl
      · exact ⟨_, rfl, by decide, by decide⟩
      · exact ⟨_, rfl, by decide, by decide⟩
      · exact ⟨_, rfl, by decide, by decide⟩
      · exact ⟨_, rfl, by decide, by decide⟩
    obtain ⟨v5, hv5, v50, v56⟩ := five
    refine br_ixL (.of .lst) hv5 ?_
    walk_at "fro"
    refine ⟨_, p, c4, n, _, rfl, rfl, hF2, hc4, v50, fun r5 c5 a5 b5 hc5 => ?_⟩
    obtain ⟨kd, hkd, _⟩ := at_kind a5 b5 v56
    refine br_ixL (.of .lst) hkd ?_
    refine bg_name ?_
    refine bs_seq (bs_forR1 ?_)
    refine ba_cons (be_op (be_int (be_op (be_int (be_cb (ba_cons (BE.imp (P := fun d M1 => ∃ b c6, d = .bl b ∧ IsPool c6 n ∧ M1 = (w, Cell.lst (natsD (path ns q))) :: (nd, .lst (ns.map Nd.enc)) :: F c6 ∧ (b = true → ns.length + 3 < many)) ?_ ?_)))))))
    · walk_at "fro"
      refine ⟨_, p, c5, n, _, rfl, rfl, hF2, hc5, by decide, fun r6 c6 a6 b6 hc6 => ?_⟩
      walk_at "fro"
      refine ifB (fun _ => ?_) (fun _ => ⟨false, c6, rfl, hc6, rfl, fun h => nomatch h⟩)
      walk_at "fro"
      refine ifB (fun _ => ?_) (fun _ => ⟨false, c6, rfl, hc6, rfl, fun h => nomatch h⟩)
      walk_at "fro"
      refine bc_lenL (.of (.own (n := 1) rfl)) ?_
      rw [List.length_map]
      walk_at "fro"
      exact ⟨_, c6, rfl, hc6, rfl, fun h => by have := of_decide_eq_true h; omega⟩
    rintro _ _ ⟨b, c6, rfl, hc6, rfl, hb⟩
    refine ba_nil (bc_intB (br_timesI (.inl (by decide)) (br_plusI (ba_nil ?_))))
    obtain ⟨t, ht, ht2⟩ : ∃ t : Nat, (1 + 2 * (if b = true then 1 else 0) : Int) = t ∧ (t = 1 ∨ (t = 3 ∧ ns.length + 3 < many)) := by
      cases b with
      | true => exact ⟨3, rfl, .inr ⟨rfl, hb rfl⟩⟩
      | false => exact ⟨1, rfl, .inl rfl⟩
    rw [ht]
    refine ⟨t, rfl, by omega, by omega, ?_⟩
    rw [Int.toNat_natCast]
    refine ⟨fun j ρ' M' => ∃ (ms : List Nd) (c7 : Cell) (o : Option D), Ext ns a kd many j ms ∧ IsPool c7 n ∧
      ρ' = [some (.raw (.ref p)), some (.int many), some (.int sh), some (.lst (levD (r1 - 99))), some (.lst kindsD), some (.raw (.ref nd)), some (.raw (.ref w)), some (.int (1 + (i : Int))), some (.int dp), some (.str kd.str), o] ∧ M' = (w, .lst (natsD (path ns q))) :: (nd, .lst (ms.map Nd.enc)) :: F c7,
      ⟨ns, c6, o4, .start g hm hal, hc6, rfl, rfl⟩, ?_, ?_⟩
    · rintro j ρ' M' hj ⟨ms, c7, o, ex, hc7, rfl, rfl⟩
      refine bg_name ?_
      have exm := ex.most
      refine bs_sub_nx ?_
      refine bs_if ?_
      walk_at "fro"
      refine bc_lenL (.of (.own (n := 1) rfl)) ?_
      rw [List.length_map]
      walk_at "fro"
      refine ifP (fun hh => ?_) (fun hh => ?_)
      · refine bs_drop ?_
        refine be_bm ?_
        walk_at "fro"
        refine ⟨ty_list (.of (.own (n := 1) rfl)), ?_⟩
        walk_at "fro"
        refine br_ixL (.of (.own (n := 0) rfl)) (atI_nn (natsD_get ga)) ?_
        walk_at "fro"
        refine bsl_L (.of .lst) fun l1 hl1 => ?_
        have ecut : Pv.cutD (levD (r1 - 99)) (some 1) (some 2) = [.int 1] := rfl
        rw [ecut]
        walk_at "fro"
        refine br_timesL (.own (n := 0) rfl) ⟨by decide, by decide⟩ (by decide) fun l2 hl2 => ?_
        walk_at "fro"
        have ej : (0 + (j : Int)).toNat = j := by omega
        refine br_timesL (.own (n := 0) rfl) ⟨by omega, by omega⟩ (by rw [ej]; exact line_of (show 2 * j ≤ 100000 by omega)) fun l3 hl3 => ?_
        rw [ej]
        walk_at "fro"
        refine br_plusL (.own (n := 0) rfl) .lst (by rw [List.length_flatten, List.map_replicate, List.sum_replicate_nat]; exact line_of (show j * 2 + 6 ≤ 100000 by omega)) fun l4 hl4 => ?_
        rw [more_map]
        walk_at "fro"
        refine ⟨_, p, c7, n, _, _, rfl, rfl, hF.cons.cons.cons.cons.cons.cons, hc7, fun _ => .of (.own (n := 0) rfl), by rw [List.length_append]; show 0 < _ + 6; omega, fun z c8 _ hc8 => ?_⟩
        walk_at "fro"
        refine bm_append (n := 5) rfl (by rw [List.length_map]; exact line_lt (by omega)) ?_
        refine ⟨(w, .lst (natsD (path ns q))) :: (nd, .lst ((ms ++ [Nd.mk (some a) kd z]).map Nd.enc)) :: F c8, ?_, _, c8, _, ex.more (by omega) hxa hxak (by omega), hc8, rfl, rfl⟩
        rw [List.map_append]
        exact .cons _ (.cons _ (.cons _ (.cons _ (List.Sublist.refl _))))
      · refine bs_next ?_
        have hms : many ≤ ms.length := by omega
        cases j with
        | zero =>
          have := ex.len
          omega
        | succ j => exact ⟨_, List.Sublist.refl _, ms, c7, _, ex.full, hc7, rfl, rfl⟩
    · rintro ρ' M' ⟨ms, c7, o, ex, hc7, rfl, rfl⟩
      have exm := ex.most
      obtain ⟨new1, new2, y, hy, hyk⟩ := ex.new (by omega) hlt
      have pa : path ms a = path ns a := ex.pre a (List.getElem?_eq_some_iff.mp hxa).1
      refine bs_seq (bs_asg (be_sub ?_))
      walk_at "fro"
      refine bsl_L (.of (.own (n := 0) rfl)) fun w2 hw2 => ?_
      have ed : (dp : Int) + 1 = ((dp + 1 : Nat) : Int) := by omega
      have ecut : Pv.cutD (natsD (path ns q)) none (some ((dp : Int) + 1)) = natsD (path ns a) := by
        rw [ed, cut_take (by rw [natsD_len]; omega)]
        unfold natsD
        rw [← List.map_take, tk]
      rw [ecut]
      refine ⟨(w2, .lst (natsD (path ns a))) :: (nd, .lst (ms.map Nd.enc)) :: F c7, .cons₂ _ (.cons _ (List.Sublist.refl _)), ?_⟩
      refine bg_name ?_
      -- the last step of a turn
      have last : ∀ q2 : Nat, (∃ x, ms[q2]? = some x ∧ x.kind ≠ .text) → q2 ∈ path ms (ms.length - 1) → BS K E (tIfS (tTest (tOp (rI0 fun i j => .bl (decide (j ≤ i))) (tCB (rLenP K) (tCons (tVar 5) tNil)) (tVar 1))) tBreak tNext)
          [some (.raw (.ref p)), some (.int many), some (.int sh), some (.lst (levD (r1 - 99))), some (.lst kindsD), some (.raw (.ref nd)), some (.raw (.ref w2)), some (.int (1 + (i : Int))), some (.int dp), some (.str kd.str), o] ((w2, .lst (natsD (path ms q2))) :: (nd, .lst (ms.map Nd.enc)) :: F c7)
          { nx := fun ρ' M' => ∃ (ns : List Nd) (q : Nat) (w : Addr) (c' : Cell) (o1 o2 o3 o4 : Option D), Hd ns q many (i + 1) ∧ IsPool c' n ∧
    ρ' = [some (.raw (.ref p)), some (.int many), some (.int sh), some (.lst (levD (r1 - 99))), some (.lst kindsD), some (.raw (.ref nd)), some (.raw (.ref w)), o1, o2, o3, o4] ∧ M' = (w, .lst (natsD (path ns q))) :: (nd, .lst (ns.map Nd.enc)) :: F c', rt := P, bk := fun ρ' M' => BS K E (tRet (tVar 5)) ρ' M' { nx := fun _ M' => P .non M', rt := P } } := fun q2 hk2 hm2 => by
        walk_at "all"
        refine bc_lenL (.of (.own (n := 1) rfl)) ?_
        rw [List.length_map]
        walk_at "all"
        refine ifP (fun hh => ?_) (fun hh => ?_)
        · refine bs_brk ?_
          exact fin ms w2 _ c7 _ _ _ _ ex.good (by omega) hc7
        · refine bs_next ?_
          exact ⟨ms, q2, w2, c7, _, _, _, _, ⟨ex.good, by omega, exm, .inr (by omega), hk2, hm2⟩, hc7, rfl, rfl⟩
      refine bs_seq (bs_if ?_)
      walk_at "fro"
      refine ifNP (fun hh => ?_) (fun hh => ?_)
      · refine bs_drop ?_
        refine be_bm ?_
        walk_at "fro"
        refine ⟨ty_list (.of (.own (n := 0) rfl)), ?_⟩
        walk_at "fro"
        refine bc_lenL (.of (.own (n := 1) rfl)) ?_
        rw [List.length_map]
        walk_at "fro"
        refine bm_append (n := 0) rfl (by rw [natsD_len]; have := path_len (ns := ns) (i := a); have := (List.getElem?_eq_some_iff.mp hxa).1; exact line_lt (by omega)) ?_
        have el : (ms.length : Int) - 1 = ((ms.length - 1 : Nat) : Int) := by omega
        have e8 : natsD (path ns a) ++ [.int ((ms.length : Int) - 1)] = natsD (path ms (ms.length - 1)) := by
          rw [new2, pa, natsD_append, el]
          rfl
        rw [e8]
        refine bs_imp (last (ms.length - 1) ⟨y, hy, ?_⟩ (mem_path_self _ _)) (fun _ _ h => h) (fun _ _ h => h) (fun _ _ h => h) (fun _ _ h => h.elim) (fun _ _ h => h.elim)
        rw [hyk]
        intro z
        exact hh (by rw [z]; rfl)
      · refine bs_next ?_
        have e8 : natsD (path ns a) = natsD (path ms a) := by rw [pa]
        rw [e8]
        refine bs_imp (last a ⟨xa, ex.old _ _ hxa, hxak⟩ ?_) (fun _ _ h => h) (fun _ _ h => h) (fun _ _ h => h) (fun _ _ h => h.elim) (fun _ _ h => h.elim)
        rw [new2]
        exact List.mem_append_left _ (mem_path_self _ _)
  · rintro ρ' M' ⟨ns, q, w, c', o1, o2, o3, o4, hd, hc', rfl, rfl⟩
    obtain ⟨g, hl, hm, hroom, _, _⟩ := hd
    exact fin ns w _ c' _ _ _ _ g (by omega) hc'
end
end K62

namespace K62
open PySem PySem.Spec PyProof.Rows L2 Evl Pv
local macro_rules | `(tactic| walk_at "bx") => `(tactic| first
  | (with_reducible refine be_var (by with_unfolding_all exact rfl) ?_)
  | with_reducible refine be_int ?_
  | with_reducible refine be_str ?_
  | with_reducible refine ba_cons ?_
  | with_reducible refine ba_nil ?_
  | with_reducible refine be_cb ?_
  | with_reducible refine be_call ?_
  | with_reducible refine be_op ?_
  | with_reducible refine br_plusI ?_
  | with_reducible refine br_int ?_
  | with_reducible refine br_bl ?_
  | with_reducible refine br_eqI ?_
  | with_reducible refine br_neI ?_
  | with_reducible refine br_eqS ?_
  | with_reducible refine br_neS ?_
  | with_reducible refine br_eqB ?_
  | with_reducible refine br_neB ?_
  | with_reducible refine br_isN ?_
  | with_reducible refine br_notN ?_
  | with_reducible refine bc_int ?_
  | with_reducible refine bc_intB ?_
  | with_reducible refine bc_lenT ?_
  | with_reducible refine be_bl ?_
  | with_reducible refine be_non ?_
  | with_reducible refine be_ty ?_
  | with_reducible refine be_un ?_
  | with_reducible refine bu_int ?_
  | with_reducible refine be_ref ?_
  | with_reducible refine bt_test ?_
  | with_reducible refine bt_B ?_
  | with_reducible refine bt_not ?_
  | with_reducible refine bt_and ?_
  | with_reducible refine bt_or ?_
  | with_reducible refine ex_bl ?_
  | with_reducible refine ex_int ?_
  | with_reducible refine be_andV ?_
  | with_reducible refine be_orV ?_
  | with_reducible refine be_notV ?_
  | with_reducible refine be_if ?_
  | with_reducible refine be_chain ?_
  | with_reducible refine be_sl ?_
  | with_reducible refine bo_none ?_
  | with_reducible refine bo_some ?_
  | with_reducible refine be_tup ?_
  | with_reducible refine bt_tru ?_)
local macro_rules | `(tactic| walk_at "bs") => `(tactic| first
  | with_reducible refine bs_seq ?_
  | with_reducible refine bs_asg ?_
  | with_reducible refine bs_drop ?_
  | with_reducible refine bs_ret ?_
  | with_reducible refine bs_if ?_
  | with_reducible refine bs_next ?_
  | with_reducible refine bs_brk ?_
  | with_reducible refine bs_cont ?_
  | with_reducible refine bg_name ?_
  | with_reducible refine bs_retN ?_)
local macro_rules | `(tactic| walk_at "go") => `(tactic| repeat (first | walk_at "bx" | walk_at "bs"))
local macro_rules | `(tactic| walk_at "sub") => `(tactic| first | exact List.Sublist.refl _ | (refine List.Sublist.cons₂ _ ?_; walk_at "sub") | (refine List.Sublist.cons _ ?_; walk_at "sub"))
local macro_rules | `(tactic| walk_at "it") => `(tactic| first
  | with_reducible refine ifT ?_
  | with_reducible refine ifF ?_
  | with_reducible refine ifNT ?_
  | with_reducible refine ifNF ?_
  | with_reducible refine ifNF ?_)
local macro_rules | `(tactic| walk_at "len") => `(tactic| with_reducible refine And.intro (show List.length _ ≤ sizeLine from Nat.le_of_ble_eq_true (by with_unfolding_all rfl)) ?_)
local macro_rules | `(tactic| walk_at "all") => `(tactic| repeat (first | walk_at "bx" | walk_at "bs" | walk_at "it"))
local macro_rules | `(tactic| walk_at "fro") => `(tactic| repeat (first | walk_at "bx" | walk_at "it" | walk_at "len" | with_reducible refine be_lstF ?_ | with_reducible refine be_dnewF ?_ | with_reducible refine br_plusS (by decide) ?_))

section
variable {K : PySem.W.Frag} {E : XK} {ds : List D} {M : Own} {P : KD} {C : Cs} {ρ : Pv.Env}
/-! ### law -/
theorem zero_path {ns : List Nd} (g : GoodN ns) : ∀ {i : Nat}, i < ns.length → 0 ∈ path ns i := by
  intro i
  induction i using Nat.strongRecOn with
  | _ i ih =>
    intro hi
    rcases path_up g (List.getElem?_eq_getElem hi) with ⟨h1, h2⟩ | ⟨p, h1, h2, h3⟩
    · cases i with
      | zero => exact mem_path_self _ _
      | succ i =>
        obtain ⟨p, _, e, _⟩ := g.succ i _ (List.getElem?_eq_getElem hi)
        rw [h1] at e
        cases e
    · have hp : parOf ns i = some p := by
        unfold parOf
        rw [List.getElem?_eq_getElem hi]
        exact h1
      rw [h3]
      exact List.mem_append_left _ (ih p (g.par hp).1 h2)
theorem opn_mem {ns : List Nd} {a k : Nat} (h : a ∈ opn ns k) : 0 < k ∧ a ∈ path ns (k - 1) ∧ nt ns a = true := by
  unfold opn at h
  split at h
  · cases h
  · obtain ⟨h1, h2⟩ := List.mem_filter.mp h
    exact ⟨by omega, List.mem_reverse.mp h1, h2⟩
theorem opn_ne {ns : List Nd} (g : GoodN ns) (hn : 0 < ns.length) : 0 < (opn ns ns.length).length := by
  refine List.length_pos_of_mem (a := 0) ?_
  unfold opn
  rw [if_neg (by omega)]
  have h0 := List.getElem?_eq_getElem hn
  refine List.mem_filter.mpr ⟨List.mem_reverse.mpr (zero_path g (by omega)), ?_⟩
  unfold nt
  rw [kdOf_at h0, kd_text (g.zero _ h0).2]
  rfl
theorem pl_nats (os : List Nat) : pl 1 (.lst (natsD os)) := fun d m => by
  obtain ⟨k, _, rfl⟩ := List.mem_map.mp m
  exact True.intro
theorem sum_one {f : D → Nat} : ∀ {l : List D} {b : Nat}, (∀ d ∈ l, f d ≤ b) → (l.map f).sum ≤ b * l.length
  | [], b, _ => Nat.zero_le _
  | d :: l, b, h => by
    have h1 := h d List.mem_cons_self
    have h2 := sum_one (l := l) fun x m => h x (List.mem_cons_of_mem _ m)
    rw [List.map_cons, List.sum_cons, List.length_cons, Nat.mul_add]
    omega
theorem sz_nats (os : List Nat) : sz 1 (.lst (natsD os)) ≤ 1 + os.length := by
  have h : ((natsD os).map (sz 0)).sum ≤ 1 * (natsD os).length := sum_one fun d m => by
    obtain ⟨k, _, rfl⟩ := List.mem_map.mp m
    exact Nat.le_refl _
  rw [natsD_len] at h
  show 1 + ((natsD os).map (sz 0)).sum ≤ _
  omega
theorem kd_ok (kd : Kd) : PyData.canLay0 (.str kd.str) = true := by
  rw [PyData.canLay0]
  cases kd <;> decide +kernel
theorem pl_enc (x : Nd) : pl 1 x.enc := fun d m => by
  simp only [List.mem_cons, List.not_mem_nil, or_false] at m
  rcases m with rfl | rfl | rfl
  · cases x.par <;> exact True.intro
  · exact kd_ok _
  · exact True.intro
theorem pl_nodes (ns : List Nd) : pl 2 (.lst (ns.map Nd.enc)) := fun d m => by
  obtain ⟨x, _, rfl⟩ := List.mem_map.mp m
  exact pl_enc x
theorem sz_enc (x : Nd) : sz 1 x.enc ≤ 4 := by
  show 1 + (sz 0 (encP x.par) + (1 + (1 + 0))) ≤ 4
  have : sz 0 (encP x.par) ≤ 1 := by cases x.par <;> exact Nat.le_refl _
  omega
theorem sz_nodes (ns : List Nd) : sz 2 (.lst (ns.map Nd.enc)) ≤ 1 + 4 * ns.length := by
  have h : ((ns.map Nd.enc).map (sz 1)).sum ≤ 4 * (ns.map Nd.enc).length := sum_one fun d m => by
    obtain ⟨x, _, rfl⟩ := List.mem_map.mp m
    exact sz_enc x
  rw [List.length_map] at h
  show 1 + ((ns.map Nd.enc).map (sz 1)).sum ≤ _
  omega
theorem goodNil : GoodN [] := ⟨fun x e => (nomatch e), fun i x e => (nomatch e)⟩
theorem ordNil : ordOf [] = [] := List.eq_nil_of_length_eq_zero (ord_len [])
def pre_law : List D → Own → KD → Prop := fun ds M P => ∃ ns : List Int, ds = [.fls (ns.map D.int)] ∧ ns.length ≤ 63 ∧ ∀ M', P (.bl true) M'
def t_law (K : PySem.W.Frag) (C : Cs) : TS := (tSeq (tAsg (tCall (spB K (pre_longer)) [] E0 (tCons (tCall (spB K (pre_stream)) [] E0 (tCons (tVar 0) tNil)) (tCons (tC (.int 400)) tNil))) (gName 1))
  (tSeq (tPar 2 3 (tCons (tCall (spB K (pre_pick)) [] E0 (tCons (tVar 1) (tCons (tC (.int 12)) tNil))) (tCons (tCall (spB K (pre_pick)) [] E0 (tCons (tVar 1) (tCons (tC (.int 4)) tNil))) tNil)))
  (tSeq (tAsg (tOp (rPlus K) (tC (.int 1)) (tCall (spB K (pre_pick)) [] E0 (tCons (tVar 1) (tCons (tC (.int 24)) tNil)))) (gName 4))
  (tSeq (tIfS (tTest (tOp (rI0 fun i j => .bl (decide (i < j))) (tVar 2) (tC (.int 2)))) (tAsg (tOp (rPlus K) (tC (.int 60)) (tCB rInt1 (tCons (tCall (spB K (pre_far)) [] E0 (tCons (tVar 1) (tCons (tC (.int 140)) tNil))) tNil))) (gName 4)) tNext)
  (tSeq (tIfS (tTest (tOp rEq (tVar 2) (tC (.int 2)))) (tPar 4 3 (tCons (tC (.int 1000)) (tCons (tCall (spB K (pre_pick)) [] E0 (tCons (tVar 1) (tCons (tC (.int 3)) tNil))) tNil))) tNext)
  (tSeq (tDrop (tCall (spB K (pre_longer)) [] E0 (tCons (tVar 1) (tCons (tOp rTimes (tC (.int 3)) (tVar 4)) tNil))))
  (tSeq (tAsg (tCall (spB K (pre_list)) [] E0 (tCons (tVar 1) (tCons (tVar 4) (tCons (tVar 3) tNil)))) (gName 5))
  (tSeq (tAsg (tLc (iList K (tVar 5)) (gName 10) tYes (tVar 10) [10]) (gName 6))
  (tSeq (tAsg (tCall (spX K (pre_painting_order C)) [] E0 (tCons (tVar 6) tNil)) (gName 7))
  (tSeq (tIfS (tOr (tNot (tB (tCall (spB K (pre_is_order)) [] E0 (tCons (tVar 5) (tCons (tVar 7) tNil))))) (tNot (tB (tCall (spB K (pre_same)) [] E0 (tCons (tVar 6) (tCons (tVar 5) tNil)))))) (tRet (tC (.bl false))) tNext)
  (tSeq (tAsg (tCB (rTupP K) (tCons (tVar 7) tNil)) (gName 8))
  (tSeq (tDrop (tBM0 K "list" rReverse (tVar 7)))
  (tSeq (tDrop (tBM K "list" rAppend (tVar 7) (tCons (tC (.int 0)) tNil)))
  (tSeq (tIfS (tOr (tNot (tB (tCall (spB K (pre_same)) [] E0 (tCons (tCall (spX K (pre_painting_order C)) [] E0 (tCons (tVar 5) tNil)) (tCons (tCB (rListP K) (tCons (tVar 8) tNil)) tNil))))) (tNot (tB (tCall (spB K (pre_same)) [] E0 (tCons (tCall (spX K (pre_painting_order C)) [] E0 (tCons (tLst tNil) tNil)) (tCons (tLst tNil) tNil)))))) (tRet (tC (.bl false))) tNext)
  (tSeq (tIfS (tAnd (tTest (tOp rEq (tVar 4) (tC (.int 1000)))) (tNot (tB (tCall (spB K (pre_is_refused)) [] E0 (tCons (tOp (rPlus K) (tVar 5) (tLst (tCons (tTup (tCons (tC (.int 0)) (tCons (tC (.str ("block" : Str))) (tCons (tC (.int 0)) tNil)))) tNil))) tNil))))) (tRet (tC (.bl false))) tNext)
  (tSeq (tIfS (tTest (tOp (rI0 fun i j => .bl (decide (i < j))) (tVar 4) (tC (.int 1000)))) (tSeq (tAsg (tOp (rPlus K) (tVar 5) (tLst (tCons (tTup (tCons (tOp (rIx K) (tCall (spB K (pre_opened)) [] E0 (tCons (tVar 5) (tCons (tVar 4) tNil))) (tOp rTimes (tUn (rU fun i => .int (-i)) (tC (.int 1))) (tCall (spB K (pre_pick)) [] E0 (tCons (tVar 1) (tCons (tC (.int 2)) tNil))))) (tCons (tC (.str ("over" : Str))) (tCons (tUn (rU fun i => .int (-i)) (tC (.int 5))) tNil)))) tNil))) (gName 9))
  (tIfS (tNot (tB (tCall (spB K (pre_is_order)) [] E0 (tCons (tVar 9) (tCons (tCall (spX K (pre_painting_order C)) [] E0 (tCons (tVar 9) tNil)) tNil))))) (tRet (tC (.bl false))) tNext)) tNext)
  (tRet (tCB (rAll K) (tCons (tLc (iRng1 (tCons (tC (.int 8)) tNil)) (gName 11) tYes (tCall (spB K (pre_is_refused)) [] E0 (tCons (tCall (spB K (pre_bent)) [] E0 (tCons (tVar 1) (tCons (tVar 5) tNil))) tNil)) [11]) tNil)))))))))))))))))))
theorem len_law (h : pre_law ds M P) : ds.length = 1 := by
  obtain ⟨ns, rfl, _⟩ := h
  rfl
theorem bs_law (h : pre_law ds M P) : BS K E (t_law K C) (startE 12 ds) M { nx := fun _ M' => P .non M', rt := P } := by
  obtain ⟨is, rfl, hil, k⟩ := h
  unfold t_law
  walk_at "all"
  refine ⟨is, rfl, hil, fun p c0 n0 hp hc0 hn0 => ?_⟩
  walk_at "all"
  refine ⟨fun c => (p, c) :: M, p, c0, n0, 400, rfl, rfl, .head, hc0, by omega, fun c1 hc1 => ?_⟩
  generalize hn1 : n0 + 400 = n1 at hc1
  walk_at "all"
  refine bs_par ?_
  walk_at "all"
  refine ⟨fun c => (p, c) :: M, p, c1, n1, _, rfl, rfl, .head, hc1, by decide, fun size c2 a2 b2 hc2 => ?_⟩
  walk_at "all"
  refine ⟨fun c => (p, c) :: M, p, c2, n1, _, rfl, rfl, .head, hc2, by decide, fun sh0 c3 a3 b3 hc3 => ?_⟩
  walk_at "all"
  refine ⟨_, _, rfl, ?_⟩
  walk_at "all"
  refine ⟨fun c => (p, c) :: M, p, c3, n1, _, rfl, rfl, .head, hc3, by decide, fun r c4 a4 b4 hc4 => ?_⟩
  refine br_plusI (bg_name ?_)
  obtain ⟨m0, hm0⟩ : ∃ m : Nat, 1 + r = (m : Int) := ⟨(1 + r).toNat, by omega⟩
  rw [hm0]
  -- how many, of which shape
  refine bs_mid (A' := { nx := fun ρ' M' => ∃ (m : Nat) (c' : Cell), ρ' = [some (.fls (is.map D.int)), some (.raw (.ref p)), some (.int size), some (.int sh0), some (.int m), none, none, none, none, none, none, none] ∧ M' = (p, c') :: M ∧ IsPool c' n1 ∧ 0 < m ∧ m < 1000, rt := fun _ _ => False }) ?_ ?_ (fun _ _ h => h.elim) (fun _ _ h => h.elim) (fun _ _ h => h.elim) (fun _ _ h => h.elim)
  · refine bs_if ?_
    walk_at "all"
    refine ifP (fun hh => ?_) (fun hh => ?_)
    · refine bs_asg ?_
      walk_at "all"
      refine ⟨fun c => (p, c) :: M, p, c4, n1, _, rfl, rfl, .head, hc4, by decide, fun r5 c5 a5 b5 hc5 => ?_⟩
      walk_at "all"
      obtain ⟨m5, hm5⟩ : ∃ m : Nat, 60 + r5 = (m : Int) := ⟨(60 + r5).toNat, by omega⟩
      rw [hm5]
      exact ⟨m5, c5, rfl, rfl, hc5, by omega, by omega⟩
    · exact bs_next ⟨m0, c4, rfl, rfl, hc4, by omega, by omega⟩
  rintro ρ' M' ⟨m1, c5, rfl, rfl, hc5, hm1, hm2⟩
  refine bs_mid (A' := { nx := fun ρ' M' => ∃ (m : Nat) (sh : Int) (c' : Cell), ρ' = [some (.fls (is.map D.int)), some (.raw (.ref p)), some (.int size), some (.int sh), some (.int m), none, none, none, none, none, none, none] ∧ M' = (p, c') :: M ∧ IsPool c' n1 ∧ 0 < m ∧ m ≤ 1000 ∧ 0 ≤ sh ∧ sh < 4, rt := fun _ _ => False }) ?_ ?_ (fun _ _ h => h.elim) (fun _ _ h => h.elim) (fun _ _ h => h.elim) (fun _ _ h => h.elim)
  · refine bs_if ?_
    walk_at "all"
    refine ifP (fun hh => ?_) (fun hh => ?_)
    · refine bs_par ?_
      walk_at "all"
      refine ⟨fun c => (p, c) :: M, p, c5, n1, _, rfl, rfl, .head, hc5, by decide, fun r6 c6 a6 b6 hc6 => ?_⟩
      walk_at "all"
      exact ⟨_, _, rfl, 1000, r6, c6, rfl, rfl, hc6, by decide, by decide, a6, by omega⟩
    · exact bs_next ⟨m1, sh0, c5, rfl, rfl, hc5, by omega, by omega, a3, b3⟩
  rintro ρ' M' ⟨m, sh, c6, rfl, rfl, hc6, hmp, hml, s0, s4⟩
  refine bs_seq (bs_drop ?_)
  walk_at "all"
  refine br_timesI (.inl (by decide)) ?_
  walk_at "all"
  have e3 : (3 : Int) * (m : Int) = ((3 * m : Nat) : Int) := by omega
  rw [e3]
  refine ⟨fun c => (p, c) :: M, p, c6, n1, 3 * m, rfl, rfl, .head, hc6, by omega, fun c7 hc7 => ?_⟩
  generalize hn2 : n1 + 3 * m = n2 at hc7
  refine bs_seq (bs_asg (be_fz ?_))
  walk_at "all"
  refine ⟨fun c => (p, c) :: M, p, c7, n2, m, sh, rfl, rfl, .head, hc7, hmp, hml, s0, s4, fun nd ns c8 hnd g hlen hc8 => ?_⟩
  refine ⟨nd, _, 0, (p, c8) :: M, rfl, rfl, List.Sublist.refl _, ?_⟩
  refine bg_name ?_
  -- handed
  refine bs_seq (bs_asg (be_fz ?_))
  refine be_lcL ?_
  walk_at "all"
  refine lcL_map (fun i => ((ns.map Nd.enc)[i]?).getD .non) (.of .lst) (by rw [List.length_map]; exact line_of (by omega)) (fun i x Dl acc hx => ?_) fun q hq => ?_
  · refine ⟨_, ct_name (by decide), ?_⟩
    walk_at "all"
    exact ⟨by rw [hx]; rfl, rfl⟩
  rw [range_map_get (xs := ns.map Nd.enc) fun i x hx => by rw [hx]; rfl]
  refine ⟨q, _, 0, (p, c8) :: M, rfl, rfl, List.Sublist.refl _, ?_⟩
  refine bg_name ?_
  refine bs_seq (bs_asg ?_)
  refine be_callC ?_
  walk_at "all"
  refine ⟨_, rfl, .inl ⟨ns, rfl, g, by omega, fun td htd => ?_⟩⟩
  refine bg_name ?_
  refine bs_seq (bs_if ?_)
  walk_at "all"
  refine ⟨ns, _, rfl, g, by omega, by omega, .own (n := 0) rfl, ?_⟩
  walk_at "all"
  refine ⟨_, 2, rfl, pl_nodes ns, by decide, by have := sz_nodes ns; omega, ?_⟩
  walk_at "all"
  refine bc_tuple (.inr (.of (.own (n := 0) rfl))) ?_
  walk_at "all"
  refine be_bm0 ?_
  walk_at "all"
  refine ⟨ty_list (.of (.own (n := 0) rfl)), ?_⟩
  refine bm_reverse (n := 0) rfl ?_
  walk_at "all"
  refine be_bm ?_
  walk_at "all"
  refine ⟨ty_list (.of (.own (n := 0) rfl)), ?_⟩
  walk_at "all"
  have lo : (ordOf ns).length ≤ 1000 := by rw [ord_len]; omega
  refine bm_append (n := 0) rfl (by rw [List.length_reverse, List.length_map]; exact line_lt (by omega)) ?_
  generalize (List.map (fun (k : Nat) => D.int ↑k) (ordOf ns)).reverse ++ [D.int 0] = tl
  refine bs_seq (bs_if (bt_or (bt_not (bt_B (be_call (ba_cons (be_fz (be_callC ?_))))))))
  walk_at "all"
  refine ⟨_, rfl, .inl ⟨ns, rfl, g, by omega, fun t1 ht1 => ⟨t1, _, 0, (td, Cell.lst tl) :: (p, c8) :: M, rfl, rfl, List.Sublist.refl _, ?_⟩⟩⟩
  refine ba_cons (be_fz ?_)
  walk_at "all"
  refine bc_list (.inl rfl) fun t2 ht2 => ⟨t2, _, 0, (td, Cell.lst tl) :: (p, c8) :: M, rfl, rfl, List.Sublist.refl _, ?_⟩
  walk_at "all"
  refine ⟨_, 1, rfl, pl_nats _, by decide, Nat.le_trans (sz_nats (ordOf ns)) (by omega), ?_⟩
  refine ⟨true, rfl, ?_⟩
  refine ifNT ?_
  refine bt_not (bt_B (be_call (ba_cons (be_fz (be_callC ?_)))))
  walk_at "all"
  refine be_lstF ?_
  walk_at "all"
  refine ⟨by decide, ?_⟩
  walk_at "all"
  refine ⟨_, rfl, .inl ⟨[], rfl, goodNil, Nat.zero_le _, fun t3 ht3 => ⟨t3, _, 0, (td, Cell.lst tl) :: (p, c8) :: M, rfl, rfl, List.Sublist.refl _, ?_⟩⟩⟩
  rw [ordNil]
  refine ba_cons (be_lstF ?_)
  walk_at "all"
  refine ⟨by decide, ?_⟩
  walk_at "all"
  refine ⟨.lst [], 1, rfl, fun d m => (nomatch m), by decide, by show 1 + 0 ≤ 50000; decide, ?_⟩
  refine ⟨true, rfl, ?_⟩
  refine ifNT ?_
  refine bs_next ?_
  -- a thousand
  have room : ∀ xs : List D, xs.length ≤ 100 → (ns.map Nd.enc).length + xs.length ≤ sizeLine := fun xs hxs => by
    rw [List.length_map]
    exact line_of (by omega)
  refine bs_mid (A' := { nx := fun ρ' M' => ρ' = [some (.fls (is.map D.int)), some (.raw (.ref p)), some (.int size), some (.int sh), some (.int m), some (.lst (ns.map Nd.enc)), some (.lst (ns.map Nd.enc)), some (.raw (.ref td)), some (.tup (natsD (ordOf ns))), none, none, none] ∧ M' = (td, Cell.lst tl) :: (p, c8) :: M, rt := fun _ _ => False }) ?_ ?_ (fun _ _ h => h.elim) (fun _ _ h => h.elim) (fun _ _ h => h.elim) (fun _ _ h => h.elim)
  · refine bs_if ?_
    walk_at "all"
    refine ifP (fun hh => ?_) (fun hh => ?_)
    · refine bt_not (bt_B (be_call (ba_cons (be_fz ?_))))
      walk_at "fro"
      refine br_plusL .lst .lst (room _ (by show 1 ≤ 100; decide)) fun t4 ht4 => ⟨t4, _, 0, (td, Cell.lst tl) :: (p, c8) :: M, rfl, rfl, List.Sublist.refl _, ?_⟩
      walk_at "all"
      refine ⟨_, rfl, .long (by rw [List.length_append, List.length_map]; show 1000 < _ + 1; omega) (by rw [List.length_append, List.length_map]; show _ + 1 ≤ 100000; omega), ?_⟩
      walk_at "all"
      exact ⟨rfl, rfl⟩
    · walk_at "all"
      exact ⟨rfl, rfl⟩
  rintro ρ' M' ⟨rfl, rfl⟩
  -- one more
  refine bs_mid (A' := { nx := fun ρ' M' => ∃ (o : Option D) (c' : Cell), IsPool c' n2 ∧ ρ' = [some (.fls (is.map D.int)), some (.raw (.ref p)), some (.int size), some (.int sh), some (.int m), some (.lst (ns.map Nd.enc)), some (.lst (ns.map Nd.enc)), some (.raw (.ref td)), some (.tup (natsD (ordOf ns))), o, none, none] ∧ ∃ tl, M' = (td, Cell.lst tl) :: (p, c') :: M, rt := fun _ _ => False }) ?_ ?_ (fun _ _ h => h.elim) (fun _ _ h => h.elim) (fun _ _ h => h.elim) (fun _ _ h => h.elim)
  · refine bs_if ?_
    walk_at "bx"
    walk_at "fro"
    refine ifP (fun hh => ?_) (fun hh => ?_)
    · refine bs_seq (bs_asg (be_fz ?_))
      walk_at "fro"
      refine ⟨ns, m, rfl, g, by omega, by omega, fun po hpo => ?_⟩
      walk_at "fro"
      refine ⟨fun c => (po, Cell.lst (natsD (opn ns m))) :: (td, Cell.lst tl) :: (p, c) :: M, p, c8, n2, _, rfl, rfl, .cons (.cons .head), hc8, by decide, fun r9 c9 a9 b9 hc9 => ?_⟩
      refine br_timesI (.inl (by decide)) ?_
      have ne := opn_ne g (by omega)
      rw [hlen] at ne
      obtain ⟨a, ha, hat⟩ : ∃ a, a ∈ opn ns m ∧ atI (natsD (opn ns m)) (-1 * r9) = some (.int (a : Nat)) := by
        rcases (by omega : r9 = 0 ∨ r9 = 1) with rfl | rfl
        · have h0 := List.getElem?_eq_getElem ne
          exact ⟨_, List.getElem_mem ne, atI_nn (n := 0) (natsD_get h0)⟩
        · have hl1 : (opn ns m).length - 1 < (opn ns m).length := by omega
          have h0 := List.getElem?_eq_getElem hl1
          refine ⟨_, List.getElem_mem hl1, atI_neg (by decide) (by rw [natsD_len]; omega) ?_⟩
          rw [natsD_len]
          have : ((-1 : Int) * 1 + ((opn ns m).length : Int)).toNat = (opn ns m).length - 1 := by omega
          rw [this]
          exact natsD_get h0
      obtain ⟨o1, o2, o3⟩ := opn_mem ha
      have han : a < ns.length := by
        have := mem_path_le o2
        omega
      have gxa := List.getElem?_eq_getElem han
      have gw : GoodN (ns ++ [⟨some a, .over, -5⟩]) := by
        refine g.add (by omega) gxa ?_ (by rw [hlen]; exact o2) rfl
        intro z
        unfold nt at o3
        rw [kdOf_at gxa, z] at o3
        cases o3
      refine br_ixL (.of (.own (n := 0) rfl)) hat ?_
      walk_at "fro"
      refine br_plusL .lst .lst (room _ (by show 1 ≤ 100; decide)) fun t5 ht5 => ⟨t5, _, 0, (td, Cell.lst tl) :: (p, c9) :: M, rfl, rfl, .cons _ (List.Sublist.refl _), ?_⟩
      refine bg_name ?_
      have ew : (ns.map Nd.enc) ++ [D.tup [.int (a : Nat), .str ("over" : Str), .int (-5)]] = (ns ++ [Nd.mk (some a) .over (-5)]).map Nd.enc := by
        rw [List.map_append]
        rfl
      rw [ew]
      refine bs_if ?_
      refine bt_not (bt_B (be_call (ba_cons ?_)))
      walk_at "all"
      refine be_callC ?_
      walk_at "all"
      refine ⟨_, rfl, .inl ⟨_, rfl, gw, by rw [List.length_append, hlen]; show m + 1 ≤ 1000; omega, fun t6 ht6 => ?_⟩⟩
      walk_at "all"
      refine ⟨_, _, rfl, gw, by rw [List.length_append]; omega, by rw [List.length_append, hlen]; show m + 1 ≤ 1000; omega, .own (n := 0) rfl, ?_⟩
      refine ⟨true, rfl, ?_⟩
      refine ifNT ?_
      refine bs_sub (M' := (td, Cell.lst tl) :: (p, c9) :: M) (List.sublist_cons_self _ _) ?_
      exact bs_next ⟨_, c9, hc9, rfl, tl, rfl⟩
    · exact bs_next ⟨_, c8, hc8, rfl, tl, rfl⟩
  rintro ρ' M' ⟨o, c9, hc9, rfl, tl2, rfl⟩
  -- eight that are refused
  refine bs_ret ?_
  refine be_cb (ba_cons (be_lcR1 ?_))
  walk_at "all"
  refine ⟨_, rfl, by decide, by decide, ?_⟩
  refine ⟨fun i acc M' => acc = (List.replicate i true).map D.bl ∧ ∃ c', IsPool c' n2 ∧ M' = (td, Cell.lst tl2) :: (p, c') :: M, ⟨rfl, c9, hc9, rfl⟩, ?_, ?_⟩
  · rintro i acc M' Dl hi ⟨rfl, c', hc', rfl⟩ hD
    refine cstep0 (ct_name (by decide)) ?_
    walk_at "all"
    refine ⟨fun c => (Dl, Cell.lst ((List.replicate i true).map D.bl)) :: (td, Cell.lst tl2) :: (p, c) :: M, p, c', n2, ns, rfl, rfl, .cons (.cons .head), hc', g, by omega, by omega, fun d c10 hd hc10 => ?_⟩
    walk_at "all"
    refine ⟨d, rfl, hd, 0, rfl, by rw [List.length_map, List.length_replicate]; have : i < 8 := hi; exact line_lt (by omega), ?_, c10, hc10, rfl⟩
    rw [List.replicate_succ', List.map_append]
    rfl
  · rintro acc M' Dl ⟨rfl, c', hc', rfl⟩ hD
    walk_at "all"
    refine bc_all (bs := List.replicate 8 true) (.of (.own (n := 0) rfl)) ?_
    exact k _
end
end K62

namespace K62
open PySem PySem.Spec PyProof.Rows L2 Evl Pv

section
variable {P : Program} {w : World} {K : PySem.W.Frag} {mg : Str → Option Value} {base : Heap}
theorem der_longer (T : Tx K mg)  {cdv : Value} {A : Around} {outer : List PySem.Env} {s : Shared} {H : Hp} {E : XK} (hr : Room 0 (A.deeper (envOfC "_law_longer" (defScope s_longer) s.heap.objs.size T.a_longer cdv))) :
  PSs ((cxOf CX0 P w K mg base N_longer "_law_longer" (defScope s_longer) T.a_longer cdv A outer s H E).nox) (defBody s_longer) (t_longer K) :=
  (pss_cons (ps_set (i := 2) sc_longer.nd rfl (.inl rfl) pe_int)
  (pss_cons (ps_for PassesOwn.never rfl (pi_list (pv 0)) (pg_name (i := 3) sc_longer.nd rfl (.inl rfl))
   (pss_one (ps_set (i := 2) sc_longer.nd rfl (.inl rfl) (pe_op op_mod (pe_callTy call_int1 (by rfl) T.n_int (by decide +kernel) (pa_cons (pe_op op_plus (pe_op op_plus (pe_op op_times (pv 2) pe_int) (pv 3)) pe_int) pa_nil)) pe_int))))
  (pss_cons (ps_for PassesOwn.never rfl (pi_range1 (by rfl) T.n_range (pa_cons (pv 1) pa_nil)) (pg_name (i := 4) sc_longer.nd rfl (.inl rfl))
   (pss_cons (ps_set (i := 2) sc_longer.nd rfl (.inl rfl) (pe_op op_mod (pe_callTy call_int1 (by rfl) T.n_int (by decide +kernel) (pa_cons (pe_op op_plus (pe_op op_times (pv 2) pe_int) pe_int) pa_nil)) pe_int))
  (pss_one (ps_expr (pe_bm PySem.F.plainAttrs_list PySem.F.slot_list_append PySem.F.type_list_append mt_append (pv 0) (pa_cons (pe_op op_mod (pe_callTy call_int1 (by rfl) T.n_int (by decide +kernel) (pa_cons (pe_op op_fdiv (pv 2) pe_int) pa_nil)) pe_int) pa_nil))))))
  (pss_one (ps_ret (pv 0))))))
theorem ok_longer (T : Tx K mg) : FnOk P w K mg base CX0 1 T.a_longer T.d_longer ["pool", "many"] (spB K (pre_longer)) :=
  fnB T.F_longer sc_longer (fun ds M P h => len_longer h) fun cdv A outer s H E hr => ⟨t_longer K, der_longer T  hr, fun ds M P h => bs_longer  h⟩
theorem der_pick (T : Tx K mg)  {cdv : Value} {A : Around} {outer : List PySem.Env} {s : Shared} {H : Hp} {E : XK} (hr : Room 0 (A.deeper (envOfC "_law_pick" (defScope s_pick) s.heap.objs.size T.a_pick cdv))) :
  PSs ((cxOf CX0 P w K mg base N_pick "_law_pick" (defScope s_pick) T.a_pick cdv A outer s H E).nox) (defBody s_pick) (t_pick K) :=
  (pss_cons (ps_set (i := 2) sc_pick.nd rfl (.inl rfl) (pe_ix ix_seq (pv 0) pe_int (fun _ _ => rfl)))
  (pss_cons (ps_asg (pe_op op_plus (pv 2) pe_int) (pg_sub (pv 0) pe_int set_list))
  (pss_cons (ps_if (pt_cmpR op_eq (pe_ix ix_seq (pv 0) pe_int (fun _ _ => rfl)) (pe_callB call_len (by rfl) T.n_len (by decide +kernel) (pa_cons (pv 0) pa_nil)) (nomark _)) (pss_one (ps_asg pe_int (pg_sub (pv 0) pe_int set_list))) pss_nil)
  (pss_one (ps_ret (pe_op op_mod (pe_callTy call_int1 (by rfl) T.n_int (by decide +kernel) (pa_cons (pe_ix ix_seq (pv 0) (pv 2) (fun _ _ => rfl)) pa_nil)) (pv 1)))))))
theorem ok_pick (T : Tx K mg) : FnOk P w K mg base CX0 1 T.a_pick T.d_pick ["pool", "many"] (spB K (pre_pick)) :=
  fnB T.F_pick sc_pick (fun ds M P h => len_pick h) fun cdv A outer s H E hr => ⟨t_pick K, der_pick T  hr, fun ds M P h => bs_pick  h⟩
theorem der_far (T : Tx K mg) (G_pick : FnOk P w K mg base CX0 1 T.a_pick T.d_pick ["pool", "many"] (spB K (pre_pick))) {cdv : Value} {A : Around} {outer : List PySem.Env} {s : Shared} {H : Hp} {E : XK} (hr : Room 1 (A.deeper (envOfC "_law_far" (defScope s_far) s.heap.objs.size T.a_far cdv))) :
  PSs ((cxOf CX0 P w K mg base N_far "_law_far" (defScope s_far) T.a_far cdv A outer s H E).nox) (defBody s_far) (t_far K) :=
  (pss_one (ps_ret (pe_op op_mod (pe_callTy call_int1 (by rfl) T.n_int (by decide +kernel) (pa_cons (pe_op op_plus (pe_op op_plus (pe_op op_times (pe_call G_pick hr rfl T.g_pick T.F_pick.kp (b_pick T) .nil pass0 (pa_cons (pv 0) (pa_cons pe_int pa_nil))) pe_int) (pe_op op_times (pe_call G_pick hr rfl T.g_pick T.F_pick.kp (b_pick T) .nil pass0 (pa_cons (pv 0) (pa_cons pe_int pa_nil))) pe_int)) (pe_call G_pick hr rfl T.g_pick T.F_pick.kp (b_pick T) .nil pass0 (pa_cons (pv 0) (pa_cons pe_int pa_nil)))) pa_nil)) (pv 1))))
theorem ok_far (T : Tx K mg) : FnOk P w K mg base CX0 2 T.a_far T.d_far ["pool", "many"] (spB K (pre_far)) :=
  fnB T.F_far sc_far (fun ds M P h => len_far h) fun cdv A outer s H E hr => ⟨t_far K, der_far T (ok_pick T) hr, fun ds M P h => bs_far  h⟩
theorem der_z (T : Tx K mg) (G_pick : FnOk P w K mg base CX0 1 T.a_pick T.d_pick ["pool", "many"] (spB K (pre_pick))) {cdv : Value} {A : Around} {outer : List PySem.Env} {s : Shared} {H : Hp} {E : XK} (hr : Room 1 (A.deeper (envOfC "_law_z" (defScope s_z) s.heap.objs.size T.a_z cdv))) :
  PSs ((cxOf CX0 P w K mg base N_z "_law_z" (defScope s_z) T.a_z cdv A outer s H E).nox) (defBody s_z) (t_z K) :=
  (pss_one (ps_ret (pe_ix ix_seq (pv 1) (pe_call G_pick hr rfl T.g_pick T.F_pick.kp (b_pick T) .nil pass0 (pa_cons (pv 0) (pa_cons (pe_callB call_len (by rfl) T.n_len (by decide +kernel) (pa_cons (pv 1) pa_nil)) pa_nil))) (fun _ _ => rfl))))
theorem ok_z (T : Tx K mg) : FnOk P w K mg base CX0 2 T.a_z T.d_z ["pool", "levels"] (spB K (pre_z)) :=
  fnB T.F_z sc_z (fun ds M P h => len_z h) fun cdv A outer s H E hr => ⟨t_z K, der_z T (ok_pick T) hr, fun ds M P h => bs_z  h⟩
theorem der_list (T : Tx K mg) (G_pick : FnOk P w K mg base CX0 1 T.a_pick T.d_pick ["pool", "many"] (spB K (pre_pick))) (G_far : FnOk P w K mg base CX0 2 T.a_far T.d_far ["pool", "many"] (spB K (pre_far))) (G_z : FnOk P w K mg base CX0 2 T.a_z T.d_z ["pool", "levels"] (spB K (pre_z))) {cdv : Value} {A : Around} {outer : List PySem.Env} {s : Shared} {H : Hp} {E : XK} (hr : Room 2 (A.deeper (envOfC "_law_list" (defScope s_list) s.heap.objs.size T.a_list cdv))) :
  PSs ((cxOf CX0 P w K mg base N_list "_law_list" (defScope s_list) T.a_list cdv A outer s H E).nox) (defBody s_list) (t_list K) :=
  (pss_cons (ps_par (i := 3) (j := 4) (by rfl) sc_list.nd rfl rfl (by decide) rfl rfl (pa_cons (pe_lst (pa_cons pe_int (pa_cons pe_int (pa_cons (pe_un un_neg pe_int) (pa_cons pe_int (pa_cons (pe_op op_sub (pe_call G_far hr rfl T.g_far T.F_far.kp (b_far T) .nil pass0 (pa_cons (pv 0) (pa_cons pe_int pa_nil))) pe_int) (pa_cons (pe_op op_pow pe_int pe_int) pa_nil))))))) (pa_cons (pe_lst (pa_cons pe_str (pa_cons pe_str (pa_cons pe_str (pa_cons pe_str (pa_cons pe_str (pa_cons pe_str pa_nil))))))) pa_nil)) (by rfl))
  (pss_cons (ps_par (i := 5) (j := 6) (by rfl) sc_list.nd rfl rfl (by decide) rfl rfl (pa_cons (pe_lst (pa_cons (pe_tup (pa_cons pe_non (pa_cons (pe_ix ix_seq (pv 4) (pe_call G_pick (hr.mono (by decide)) rfl T.g_pick T.F_pick.kp (b_pick T) .nil pass0 (pa_cons (pv 0) (pa_cons pe_int pa_nil))) (fun _ _ => rfl)) (pa_cons (pe_call G_z hr rfl T.g_z T.F_z.kp (b_z T) .nil pass0 (pa_cons (pv 0) (pa_cons (pv 3) pa_nil))) pa_nil)))) pa_nil)) (pa_cons (pe_lst (pa_cons pe_int pa_nil)) pa_nil)) (by rfl))
  (pss_cons (ps_for PassesOwn.never rfl (pi_range2 (by rfl) T.n_range (pa_cons pe_int (pa_cons (pv 1) pa_nil))) (pg_name (i := 7) sc_list.nd rfl (.inl rfl))
   (pss_cons (ps_set (i := 8) sc_list.nd rfl (.inl rfl) (pe_ix ix_seq (pe_lst (pa_cons (pe_op op_sub (pe_callB call_len (by rfl) T.n_len (by decide +kernel) (pa_cons (pv 6) pa_nil)) pe_int) (pa_cons pe_int (pa_cons (pe_ix ix_seq (pe_lst (pa_cons (pe_op op_sub (pe_callB call_len (by rfl) T.n_len (by decide +kernel) (pa_cons (pv 6) pa_nil)) pe_int) (pa_cons (pe_op op_fdiv (pe_callB call_len (by rfl) T.n_len (by decide +kernel) (pa_cons (pv 6) pa_nil)) pe_int) pa_nil))) (pe_callTy call_int1 (by rfl) T.n_int (by decide +kernel) (pa_cons (pe_cmpR op_gt (pe_op op_times (pv 7) pe_int) (pv 1) (nomark _)) pa_nil)) (fun _ _ => rfl)) (pa_cons (pe_op op_mod (pe_callTy call_int1 (by rfl) T.n_int (by decide +kernel) (pa_cons (pe_call G_far hr rfl T.g_far T.F_far.kp (b_far T) .nil pass0 (pa_cons (pv 0) (pa_cons pe_int pa_nil))) pa_nil)) (pe_callB call_len (by rfl) T.n_len (by decide +kernel) (pa_cons (pv 6) pa_nil))) pa_nil))))) (pv 2) (fun _ _ => rfl)))
  (pss_cons (ps_set (i := 9) sc_list.nd rfl (.inl rfl) (pe_ix ix_seq (pv 4) (pe_call G_pick (hr.mono (by decide)) rfl T.g_pick T.F_pick.kp (b_pick T) .nil pass0 (pa_cons (pv 0) (pa_cons (pe_ix ix_seq (pe_lst (pa_cons pe_int (pa_cons pe_int (pa_cons pe_int (pa_cons pe_int pa_nil))))) (pv 2) (fun _ _ => rfl)) pa_nil))) (fun _ _ => rfl)))
  (pss_cons (ps_for PassesOwn.never rfl (pi_range1 (by rfl) T.n_range (pa_cons (pe_op op_plus pe_int (pe_op op_times pe_int (pe_callTy call_int1 (by rfl) T.n_int (by decide +kernel) (pa_cons (pe_and (pe_cmpR op_eq (pe_call G_pick (hr.mono (by decide)) rfl T.g_pick T.F_pick.kp (b_pick T) .nil pass0 (pa_cons (pv 0) (pa_cons pe_int pa_nil))) pe_int (nomark _)) (pe_and (pe_cmpR op_gt (pv 2) pe_int (nomark _)) (pe_one (pe_cmpR op_lt (pe_op op_plus (pe_callB call_len (by rfl) T.n_len (by decide +kernel) (pa_cons (pv 5) pa_nil)) pe_int) (pv 1) (nomark _))))) pa_nil)))) pa_nil)) (pg_name (i := 10) sc_list.nd rfl (.inl rfl))
   (pss_one (ps_if (pt_cmpR op_lt (pe_callB call_len (by rfl) T.n_len (by decide +kernel) (pa_cons (pv 5) pa_nil)) (pv 1) (nomark _)) (pss_one (ps_expr (pe_bm PySem.F.plainAttrs_list PySem.F.slot_list_append PySem.F.type_list_append mt_append (pv 5) (pa_cons (pe_tup (pa_cons (pe_ix ix_seq (pv 6) (pv 8) (fun _ _ => rfl)) (pa_cons (pv 9) (pa_cons (pe_call G_z hr rfl T.g_z T.F_z.kp (b_z T) .nil pass0 (pa_cons (pv 0) (pa_cons (pe_op op_plus (pe_op op_times (pe_op op_times (pe_slice sl_any (pv 3) (po_some pe_int) (po_some pe_int)) pe_int) (pv 10)) (pv 3)) pa_nil))) pa_nil)))) pa_nil)))) pss_nil)))
  (pss_cons (ps_set (i := 6) sc_list.nd rfl (.inl rfl) (pe_slice sl_any (pv 6) po_none (po_some (pe_op op_plus (pv 8) pe_int))))
  (pss_cons (ps_if (pt_cmpR op_ne (pv 9) pe_str (nomark _)) (pss_one (ps_expr (pe_bm PySem.F.plainAttrs_list PySem.F.slot_list_append PySem.F.type_list_append mt_append (pv 6) (pa_cons (pe_op op_sub (pe_callB call_len (by rfl) T.n_len (by decide +kernel) (pa_cons (pv 5) pa_nil)) pe_int) pa_nil)))) pss_nil)
  (pss_one (ps_if (pt_cmpR op_ge (pe_callB call_len (by rfl) T.n_len (by decide +kernel) (pa_cons (pv 5) pa_nil)) (pv 1) (nomark _)) (pss_one ps_break) pss_nil))))))))
  (pss_one (ps_ret (pv 5))))))
theorem ok_list (T : Tx K mg) : FnOk P w K mg base CX0 3 T.a_list T.d_list ["pool", "many", "shape"] (spB K (pre_list)) :=
  fnB T.F_list sc_list (fun ds M P h => len_list h) fun cdv A outer s H E hr => ⟨t_list K, der_list T (ok_pick T) (ok_far T) (ok_z T) hr, fun ds M P h => bs_list  h⟩
theorem der_is_number (T : Tx K mg)  {cdv : Value} {A : Around} {outer : List PySem.Env} {s : Shared} {H : Hp} {E : XK} (hr : Room 0 (A.deeper (envOfC "is_number" (defScope s_is_number) s.heap.objs.size T.a_is_number cdv))) :
  PSs ((cxOf CX0 P w K mg base N_is_number "is_number" (defScope s_is_number) T.a_is_number cdv A outer s H E).nox) (defBody s_is_number) (t_is_number K) :=
  (pss_cons (ps_if (PW.pt (pw_or (pt_val (pe_callB call_isi (by rfl) T.n_isinstance boot_isinstance (pa_cons (pv 0) (pa_cons (pe_bltn (v := .ty "bool") (by rfl) T.n_bool (by decide +kernel) rfl) pa_nil)))) (pw_or1 (pt_not (pt_val (pe_callB call_isi (by rfl) T.n_isinstance boot_isinstance (pa_cons (pv 0) (pa_cons (pe_bltn (v := .ty "int") (by rfl) T.n_int (by decide +kernel) rfl) pa_nil)))))))) (pss_one (ps_ret pe_bl)) pss_nil)
  (pss_one (ps_ret (pe_and (pe_cmpR op_le (pv 1) (pv 0) (nomark _)) (pe_one (pe_or (pe_cmpR op_isN (pv 2) pe_non (nomark _)) (pe_one (pe_cmpR op_le (pv 0) (pv 2) (nomark _)))))))))
theorem ok_is_number (T : Tx K mg) : FnOk P w K mg base CX0 1 T.a_is_number T.d_is_number ["value", "low", "high"] (spB K (pre_is_number)) :=
  fnB T.F_is_number sc_is_number (fun ds M P h => len_is_number h) fun cdv A outer s H E hr => ⟨t_is_number K, der_is_number T  hr, fun ds M P h => bs_is_number  h⟩
theorem der_is_whole (T : Tx K mg)  {cdv : Value} {A : Around} {outer : List PySem.Env} {s : Shared} {H : Hp} {E : XK} (hr : Room 0 (A.deeper (envOfC "is_whole" (defScope s_is_whole) s.heap.objs.size T.a_is_whole cdv))) :
  PSs ((cxOf CX0 P w K mg base N_is_whole "is_whole" (defScope s_is_whole) T.a_is_whole cdv A outer s H E).nox) (defBody s_is_whole) (t_is_whole K) :=
  (pss_one (ps_ret (pe_and (pe_callB call_isi (by rfl) T.n_isinstance boot_isinstance (pa_cons (pv 0) (pa_cons (pe_bltn (v := .ty "int") (by rfl) T.n_int (by decide +kernel) rfl) pa_nil))) (pe_one (pe_not (pe_callB call_isi (by rfl) T.n_isinstance boot_isinstance (pa_cons (pv 0) (pa_cons (pe_bltn (v := .ty "bool") (by rfl) T.n_bool (by decide +kernel) rfl) pa_nil))))))))
theorem ok_is_whole (T : Tx K mg) : FnOk P w K mg base CX0 1 T.a_is_whole T.d_is_whole ["value"] (spB K (pre_is_whole)) :=
  fnB T.F_is_whole sc_is_whole (fun ds M P h => len_is_whole h) fun cdv A outer s H E hr => ⟨t_is_whole K, der_is_whole T  hr, fun ds M P h => bs_is_whole  h⟩
theorem der_is_node (T : Tx K mg) (G_is_number : FnOk P w K mg base CX0 1 T.a_is_number T.d_is_number ["value", "low", "high"] (spB K (pre_is_number))) (G_is_whole : FnOk P w K mg base CX0 1 T.a_is_whole T.d_is_whole ["value"] (spB K (pre_is_whole))) {cdv : Value} {A : Around} {outer : List PySem.Env} {s : Shared} {H : Hp} {E : XK} (hr : Room 1 (A.deeper (envOfC "is_node" (defScope s_is_node) s.heap.objs.size T.a_is_node cdv))) :
  PSs ((cxOf CX0 P w K mg base N_is_node "is_node" (defScope s_is_node) T.a_is_node cdv A outer s H E).nox) (defBody s_is_node) (t_is_node K T.C) :=
  (pss_cons (ps_if (PW.pt (pw_or (pt_not (pt_val (pe_callB call_isi (by rfl) T.n_isinstance boot_isinstance (pa_cons (pv 0) (pa_cons (pe_bltn (v := .ty "tuple") (by rfl) T.n_tuple (by decide +kernel) rfl) pa_nil))))) (pw_or1 (pt_cmpR op_ne (pe_callB call_len (by rfl) T.n_len (by decide +kernel) (pa_cons (pv 0) pa_nil)) pe_int (nomark _))))) (pss_one (ps_ret pe_bl)) pss_nil)
  (pss_cons (ps_asg (pv 0) (pg_tup (by rfl) (pgs_cons (pg_name (i := 3) sc_is_node.nd rfl (.inl rfl)) (pgs_cons (pg_name (i := 4) sc_is_node.nd rfl (.inl rfl)) (pgs_cons (pg_name (i := 5) sc_is_node.nd rfl (.inl rfl)) pgs_nil)))))
  (pss_cons (ps_if (PW.pt (pw_or (pt_not (pt_val (pe_callB call_isi (by rfl) T.n_isinstance boot_isinstance (pa_cons (pv 4) (pa_cons (pe_bltn (v := .ty "str") (by rfl) T.n_str (by decide +kernel) rfl) pa_nil))))) (pw_or (pt_cmpR op_notIn_seq (pv 4) (pe_glob (v := (.ref T.C.a_KINDS)) rfl T.g_KINDS rfl) (by rfl)) (pw_or1 (pt_not (pt_val (pe_call G_is_whole hr rfl T.g_is_whole T.F_is_whole.kp (b_is_whole T) .nil pass0 (pa_cons (pv 5) pa_nil)))))))) (pss_one (ps_ret pe_bl)) pss_nil)
  (pss_cons (ps_if (pt_cmpR op_eq (pv 2) pe_int (nomark _)) (pss_one (ps_ret (pe_and (pe_cmpR op_isN (pv 3) pe_non (nomark _)) (pe_one (pe_cmpR op_ne (pv 4) pe_str (nomark _)))))) pss_nil)
  (pss_one (ps_ret (pe_and (pe_call G_is_number hr rfl T.g_is_number T.F_is_number.kp (b_is_number T) .nil pass0 (pa_cons (pv 3) (pa_cons pe_int (pa_cons (pe_op op_sub (pv 2) pe_int) pa_nil)))) (pe_one (pe_cmpR op_ne (pe_ix ix_seq (pe_ix ix_seq (pv 1) (pv 3) (fun _ _ => rfl)) pe_int (fun _ _ => rfl)) pe_str (nomark _))))))))))
theorem ok_is_node (T : Tx K mg) : FnOk P w K mg base CX0 2 T.a_is_node T.d_is_node ["value", "nodes", "number"] (spB K (pre_is_node)) :=
  fnB T.F_is_node sc_is_node (fun ds M P h => len_is_node h) fun cdv A outer s H E hr => ⟨t_is_node K T.C, der_is_node T (ok_is_number T) (ok_is_whole T) hr, fun ds M P h => bs_is_node T.ok h⟩
theorem der_check_nodes (T : Tx K mg) (G_is_node : FnOk P w K mg base CX0 2 T.a_is_node T.d_is_node ["value", "nodes", "number"] (spB K (pre_is_node))) {cdv : Value} {A : Around} {outer : List PySem.Env} {s : Shared} {H : Hp} {E : XK} (hr : Room 2 (A.deeper (envOfC "check_nodes" (defScope s_check_nodes) s.heap.objs.size T.a_check_nodes cdv))) :
  PSs (cxOf (L2.CX P w) P w K mg base N_check_nodes "check_nodes" (defScope s_check_nodes) T.a_check_nodes cdv A outer s H E) (defBody s_check_nodes) (t_check_nodes K T.C E) :=
  (pss_cons (ps_if (PW.pt (pw_or (pt_not (pt_val (pe_callB call_isi (by rfl) T.n_isinstance boot_isinstance (pa_cons (pv 0) (pa_cons (pe_bltn (v := .ty "list") (by rfl) T.n_list (by decide +kernel) rfl) pa_nil))))) (pw_or1 (pt_cmpR op_gt (pe_callB call_len (by rfl) T.n_len (by decide +kernel) (pa_cons (pv 0) pa_nil)) (pe_glob (v := (.int 1000)) rfl T.g_MOST_NODES.choose_spec ⟨_, rfl⟩) (nomark _))))) (pss_one (ps_raise rfl (takes_of rfl rfl rfl rfl) (mk_none PySem.F.excBase_Exception T.x_BadList T.g_BadList T.k_BadList (raises_own T.b_BadList T.t_BadList) (by exact rfl)))) pss_nil)
  (pss_cons (ps_set (i := 1) sc_check_nodes.nd rfl (.inl rfl) (pe_lst pa_nil))
  (pss_one (ps_for (passes_of rfl) rfl (pi_enum (by rfl) T.n_enumerate (pa_cons (pv 0) pa_nil)) (pg_tup (by rfl) (pgs_cons (pg_name (i := 2) sc_check_nodes.nd rfl (.inl rfl)) (pgs_cons (pg_name (i := 3) sc_check_nodes.nd rfl (.inl rfl)) pgs_nil)))
   (pss_cons (ps_if (pt_not (pt_val (pe_call G_is_node hr rfl T.g_is_node T.F_is_node.kp (b_is_node T) .nil pass0 (pa_cons (pv 3) (pa_cons (pv 0) (pa_cons (pv 2) pa_nil)))))) (pss_one (ps_raise rfl (takes_of rfl rfl rfl rfl) (mk_none PySem.F.excBase_Exception T.x_BadList T.g_BadList T.k_BadList (raises_own T.b_BadList T.t_BadList) (by exact rfl)))) pss_nil)
  (pss_cons (ps_while (passes_of rfl) (PW.pt (pw_and (pt_truth (pv 1) (by intro _; rfl)) (pw_and1 (pt_cmpR op_ne (pe_ix ix_seq (pv 1) (pe_un un_neg pe_int) (fun _ _ => rfl)) (pe_ix ix_seq (pv 3) pe_int (fun _ _ => rfl)) (nomark _))))) (pss_one (ps_expr (pe_bm0 PySem.F.plainAttrs_list PySem.F.slot_list_pop PySem.F.type_list_pop mt_pop (pv 1)))))
  (pss_cons (ps_if (PW.pt (pw_and (pt_cmpR op_gt (pv 2) pe_int (nomark _)) (pw_and1 (pt_not (pt_truth (pv 1) (by intro _; rfl)))))) (pss_one (ps_raise rfl (takes_of rfl rfl rfl rfl) (mk_none PySem.F.excBase_Exception T.x_BadList T.g_BadList T.k_BadList (raises_own T.b_BadList T.t_BadList) (by exact rfl)))) pss_nil)
  (pss_one (ps_expr (pe_bm PySem.F.plainAttrs_list PySem.F.slot_list_append PySem.F.type_list_append mt_append (pv 1) (pa_cons (pv 2) pa_nil)))))))))))
theorem ok_check_nodes (T : Tx K mg) : FnOk P w K mg base (L2.CX P w) 3 T.a_check_nodes T.d_check_nodes ["nodes"] (spX K (pre_check_nodes T.C)) :=
  fnX T.F_check_nodes sc_check_nodes (fun ds M P R h => len_check_nodes h) fun cdv A outer s H E hr => ⟨t_check_nodes K T.C E, der_check_nodes T (ok_is_node T) hr, fun ds M P R h => bs_check_nodes  h⟩
theorem der_step_of (T : Tx K mg)  {cdv : Value} {A : Around} {outer : List PySem.Env} {s : Shared} {H : Hp} {E : XK} (hr : Room 0 (A.deeper (envOfC "step_of" (defScope s_step_of) s.heap.objs.size T.a_step_of cdv))) :
  PSs ((cxOf CX0 P w K mg base N_step_of "step_of" (defScope s_step_of) T.a_step_of cdv A outer s H E).nox) (defBody s_step_of) (t_step_of K) :=
  (pss_cons (ps_if (pt_cmpR op_eq (pv 0) pe_str (nomark _)) (pss_one (ps_ret (pe_glob (v := (.int 3)) rfl T.g_FLOATS.choose_spec ⟨_, rfl⟩))) pss_nil)
  (pss_cons (ps_if (pt_cmpR op_eq (pv 0) pe_str (nomark _)) (pss_one (ps_ret (pe_glob (v := (.int 4)) rfl T.g_LINES.choose_spec ⟨_, rfl⟩))) pss_nil)
  (pss_cons (ps_if (pt_cmpR op_lt (pv 1) pe_int (nomark _)) (pss_one (ps_ret (pe_glob (v := (.int 1)) rfl T.g_BELOW.choose_spec ⟨_, rfl⟩))) pss_nil)
  (pss_one (ps_ret (pe_ifExp (pt_cmpR op_eq (pv 1) pe_int (nomark _)) (pe_glob (v := (.int 5)) rfl T.g_LEVEL.choose_spec ⟨_, rfl⟩) (pe_glob (v := (.int 6)) rfl T.g_ABOVE.choose_spec ⟨_, rfl⟩)))))))
theorem ok_step_of (T : Tx K mg) : FnOk P w K mg base CX0 1 T.a_step_of T.d_step_of ["kind", "z"] (spB K (pre_step_of)) :=
  fnB T.F_step_of sc_step_of (fun ds M P h => len_step_of h) fun cdv A outer s H E hr => ⟨t_step_of K, der_step_of T  hr, fun ds M P h => bs_step_of  h⟩
theorem der_ordered (T : Tx K mg) (G_step_of : FnOk P w K mg base CX0 1 T.a_step_of T.d_step_of ["kind", "z"] (spB K (pre_step_of))) {cdv : Value} {A : Around} {outer : List PySem.Env} {s : Shared} {H : Hp} {E : XK} (hr : Room 1 (A.deeper (envOfC "ordered" (defScope s_ordered) s.heap.objs.size T.a_ordered cdv))) :
  PSs ((cxOf CX0 P w K mg base N_ordered "ordered" (defScope s_ordered) T.a_ordered cdv A outer s H E).nox) (defBody s_ordered) (t_ordered K (A.deeper (envOfC "ordered" (defScope s_ordered) s.heap.objs.size T.a_ordered cdv))) :=
  (pss_cons (ps_set (i := 1) sc_ordered.nd rfl (.inl rfl) (pe_lst pa_nil))
  (pss_cons (ps_set (i := 2) sc_ordered.nd rfl (.inl rfl) (pe_lst pa_nil))
  (pss_cons (ps_for PassesOwn.never rfl (pi_enum (by rfl) T.n_enumerate (pa_cons (pv 0) pa_nil)) (pg_tup (by rfl) (pgs_cons (pg_name (i := 3) sc_ordered.nd rfl (.inl rfl)) (pgs_cons (pg_name (i := 4) sc_ordered.nd rfl (.inl rfl)) pgs_nil)))
   (pss_cons (ps_asg (pv 4) (pg_tup (by rfl) (pgs_cons (pg_name (i := 5) sc_ordered.nd rfl (.inl rfl)) (pgs_cons (pg_name (i := 6) sc_ordered.nd rfl (.inl rfl)) (pgs_cons (pg_name (i := 7) sc_ordered.nd rfl (.inl rfl)) pgs_nil)))))
  (pss_cons (ps_set (i := 8) sc_ordered.nd rfl (.inl rfl) (pe_ifExp (pt_cmpR op_eq (pv 3) pe_int (nomark _)) (pe_tup pa_nil) (pe_ix ix_seq (pv 1) (pv 5) (fun _ _ => rfl))))
  (pss_cons (ps_if (pt_cmpR op_eq (pv 3) pe_int (nomark _)) (pss_one (ps_expr (pe_bm PySem.F.plainAttrs_list PySem.F.slot_list_append PySem.F.type_list_append mt_append (pv 2) (pa_cons (pe_tup (pa_cons (pe_tup (pa_cons (pe_glob (v := (.int 0)) rfl T.g_OWN.choose_spec ⟨_, rfl⟩) (pa_cons pe_int (pa_cons pe_int pa_nil)))) pa_nil)) pa_nil)))) (pss_one (ps_if (pt_cmpR op_in_seq (pv 6) (pe_tup (pa_cons pe_str (pa_cons pe_str pa_nil))) (by rfl)) (pss_one (ps_expr (pe_bm PySem.F.plainAttrs_list PySem.F.slot_list_append PySem.F.type_list_append mt_append (pv 2) (pa_cons (pe_op op_plus (pv 8) (pe_tup (pa_cons (pe_tup (pa_cons (pe_ifExp (pt_cmpR op_eq (pv 6) pe_str (nomark _)) (pe_glob (v := (.int 2)) rfl T.g_BLOCKS.choose_spec ⟨_, rfl⟩) (pe_glob (v := (.int 4)) rfl T.g_LINES.choose_spec ⟨_, rfl⟩)) (pa_cons pe_int (pa_cons (pv 3) pa_nil)))) pa_nil))) pa_nil)))) (pss_cons (ps_set (i := 8) sc_ordered.nd rfl (.inl rfl) (pe_op op_plus (pv 8) (pe_tup (pa_cons (pe_tup (pa_cons (pe_call G_step_of hr rfl T.g_step_of T.F_step_of.kp (b_step_of T) .nil pass0 (pa_cons (pv 6) (pa_cons (pv 7) pa_nil))) (pa_cons (pe_ifExp (pt_cmpR op_eq (pv 6) pe_str (nomark _)) (pv 7) pe_int) (pa_cons (pv 3) pa_nil)))) pa_nil))))
  (pss_one (ps_expr (pe_bm PySem.F.plainAttrs_list PySem.F.slot_list_append PySem.F.type_list_append mt_append (pv 2) (pa_cons (pe_op op_plus (pv 8) (pe_tup (pa_cons (pe_tup (pa_cons (pe_glob (v := (.int 0)) rfl T.g_OWN.choose_spec ⟨_, rfl⟩) (pa_cons pe_int (pa_cons (pv 3) pa_nil)))) pa_nil))) pa_nil))))))))
  (pss_one (ps_expr (pe_bm PySem.F.plainAttrs_list PySem.F.slot_list_append PySem.F.type_list_append mt_append (pv 1) (pa_cons (pv 8) pa_nil))))))))
  (pss_one (ps_ret (pe_lc (own := [("key", 9), ("number", 3)]) (g := (gTup K 2 (gCons (gName 9) (gCons (gName 3) gNil)))) (tt := tYes) rfl sc_ordered.nd (pi_list (pe_callB cr_sortedDt (by rfl) T.n_sorted (by decide +kernel) (pa_cons (pe_lc (own := [("number", 3), ("key", 9)]) (g := (gTup K 2 (gCons (gName 3) (gCons (gName 9) gNil)))) (tt := tYes) rfl sc_ordered.nd (pi_enum (by rfl) T.n_enumerate (pa_cons (pv 2) pa_nil)) (blkOk_by (N := N_ordered) (sc := defScope s_ordered) (own := [("number", 3), ("key", 9)]) (by decide +kernel)) (fun _ _ _ _ _ => (pg_tup (by rfl) (pgs_cons (pg_name (i := 3) sc_ordered.nd rfl (.inl rfl)) (pgs_cons (pg_name (i := 9) sc_ordered.nd rfl (.inl rfl)) pgs_nil)))) (fun _ _ _ _ _ => pts_nil) (fun _ _ _ _ _ => (pe_tup (pa_cons (pv 9) (pa_cons (pv 3) pa_nil))))) pa_nil))) (blkOk_by (N := N_ordered) (sc := defScope s_ordered) (own := [("key", 9), ("number", 3)]) (by decide +kernel)) (fun _ _ _ _ _ => (pg_tup (by rfl) (pgs_cons (pg_name (i := 9) sc_ordered.nd rfl (.inl rfl)) (pgs_cons (pg_name (i := 3) sc_ordered.nd rfl (.inl rfl)) pgs_nil)))) (fun _ _ _ _ _ => pts_nil) (fun _ _ _ _ _ => (pv 3))))))))
theorem ok_ordered (T : Tx K mg) : FnOk P w K mg base CX0 2 T.a_ordered T.d_ordered ["nodes"] (spB K (pre_ordered)) :=
  fnB T.F_ordered sc_ordered (fun ds M P h => len_ordered h) fun cdv A outer s H E hr => ⟨t_ordered K (A.deeper (envOfC "ordered" (defScope s_ordered) s.heap.objs.size T.a_ordered cdv)), der_ordered T (ok_step_of T) hr, fun ds M P h => bs_ordered hr.units h⟩
theorem der_painting_order (T : Tx K mg) (G_check_nodes : FnOk P w K mg base (L2.CX P w) 3 T.a_check_nodes T.d_check_nodes ["nodes"] (spX K (pre_check_nodes T.C))) (G_ordered : FnOk P w K mg base CX0 2 T.a_ordered T.d_ordered ["nodes"] (spB K (pre_ordered))) {cdv : Value} {A : Around} {outer : List PySem.Env} {s : Shared} {H : Hp} {E : XK} (hr : Room 3 (A.deeper (envOfC "painting_order" (defScope s_painting_order) s.heap.objs.size T.a_painting_order cdv))) :
  PSs (cxOf (L2.CX P w) P w K mg base N_painting_order "painting_order" (defScope s_painting_order) T.a_painting_order cdv A outer s H E) (defBody s_painting_order) (t_painting_order K T.C E) :=
  (pss_cons (ps_expr (pe_call G_check_nodes hr rfl T.g_check_nodes T.F_check_nodes.kp (b_check_nodes T) .nil (passes_call (takes_of rfl rfl rfl rfl) (fun _ _ _ _ h => h)) (pa_cons (pv 0) pa_nil)))
  (pss_one (ps_ret (pe_call G_ordered (hr.mono (by decide)) rfl T.g_ordered T.F_ordered.kp (b_ordered T) .nil pass0 (pa_cons (pv 0) pa_nil)))))
theorem ok_painting_order (T : Tx K mg) : FnOk P w K mg base (L2.CX P w) 4 T.a_painting_order T.d_painting_order ["nodes"] (spX K (pre_painting_order T.C)) :=
  fnX T.F_painting_order sc_painting_order (fun ds M P R h => len_painting_order h) fun cdv A outer s H E hr => ⟨t_painting_order K T.C E, der_painting_order T (ok_check_nodes T) (ok_ordered T) hr, fun ds M P R h => bs_painting_order  h⟩
theorem der_pool (T : Tx K mg)  {cdv : Value} {A : Around} {outer : List PySem.Env} {s : Shared} {H : Hp} {E : XK} (hr : Room 0 (A.deeper (envOfC "_law_pool" (defScope s_pool) s.heap.objs.size T.a_pool cdv))) :
  PSs ((cxOf CX0 P w K mg base N_pool "_law_pool" (defScope s_pool) T.a_pool cdv A outer s H E).nox) (defBody s_pool) (t_pool K) :=
  (pss_cons (ps_set (i := 1) sc_pool.nd rfl (.inl rfl) (pe_lst pa_nil))
  (pss_cons (ps_for PassesOwn.never rfl (pi_list (pv 0)) (pg_name (i := 2) sc_pool.nd rfl (.inl rfl))
   (pss_cons (ps_set (i := 3) sc_pool.nd rfl (.inl rfl) (pe_op op_mod (pe_callTy call_int1 (by rfl) T.n_int (by decide +kernel) (pa_cons (pv 2) pa_nil)) (pe_op op_pow pe_int pe_int)))
  (pss_one (ps_if (pt_cmpR op_ge (pv 3) (pe_op op_pow pe_int pe_int) (nomark _)) (pss_one (ps_for PassesOwn.never rfl (pi_range1 (by rfl) T.n_range (pa_cons pe_int pa_nil)) (pg_name (i := 4) sc_pool.nd rfl (.inl rfl))
   (pss_cons (ps_expr (pe_bm PySem.F.plainAttrs_list PySem.F.slot_list_append PySem.F.type_list_append mt_append (pv 1) (pa_cons (pe_op op_mod (pe_callTy call_int1 (by rfl) T.n_int (by decide +kernel) (pa_cons (pv 3) pa_nil)) pe_int) pa_nil)))
  (pss_cons (ps_set (i := 3) sc_pool.nd rfl (.inl rfl) (pe_callTy call_int1 (by rfl) T.n_int (by decide +kernel) (pa_cons (pe_op op_fdiv (pv 3) pe_int) pa_nil)))
  (pss_one (ps_if (pt_cmpR op_eq (pv 3) pe_int (nomark _)) (pss_one ps_break) pss_nil)))))) (pss_one (ps_set (i := 1) sc_pool.nd rfl (.inl rfl) (pe_op op_plus (pv 1) (pe_lst (pa_cons (pe_op op_mod (pe_callTy call_int1 (by rfl) T.n_int (by decide +kernel) (pa_cons (pv 3) pa_nil)) pe_int) (pa_cons (pe_op op_mod (pe_callTy call_int1 (by rfl) T.n_int (by decide +kernel) (pa_cons (pe_op op_fdiv (pv 3) pe_int) pa_nil)) pe_int) pa_nil))))))))))
  (pss_cons (ps_set (i := 5) sc_pool.nd rfl (.inl rfl) pe_int)
  (pss_cons (ps_for PassesOwn.never rfl (pi_list (pv 0)) (pg_name (i := 2) sc_pool.nd rfl (.inl rfl))
   (pss_one (ps_set (i := 5) sc_pool.nd rfl (.inl rfl) (pe_op op_mod (pe_op op_plus (pe_op op_times (pv 5) pe_int) (pe_callTy call_int1 (by rfl) T.n_int (by decide +kernel) (pa_cons (pv 2) pa_nil))) pe_int))))
  (pss_cons (ps_for PassesOwn.never rfl (pi_range1 (by rfl) T.n_range (pa_cons pe_int pa_nil)) (pg_name (i := 4) sc_pool.nd rfl (.inl rfl))
   (pss_cons (ps_set (i := 5) sc_pool.nd rfl (.inl rfl) (pe_op op_mod (pe_op op_plus (pe_op op_times (pv 5) pe_int) pe_int) pe_int))
  (pss_one (ps_expr (pe_bm PySem.F.plainAttrs_list PySem.F.slot_list_append PySem.F.type_list_append mt_append (pv 1) (pa_cons (pe_op op_mod (pe_callTy call_int1 (by rfl) T.n_int (by decide +kernel) (pa_cons (pe_op op_fdiv (pv 5) pe_int) pa_nil)) pe_int) pa_nil))))))
  (pss_one (ps_ret (pv 1))))))))
theorem ok_pool (T : Tx K mg) : FnOk P w K mg base CX0 1 T.a_pool T.d_pool ["script"] (spB K (pre_pool)) :=
  fnB T.F_pool sc_pool (fun ds M P h => len_pool h) fun cdv A outer s H E hr => ⟨t_pool K, der_pool T  hr, fun ds M P h => bs_pool  h⟩
theorem der_stream (T : Tx K mg) (G_pool : FnOk P w K mg base CX0 1 T.a_pool T.d_pool ["script"] (spB K (pre_pool))) {cdv : Value} {A : Around} {outer : List PySem.Env} {s : Shared} {H : Hp} {E : XK} (hr : Room 1 (A.deeper (envOfC "_law_stream" (defScope s_stream) s.heap.objs.size T.a_stream cdv))) :
  PSs ((cxOf CX0 P w K mg base N_stream "_law_stream" (defScope s_stream) T.a_stream cdv A outer s H E).nox) (defBody s_stream) (t_stream K) :=
  (pss_one (ps_ret (pe_op op_plus (pe_lst (pa_cons pe_int pa_nil)) (pe_call G_pool hr rfl T.g_pool T.F_pool.kp (b_pool T) .nil pass0 (pa_cons (pv 0) pa_nil)))))
theorem ok_stream (T : Tx K mg) : FnOk P w K mg base CX0 2 T.a_stream T.d_stream ["script"] (spB K (pre_stream)) :=
  fnB T.F_stream sc_stream (fun ds M P h => len_stream h) fun cdv A outer s H E hr => ⟨t_stream K, der_stream T (ok_pool T) hr, fun ds M P h => bs_stream  h⟩
theorem der_is_context (T : Tx K mg)  {cdv : Value} {A : Around} {outer : List PySem.Env} {s : Shared} {H : Hp} {E : XK} (hr : Room 0 (A.deeper (envOfC "_law_is_context" (defScope s_is_context) s.heap.objs.size T.a_is_context cdv))) :
  PSs ((cxOf CX0 P w K mg base N_is_context "_law_is_context" (defScope s_is_context) T.a_is_context cdv A outer s H E).nox) (defBody s_is_context) (t_is_context K) :=
  (pss_one (ps_ret (pe_or (pe_cmpR op_eq (pv 1) pe_int (nomark _)) (pe_one (pe_cmpR op_in_seq (pe_ix ix_seq (pe_ix ix_seq (pv 0) (pv 1) (fun _ _ => rfl)) pe_int (fun _ _ => rfl)) (pe_lst (pa_cons pe_str (pa_cons pe_str (pa_cons pe_str pa_nil)))) (by rfl))))))
theorem ok_is_context (T : Tx K mg) : FnOk P w K mg base CX0 1 T.a_is_context T.d_is_context ["nodes", "k"] (spB K (pre_is_context)) :=
  fnB T.F_is_context sc_is_context (fun ds M P h => len_is_context h) fun cdv A outer s H E hr => ⟨t_is_context K, der_is_context T  hr, fun ds M P h => bs_is_context  h⟩
theorem der_homes (T : Tx K mg) (G_is_context : FnOk P w K mg base CX0 1 T.a_is_context T.d_is_context ["nodes", "k"] (spB K (pre_is_context))) {cdv : Value} {A : Around} {outer : List PySem.Env} {s : Shared} {H : Hp} {E : XK} (hr : Room 1 (A.deeper (envOfC "_law_homes" (defScope s_homes) s.heap.objs.size T.a_homes cdv))) :
  PSs ((cxOf CX0 P w K mg base N_homes "_law_homes" (defScope s_homes) T.a_homes cdv A outer s H E).nox) (defBody s_homes) (t_homes K) :=
  (pss_cons (ps_par3 (i := 1) (j := 2) (l := 3) (by rfl) sc_homes.nd rfl rfl rfl (by decide) (by decide) (by decide) rfl rfl rfl (pa_cons (pe_lst (pa_cons pe_int pa_nil)) (pa_cons (pe_lst (pa_cons pe_int pa_nil)) (pa_cons (pe_lst (pa_cons pe_int pa_nil)) pa_nil))) (by rfl))
  (pss_cons (ps_for PassesOwn.never rfl (pi_range2 (by rfl) T.n_range (pa_cons pe_int (pa_cons (pe_callB call_len (by rfl) T.n_len (by decide +kernel) (pa_cons (pv 0) pa_nil)) pa_nil))) (pg_name (i := 4) sc_homes.nd rfl (.inl rfl))
   (pss_cons (ps_set (i := 5) sc_homes.nd rfl (.inl rfl) (pe_ix ix_seq (pv 1) (pe_ix ix_seq (pe_ix ix_seq (pv 0) (pv 4) (fun _ _ => rfl)) pe_int (fun _ _ => rfl)) (fun _ _ => rfl)))
  (pss_one (ps_if (pt_val (pe_call G_is_context hr rfl T.g_is_context T.F_is_context.kp (b_is_context T) .nil pass0 (pa_cons (pv 0) (pa_cons (pv 4) pa_nil)))) (pss_cons (ps_expr (pe_bm PySem.F.plainAttrs_list PySem.F.slot_list_append PySem.F.type_list_append mt_append (pv 1) (pa_cons (pv 4) pa_nil)))
  (pss_cons (ps_expr (pe_bm PySem.F.plainAttrs_list PySem.F.slot_list_append PySem.F.type_list_append mt_append (pv 2) (pa_cons (pe_op op_plus (pe_ix ix_seq (pv 2) (pe_ix ix_seq (pe_ix ix_seq (pv 0) (pv 4) (fun _ _ => rfl)) pe_int (fun _ _ => rfl)) (fun _ _ => rfl)) pe_int) pa_nil)))
  (pss_one (ps_expr (pe_bm PySem.F.plainAttrs_list PySem.F.slot_list_append PySem.F.type_list_append mt_append (pv 3) (pa_cons (pv 5) pa_nil)))))) (pss_cons (ps_expr (pe_bm PySem.F.plainAttrs_list PySem.F.slot_list_append PySem.F.type_list_append mt_append (pv 1) (pa_cons (pv 5) pa_nil)))
  (pss_cons (ps_expr (pe_bm PySem.F.plainAttrs_list PySem.F.slot_list_append PySem.F.type_list_append mt_append (pv 2) (pa_cons (pe_ix ix_seq (pv 2) (pe_ix ix_seq (pe_ix ix_seq (pv 0) (pv 4) (fun _ _ => rfl)) pe_int (fun _ _ => rfl)) (fun _ _ => rfl)) pa_nil)))
  (pss_one (ps_expr (pe_bm PySem.F.plainAttrs_list PySem.F.slot_list_append PySem.F.type_list_append mt_append (pv 3) (pa_cons (pe_ix ix_seq (pv 3) (pe_ix ix_seq (pe_ix ix_seq (pv 0) (pv 4) (fun _ _ => rfl)) pe_int (fun _ _ => rfl)) (fun _ _ => rfl)) pa_nil))))))))))
  (pss_one (ps_ret (pe_tup (pa_cons (pv 1) (pa_cons (pv 2) (pa_cons (pv 3) pa_nil))))))))
theorem ok_homes (T : Tx K mg) : FnOk P w K mg base CX0 2 T.a_homes T.d_homes ["nodes"] (spB K (pre_homes)) :=
  fnB T.F_homes sc_homes (fun ds M P h => len_homes h) fun cdv A outer s H E hr => ⟨t_homes K, der_homes T (ok_is_context T) hr, fun ds M P h => bs_homes  h⟩
theorem der_stands (T : Tx K mg) (G_is_context : FnOk P w K mg base CX0 1 T.a_is_context T.d_is_context ["nodes", "k"] (spB K (pre_is_context))) {cdv : Value} {A : Around} {outer : List PySem.Env} {s : Shared} {H : Hp} {E : XK} (hr : Room 1 (A.deeper (envOfC "_law_stands" (defScope s_stands) s.heap.objs.size T.a_stands cdv))) :
  PSs ((cxOf CX0 P w K mg base N_stands "_law_stands" (defScope s_stands) T.a_stands cdv A outer s H E).nox) (defBody s_stands) (t_stands K) :=
  (pss_cons (ps_asg (pe_ix ix_seq (pv 0) (pv 1) (fun _ _ => rfl)) (pg_tup (by rfl) (pgs_cons (pg_name (i := 3) sc_stands.nd rfl (.inl rfl)) (pgs_cons (pg_name (i := 4) sc_stands.nd rfl (.inl rfl)) (pgs_cons (pg_name (i := 5) sc_stands.nd rfl (.inl rfl)) pgs_nil)))))
  (pss_cons (ps_if (PW.pt (pw_and (pt_not (pt_val (pv 2))) (pw_and1 (pt_val (pe_call G_is_context hr rfl T.g_is_context T.F_is_context.kp (b_is_context T) .nil pass0 (pa_cons (pv 0) (pa_cons (pv 1) pa_nil))))))) (pss_one (ps_ret (pe_tup (pa_cons pe_int (pa_cons pe_int (pa_cons (pv 1) pa_nil)))))) pss_nil)
  (pss_cons (ps_if (pt_cmpR op_eq (pv 4) pe_str (nomark _)) (pss_one (ps_ret (pe_tup (pa_cons (pe_ix ix_seq (pe_lst (pa_cons pe_int (pa_cons pe_int (pa_cons pe_int pa_nil)))) (pe_op op_plus (pe_callTy call_int1 (by rfl) T.n_int (by decide +kernel) (pa_cons (pe_cmpR op_gt (pv 5) pe_int (nomark _)) pa_nil)) (pe_op op_times pe_int (pe_callTy call_int1 (by rfl) T.n_int (by decide +kernel) (pa_cons (pe_cmpR op_lt (pv 5) pe_int (nomark _)) pa_nil)))) (fun _ _ => rfl)) (pa_cons (pv 5) (pa_cons (pv 1) pa_nil)))))) pss_nil)
  (pss_one (ps_ret (pe_tup (pa_cons (pe_dget (hu_of hr) (pe_disp (pps_cons pe_str pe_int (pps_cons pe_str pe_int (pps_cons pe_str pe_int (pps_cons pe_str pe_int pps_nil)))) (by rfl) (by rfl) (fun z => by cases z) (by decide)) (pv 4) (fun _ _ => rfl)) (pa_cons pe_int (pa_cons (pv 1) pa_nil)))))))))
theorem ok_stands (T : Tx K mg) : FnOk P w K mg base CX0 2 T.a_stands T.d_stands ["nodes", "k", "is_whole_v"] (spB K (pre_stands)) :=
  fnB T.F_stands sc_stands (fun ds M P h => len_stands h) fun cdv A outer s H E hr => ⟨t_stands K, der_stands T (ok_is_context T) hr, fun ds M P h => bs_stands  h⟩
theorem der_is_ahead (T : Tx K mg) (G_stands : FnOk P w K mg base CX0 2 T.a_stands T.d_stands ["nodes", "k", "is_whole_v"] (spB K (pre_stands))) {cdv : Value} {A : Around} {outer : List PySem.Env} {s : Shared} {H : Hp} {E : XK} (hr : Room 2 (A.deeper (envOfC "_law_is_ahead" (defScope s_is_ahead) s.heap.objs.size T.a_is_ahead cdv))) :
  PSs ((cxOf CX0 P w K mg base N_is_ahead "_law_is_ahead" (defScope s_is_ahead) T.a_is_ahead cdv A outer s H E).nox) (defBody s_is_ahead) (t_is_ahead K) :=
  (pss_cons (ps_asg (pv 1) (pg_tup (by rfl) (pgs_cons (pg_name (i := 4) sc_is_ahead.nd rfl (.inl rfl)) (pgs_cons (pg_name (i := 5) sc_is_ahead.nd rfl (.inl rfl)) (pgs_cons (pg_name (i := 6) sc_is_ahead.nd rfl (.inl rfl)) pgs_nil)))))
  (pss_cons (ps_par (i := 7) (j := 8) (by rfl) sc_is_ahead.nd rfl rfl (by decide) rfl rfl (pa_cons (pe_call G_stands hr rfl T.g_stands T.F_stands.kp (b_stands T) .nil pass0 (pa_cons (pv 0) (pa_cons (pv 2) (pa_cons pe_bl pa_nil)))) (pa_cons (pe_call G_stands hr rfl T.g_stands T.F_stands.kp (b_stands T) .nil pass0 (pa_cons (pv 0) (pa_cons (pv 3) (pa_cons pe_bl pa_nil)))) pa_nil)) (by rfl))
  (pss_cons (ps_par (i := 9) (j := 10) (by rfl) sc_is_ahead.nd rfl rfl (by decide) rfl rfl (pa_cons (pe_ix ix_seq (pv 4) (pv 2) (fun _ _ => rfl)) (pa_cons (pe_ix ix_seq (pv 4) (pv 3) (fun _ _ => rfl)) pa_nil)) (by rfl))
  (pss_cons (ps_for PassesOwn.never rfl (pi_range1 (by rfl) T.n_range (pa_cons (pe_op op_times pe_int (pe_callB call_len (by rfl) T.n_len (by decide +kernel) (pa_cons (pv 0) pa_nil))) pa_nil)) (pg_name (i := 11) sc_is_ahead.nd rfl (.inl rfl))
   (pss_cons (ps_if (pt_cmpR op_eq (pv 9) (pv 10) (nomark _)) (pss_one ps_break) pss_nil)
  (pss_one (ps_if (pt_cmpR op_ge (pe_ix ix_seq (pv 5) (pv 9) (fun _ _ => rfl)) (pe_ix ix_seq (pv 5) (pv 10) (fun _ _ => rfl)) (nomark _)) (pss_one (ps_par (i := 7) (j := 9) (by rfl) sc_is_ahead.nd rfl rfl (by decide) rfl rfl (pa_cons (pe_call G_stands hr rfl T.g_stands T.F_stands.kp (b_stands T) .nil pass0 (pa_cons (pv 0) (pa_cons (pv 9) (pa_cons pe_bl pa_nil)))) (pa_cons (pe_ix ix_seq (pv 6) (pv 9) (fun _ _ => rfl)) pa_nil)) (by rfl))) (pss_one (ps_par (i := 8) (j := 10) (by rfl) sc_is_ahead.nd rfl rfl (by decide) rfl rfl (pa_cons (pe_call G_stands hr rfl T.g_stands T.F_stands.kp (b_stands T) .nil pass0 (pa_cons (pv 0) (pa_cons (pv 10) (pa_cons pe_bl pa_nil)))) (pa_cons (pe_ix ix_seq (pv 6) (pv 10) (fun _ _ => rfl)) pa_nil)) (by rfl)))))))
  (pss_one (ps_ret (pe_cmpR (op_ltT hr.units0) (pv 7) (pv 8) (by rfl))))))))
theorem ok_is_ahead (T : Tx K mg) : FnOk P w K mg base CX0 3 T.a_is_ahead T.d_is_ahead ["nodes", "made", "one", "other"] (spB K (pre_is_ahead)) :=
  fnB T.F_is_ahead sc_is_ahead (fun ds M P h => len_is_ahead h) fun cdv A outer s H E hr => ⟨t_is_ahead K, der_is_ahead T (ok_stands T) hr, fun ds M P h => bs_is_ahead  h⟩
theorem der_is_order (T : Tx K mg) (G_homes : FnOk P w K mg base CX0 2 T.a_homes T.d_homes ["nodes"] (spB K (pre_homes))) (G_is_ahead : FnOk P w K mg base CX0 3 T.a_is_ahead T.d_is_ahead ["nodes", "made", "one", "other"] (spB K (pre_is_ahead))) {cdv : Value} {A : Around} {outer : List PySem.Env} {s : Shared} {H : Hp} {E : XK} (hr : Room 3 (A.deeper (envOfC "_law_is_order" (defScope s_is_order) s.heap.objs.size T.a_is_order cdv))) :
  PSs ((cxOf CX0 P w K mg base N_is_order "_law_is_order" (defScope s_is_order) T.a_is_order cdv A outer s H E).nox) (defBody s_is_order) (t_is_order K (A.deeper (envOfC "_law_is_order" (defScope s_is_order) s.heap.objs.size T.a_is_order cdv))) :=
  (pss_cons (ps_set (i := 2) sc_is_order.nd rfl (.inl rfl) (pe_callB call_len (by rfl) T.n_len (by decide +kernel) (pa_cons (pv 0) pa_nil)))
  (pss_cons (ps_if (PW.pt (pw_or (pt_not (pt_val (pe_callB call_isi (by rfl) T.n_isinstance boot_isinstance (pa_cons (pv 1) (pa_cons (pe_bltn (v := .ty "list") (by rfl) T.n_list (by decide +kernel) rfl) pa_nil))))) (pw_or (pt_cmpR op_ne (pe_callB call_len (by rfl) T.n_len (by decide +kernel) (pa_cons (pv 1) pa_nil)) (pv 2) (nomark _)) (pw_or1 (pt_not (pt_val (pe_callB (cr_all rfl) (by rfl) T.n_all (by decide +kernel) (pa_cons (pe_lc (own := [("k", 4)]) (g := (gName 4)) (tt := tYes) rfl sc_is_order.nd (pi_list (pv 1)) (blkOk_by (N := N_is_order) (sc := defScope s_is_order) (own := [("k", 4)]) (by decide +kernel)) (fun _ _ _ _ _ => (pg_name (i := 4) sc_is_order.nd rfl (.inl rfl))) (fun _ _ _ _ _ => pts_nil) (fun _ _ _ _ _ => (pe_and (pe_callB call_isi (by rfl) T.n_isinstance boot_isinstance (pa_cons (pv 4) (pa_cons (pe_bltn (v := .ty "int") (by rfl) T.n_int (by decide +kernel) rfl) pa_nil))) (pe_one (pe_not (pe_callB call_isi (by rfl) T.n_isinstance boot_isinstance (pa_cons (pv 4) (pa_cons (pe_bltn (v := .ty "bool") (by rfl) T.n_bool (by decide +kernel) rfl) pa_nil)))))))) pa_nil)))))))) (pss_one (ps_ret pe_bl)) pss_nil)
  (pss_cons (ps_if (pt_cmpR (op_neD hr.units) (pe_callB cr_sortedDt (by rfl) T.n_sorted (by decide +kernel) (pa_cons (pv 1) pa_nil)) (pe_lc (own := [("k", 4)]) (g := (gName 4)) (tt := tYes) rfl sc_is_order.nd (pi_range1 (by rfl) T.n_range (pa_cons (pv 2) pa_nil)) (blkOk_by (N := N_is_order) (sc := defScope s_is_order) (own := [("k", 4)]) (by decide +kernel)) (fun _ _ _ _ _ => (pg_name (i := 4) sc_is_order.nd rfl (.inl rfl))) (fun _ _ _ _ _ => pts_nil) (fun _ _ _ _ _ => (pv 4))) (nomark _)) (pss_one (ps_ret pe_bl)) pss_nil)
  (pss_cons (ps_set (i := 3) sc_is_order.nd rfl (.inl rfl) (pe_call G_homes (hr.mono (by decide)) rfl T.g_homes T.F_homes.kp (b_homes T) .nil pass0 (pa_cons (pv 0) pa_nil)))
  (pss_cons (ps_for PassesOwn.never rfl (pi_range2 (by rfl) T.n_range (pa_cons pe_int (pa_cons (pv 2) pa_nil))) (pg_name (i := 4) sc_is_order.nd rfl (.inl rfl))
   (pss_one (ps_if (pt_not (pt_val (pe_call G_is_ahead hr rfl T.g_is_ahead T.F_is_ahead.kp (b_is_ahead T) .nil pass0 (pa_cons (pv 0) (pa_cons (pv 3) (pa_cons (pe_ix ix_seq (pv 1) (pe_op op_sub (pv 4) pe_int) (fun _ _ => rfl)) (pa_cons (pe_ix ix_seq (pv 1) (pv 4) (fun _ _ => rfl)) pa_nil))))))) (pss_one (ps_ret pe_bl)) pss_nil)))
  (pss_one (ps_ret pe_bl)))))))
theorem ok_is_order (T : Tx K mg) : FnOk P w K mg base CX0 4 T.a_is_order T.d_is_order ["nodes", "told"] (spB K (pre_is_order)) :=
  fnB T.F_is_order sc_is_order (fun ds M P h => len_is_order h) fun cdv A outer s H E hr => ⟨t_is_order K (A.deeper (envOfC "_law_is_order" (defScope s_is_order) s.heap.objs.size T.a_is_order cdv)), der_is_order T (ok_homes T) (ok_is_ahead T) hr, fun ds M P h => bs_is_order hr.units h⟩
theorem der_same (T : Tx K mg)  {cdv : Value} {A : Around} {outer : List PySem.Env} {s : Shared} {H : Hp} {E : XK} (hr : Room 0 (A.deeper (envOfC "_law_same" (defScope s_same) s.heap.objs.size T.a_same cdv))) :
  PSs ((cxOf CX0 P w K mg base N_same "_law_same" (defScope s_same) T.a_same cdv A outer s H E).nox) (defBody s_same) (t_same K) :=
  (pss_cons (ps_set (i := 2) sc_same.nd rfl (.inl rfl) (pe_lst (pa_cons (pe_tup (pa_cons (pv 0) (pa_cons (pv 1) pa_nil))) pa_nil)))
  (pss_cons (ps_for PassesOwn.never rfl (pi_range1 (by rfl) T.n_range (pa_cons (pe_op op_pow pe_int pe_int) pa_nil)) (pg_name (i := 3) sc_same.nd rfl (.inl rfl))
   (pss_cons (ps_if (pt_cmpR (op_eqD hr.units) (pv 2) (pe_lst pa_nil) (nomark _)) (pss_one (ps_ret pe_bl)) pss_nil)
  (pss_cons (ps_asg (pe_bm0 PySem.F.plainAttrs_list PySem.F.slot_list_pop PySem.F.type_list_pop mt_pop (pv 2)) (pg_tup (by rfl) (pgs_cons (pg_name (i := 4) sc_same.nd rfl (.inr rfl)) (pgs_cons (pg_name (i := 5) sc_same.nd rfl (.inr rfl)) pgs_nil))))
  (pss_one (ps_if (pt_cmpR op_isN (pv 5) pe_non (nomark _)) (pss_one (ps_if (pt_cmpR op_notN (pv 4) pe_non (nomark _)) (pss_one (ps_ret pe_bl)) pss_nil)) (pss_one (ps_if (pt_val (pe_callB call_isi (by rfl) T.n_isinstance boot_isinstance (pa_cons (pv 5) (pa_cons (pe_bltn (v := .ty "bool") (by rfl) T.n_bool (by decide +kernel) rfl) pa_nil)))) (pss_one (ps_if (PW.pt (pw_or (pt_not (pt_val (pe_callB call_isi (by rfl) T.n_isinstance boot_isinstance (pa_cons (pv 4) (pa_cons (pe_bltn (v := .ty "bool") (by rfl) T.n_bool (by decide +kernel) rfl) pa_nil))))) (pw_or1 (pt_cmpR op_ne (pv 4) (pv 5) (nomark _))))) (pss_one (ps_ret pe_bl)) pss_nil)) (pss_one (ps_if (pt_val (pe_callB call_isi (by rfl) T.n_isinstance boot_isinstance (pa_cons (pv 5) (pa_cons (pe_bltn (v := .ty "int") (by rfl) T.n_int (by decide +kernel) rfl) pa_nil)))) (pss_one (ps_if (PW.pt (pw_or (pt_not (pt_val (pe_callB call_isi (by rfl) T.n_isinstance boot_isinstance (pa_cons (pv 4) (pa_cons (pe_bltn (v := .ty "int") (by rfl) T.n_int (by decide +kernel) rfl) pa_nil))))) (pw_or (pt_val (pe_callB call_isi (by rfl) T.n_isinstance boot_isinstance (pa_cons (pv 4) (pa_cons (pe_bltn (v := .ty "bool") (by rfl) T.n_bool (by decide +kernel) rfl) pa_nil)))) (pw_or1 (pt_cmpR op_ne (pv 4) (pv 5) (nomark _)))))) (pss_one (ps_ret pe_bl)) pss_nil)) (pss_one (ps_if (pt_val (pe_callB call_isi (by rfl) T.n_isinstance boot_isinstance (pa_cons (pv 5) (pa_cons (pe_bltn (v := .ty "str") (by rfl) T.n_str (by decide +kernel) rfl) pa_nil)))) (pss_one (ps_if (PW.pt (pw_or (pt_not (pt_val (pe_callB call_isi (by rfl) T.n_isinstance boot_isinstance (pa_cons (pv 4) (pa_cons (pe_bltn (v := .ty "str") (by rfl) T.n_str (by decide +kernel) rfl) pa_nil))))) (pw_or1 (pt_cmpR op_ne (pv 4) (pv 5) (nomark _))))) (pss_one (ps_ret pe_bl)) pss_nil)) (pss_one (ps_if (pt_val (pe_callB call_isi (by rfl) T.n_isinstance boot_isinstance (pa_cons (pv 5) (pa_cons (pe_bltn (v := .ty "dict") (by rfl) T.n_dict (by decide +kernel) rfl) pa_nil)))) pss_never (pss_one (ps_if (PW.pt (pw_or (PW.pt (pw_and (pt_val (pe_callB call_isi (by rfl) T.n_isinstance boot_isinstance (pa_cons (pv 5) (pa_cons (pe_bltn (v := .ty "tuple") (by rfl) T.n_tuple (by decide +kernel) rfl) pa_nil)))) (pw_and1 (pt_not (pt_val (pe_callB call_isi (by rfl) T.n_isinstance boot_isinstance (pa_cons (pv 4) (pa_cons (pe_bltn (v := .ty "tuple") (by rfl) T.n_tuple (by decide +kernel) rfl) pa_nil)))))))) (pw_or1 (PW.pt (pw_and (pt_val (pe_callB call_isi (by rfl) T.n_isinstance boot_isinstance (pa_cons (pv 5) (pa_cons (pe_bltn (v := .ty "list") (by rfl) T.n_list (by decide +kernel) rfl) pa_nil)))) (pw_and1 (pt_not (pt_val (pe_callB call_isi (by rfl) T.n_isinstance boot_isinstance (pa_cons (pv 4) (pa_cons (pe_bltn (v := .ty "list") (by rfl) T.n_list (by decide +kernel) rfl) pa_nil))))))))))) (pss_one (ps_ret pe_bl)) (pss_one (ps_if (pt_cmpR op_ne (pe_callB call_len (by rfl) T.n_len (by decide +kernel) (pa_cons (pv 4) pa_nil)) (pe_callB call_len (by rfl) T.n_len (by decide +kernel) (pa_cons (pv 5) pa_nil)) (nomark _)) (pss_one (ps_ret pe_bl)) (pss_one (ps_expr (pe_bm PySem.F.plainAttrs_list PySem.F.slot_list_extend PySem.F.type_list_extend mt_extend (pv 2) (pa_cons (pe_lc (own := [("k", 7)]) (g := (gName 7)) (tt := tYes) rfl sc_same.nd (pi_range1 (by rfl) T.n_range (pa_cons (pe_callB call_len (by rfl) T.n_len (by decide +kernel) (pa_cons (pv 5) pa_nil)) pa_nil)) (blkOk_by (N := N_same) (sc := defScope s_same) (own := [("k", 7)]) (by decide +kernel)) (fun _ _ _ _ _ => (pg_name (i := 7) sc_same.nd rfl (.inl rfl))) (fun _ _ _ _ _ => pts_nil) (fun _ _ _ _ _ => (pe_tup (pa_cons (pe_ix ix_seq (pv 4) (pv 7) (fun _ _ => rfl)) (pa_cons (pe_ix ix_seq (pv 5) (pv 7) (fun _ _ => rfl)) pa_nil))))) pa_nil)))))))))))))))))))))
  (pss_one (ps_ret pe_bl))))
theorem ok_same (T : Tx K mg) : FnOk P w K mg base CX0 1 T.a_same T.d_same ["told", "due"] (spB K (pre_same)) :=
  fnB T.F_same sc_same (fun ds M P h => len_same h) fun cdv A outer s H E hr => ⟨t_same K, der_same T  hr, fun ds M P h => bs_same  h⟩
theorem der_is_refused (T : Tx K mg) (G_painting_order : FnOk P w K mg base (L2.CX P w) 4 T.a_painting_order T.d_painting_order ["nodes"] (spX K (pre_painting_order T.C))) {cdv : Value} {A : Around} {outer : List PySem.Env} {s : Shared} {H : Hp} {E : XK} (hr : Room 4 (A.deeper (envOfC "_law_is_refused" (defScope s_is_refused) s.heap.objs.size T.a_is_refused cdv))) :
  PSs ((cxOf CX0 P w K mg base N_is_refused "_law_is_refused" (defScope s_is_refused) T.a_is_refused cdv A outer s H E).nox) (defBody s_is_refused) (t_is_refused K T.C) :=
  (pss_cons (ps_tryW (tb := fun W => (tDrop (tCallS (spX K (pre_painting_order T.C)) (WE W) (tCons (tVar 0) tNil)))) rfl rfl (fun W pn xe tk _ => (pss_one (ps_expr (pe_callS G_painting_order hr rfl T.g_painting_order T.F_painting_order.kp (b_painting_order T) (fun σ => passAt tk σ) (pa_cons (pv 0) pa_nil))))) (hand_tup (ts := fun _ _ _ => (tRet (tC (.bl false)))) (W := (wOne K (.ref T.C.c_BadList) (fun _ _ _ => (tRet (tC (.bl true)))) (fun _ => (fun _ _ _ _ => False)))) (.cons ⟨rfl, by decide, .inl T.g_BadCell⟩ (.cons ⟨rfl, by decide, .inl T.g_BadKey⟩ (.cons ⟨rfl, by decide, .inl T.g_BadMarks⟩ (.cons ⟨rfl, by decide, .inl T.g_BadParts⟩ (.cons ⟨rfl, by decide, .inl T.g_BadState⟩ (.cons ⟨rfl, by decide, .inl T.g_BadText⟩ (.cons ⟨rfl, by decide, .inl T.g_BadValue⟩ .nil))))))) (by show 7 ≤ sizeLine; decide) (fun a oe cls d pn hz hf => (pss_one (ps_ret pe_bl))) (hand_one (ts := fun _ _ _ => (tRet (tC (.bl true)))) (W := (fun _ => (fun _ _ _ _ => False))) ⟨rfl, by decide, .inl T.g_BadList⟩ (fun a oe cls d pn hz hf => (pss_one (ps_ret pe_bl))) (hand_nil rfl rfl takes0))))
  (pss_one (ps_ret pe_bl)))
theorem ok_is_refused (T : Tx K mg) : FnOk P w K mg base CX0 5 T.a_is_refused T.d_is_refused ["value"] (spB K (pre_is_refused)) :=
  fnB T.F_is_refused sc_is_refused (fun ds M P h => len_is_refused h) fun cdv A outer s H E hr => ⟨t_is_refused K T.C, der_is_refused T (ok_painting_order T) hr, fun ds M P h => bs_is_refused T.ok h⟩
theorem der_opened (T : Tx K mg)  {cdv : Value} {A : Around} {outer : List PySem.Env} {s : Shared} {H : Hp} {E : XK} (hr : Room 0 (A.deeper (envOfC "_law_opened" (defScope s_opened) s.heap.objs.size T.a_opened cdv))) :
  PSs ((cxOf CX0 P w K mg base N_opened "_law_opened" (defScope s_opened) T.a_opened cdv A outer s H E).nox) (defBody s_opened) (t_opened K) :=
  (pss_cons (ps_par (i := 2) (j := 3) (by rfl) sc_opened.nd rfl rfl (by decide) rfl rfl (pa_cons (pe_lst pa_nil) (pa_cons (pe_op op_sub (pv 1) pe_int) pa_nil)) (by rfl))
  (pss_cons (ps_for PassesOwn.never rfl (pi_range1 (by rfl) T.n_range (pa_cons (pv 1) pa_nil)) (pg_name (i := 4) sc_opened.nd rfl (.inl rfl))
   (pss_cons (ps_if (pt_cmpR op_isN (pv 3) pe_non (nomark _)) (pss_one ps_break) pss_nil)
  (pss_cons (ps_if (pt_cmpR op_ne (pe_ix ix_seq (pe_ix ix_seq (pv 0) (pv 3) (fun _ _ => rfl)) pe_int (fun _ _ => rfl)) pe_str (nomark _)) (pss_one (ps_expr (pe_bm PySem.F.plainAttrs_list PySem.F.slot_list_append PySem.F.type_list_append mt_append (pv 2) (pa_cons (pv 3) pa_nil)))) pss_nil)
  (pss_one (ps_set (i := 3) sc_opened.nd rfl (.inl rfl) (pe_ix ix_seq (pe_ix ix_seq (pv 0) (pv 3) (fun _ _ => rfl)) pe_int (fun _ _ => rfl)))))))
  (pss_one (ps_ret (pv 2)))))
theorem ok_opened (T : Tx K mg) : FnOk P w K mg base CX0 1 T.a_opened T.d_opened ["nodes", "k"] (spB K (pre_opened)) :=
  fnB T.F_opened sc_opened (fun ds M P h => len_opened h) fun cdv A outer s H E hr => ⟨t_opened K, der_opened T  hr, fun ds M P h => bs_opened  h⟩
theorem der_bent (T : Tx K mg) (G_pick : FnOk P w K mg base CX0 1 T.a_pick T.d_pick ["pool", "many"] (spB K (pre_pick))) (G_opened : FnOk P w K mg base CX0 1 T.a_opened T.d_opened ["nodes", "k"] (spB K (pre_opened))) (G_far : FnOk P w K mg base CX0 2 T.a_far T.d_far ["pool", "many"] (spB K (pre_far))) {cdv : Value} {A : Around} {outer : List PySem.Env} {s : Shared} {H : Hp} {E : XK} (hr : Room 2 (A.deeper (envOfC "_law_bent" (defScope s_bent) s.heap.objs.size T.a_bent cdv))) :
  PSs ((cxOf CX0 P w K mg base N_bent "_law_bent" (defScope s_bent) T.a_bent cdv A outer s H E).nox) (defBody s_bent) (t_bent K) :=
  (pss_cons (ps_set (i := 2) sc_bent.nd rfl (.inl rfl) (pe_callB call_len (by rfl) T.n_len (by decide +kernel) (pa_cons (pv 1) pa_nil)))
  (pss_cons (ps_set (i := 3) sc_bent.nd rfl (.inl rfl) (pe_ix ix_seq (pe_lst (pa_cons (pe_op op_sub (pv 2) pe_int) (pa_cons (pe_op op_mod (pe_callTy call_int1 (by rfl) T.n_int (by decide +kernel) (pa_cons (pe_call G_far hr rfl T.g_far T.F_far.kp (b_far T) .nil pass0 (pa_cons (pv 0) (pa_cons pe_int pa_nil))) pa_nil)) (pv 2)) pa_nil))) (pe_call G_pick (hr.mono (by decide)) rfl T.g_pick T.F_pick.kp (b_pick T) .nil pass0 (pa_cons (pv 0) (pa_cons pe_int pa_nil))) (fun _ _ => rfl)))
  (pss_cons (ps_asg (pe_ix ix_seq (pv 1) (pv 3) (fun _ _ => rfl)) (pg_tup (by rfl) (pgs_cons (pg_name (i := 4) sc_bent.nd rfl (.inl rfl)) (pgs_cons (pg_name (i := 5) sc_bent.nd rfl (.inr rfl)) (pgs_cons (pg_name (i := 6) sc_bent.nd rfl (.inr rfl)) pgs_nil)))))
  (pss_cons (ps_asg (pe_tup (pa_cons (pe_call G_pick (hr.mono (by decide)) rfl T.g_pick T.F_pick.kp (b_pick T) .nil pass0 (pa_cons (pv 0) (pa_cons pe_int pa_nil))) (pa_cons (pe_call G_opened (hr.mono (by decide)) rfl T.g_opened T.F_opened.kp (b_opened T) .nil pass0 (pa_cons (pv 1) (pa_cons (pv 3) pa_nil))) pa_nil))) (pg_tup (by rfl) (pgs_cons (pg_name (i := 7) sc_bent.nd rfl (.inl rfl)) (pgs_cons (pg_name (i := 8) sc_bent.nd rfl (.inr rfl)) pgs_nil))))
  (pss_cons (ps_set (i := 9) sc_bent.nd rfl (.inl rfl) (pe_lst (pa_cons (pe_tup (pa_cons (pv 4) (pa_cons (pv 5) pa_nil))) (pa_cons (pe_tup (pa_cons (pv 4) (pa_cons (pv 5) (pa_cons (pv 6) (pa_cons (pv 6) pa_nil))))) (pa_cons (pe_lst (pa_cons (pv 4) (pa_cons (pv 5) (pa_cons (pv 6) pa_nil)))) (pa_cons (pe_tup (pa_cons (pv 5) (pa_cons (pv 4) (pa_cons (pv 6) pa_nil)))) (pa_cons pe_non (pa_cons (pe_tup (pa_cons (pv 4) (pa_cons (pe_lst (pa_cons (pv 5) pa_nil)) (pa_cons (pv 6) pa_nil)))) (pa_cons (pe_tup (pa_cons (pv 4) (pa_cons pe_dnewK (pa_cons (pv 6) pa_nil)))) (pa_cons (pe_tup (pa_cons (pv 4) (pa_cons (pe_op op_plus (pv 5) pe_str) (pa_cons (pv 6) pa_nil)))) (pa_cons (pe_tup (pa_cons (pv 4) (pa_cons pe_str (pa_cons (pv 6) pa_nil)))) pa_nil)))))))))))
  (pss_cons (ps_set (i := 9) sc_bent.nd rfl (.inl rfl) (pe_op op_plus (pv 9) (pe_lst (pa_cons (pe_tup (pa_cons (pv 4) (pa_cons (pv 5) (pa_cons pe_bl pa_nil)))) (pa_cons (pe_tup (pa_cons (pv 4) (pa_cons (pv 5) (pa_cons pe_non pa_nil)))) (pa_cons (pe_tup (pa_cons (pv 4) (pa_cons (pv 5) (pa_cons pe_str pa_nil)))) (pa_cons (pe_tup (pa_cons (pv 4) (pa_cons (pv 5) (pa_cons (pe_tup (pa_cons (pv 6) pa_nil)) pa_nil)))) (pa_cons (pe_tup (pa_cons (pe_tup (pa_cons (pv 4) pa_nil)) (pa_cons (pv 5) (pa_cons (pv 6) pa_nil)))) (pa_cons (pe_tup (pa_cons (pe_callTy call_str_any (by rfl) T.n_str (by decide +kernel) (pa_cons (pv 4) pa_nil)) (pa_cons (pv 5) (pa_cons (pv 6) pa_nil)))) pa_nil)))))))))
  (pss_cons (ps_set (i := 9) sc_bent.nd rfl (.inl rfl) (pe_op op_plus (pv 9) (pe_lst (pa_cons (pe_tup (pa_cons (pe_un un_neg pe_int) (pa_cons (pv 5) (pa_cons (pv 6) pa_nil)))) (pa_cons (pe_tup (pa_cons (pv 3) (pa_cons (pv 5) (pa_cons (pv 6) pa_nil)))) (pa_cons (pe_tup (pa_cons (pe_op op_plus (pv 3) pe_int) (pa_cons (pv 5) (pa_cons (pv 6) pa_nil)))) (pa_cons (pe_tup (pa_cons pe_bl (pa_cons (pv 5) (pa_cons (pv 6) pa_nil)))) (pa_cons (pe_tup (pa_cons pe_bl (pa_cons (pv 5) (pa_cons (pv 6) pa_nil)))) (pa_cons (pe_tup (pa_cons (pv 2) (pa_cons (pv 5) (pa_cons (pv 6) pa_nil)))) pa_nil)))))))))
  (pss_cons (ps_if (pt_cmpR op_eq (pv 3) pe_int (nomark _)) (pss_one (ps_set (i := 9) sc_bent.nd rfl (.inl rfl) (pe_op op_plus (pv 9) (pe_lst (pa_cons (pe_tup (pa_cons pe_int (pa_cons (pv 5) (pa_cons (pv 6) pa_nil)))) (pa_cons (pe_tup (pa_cons (pv 4) (pa_cons pe_str (pa_cons (pv 6) pa_nil)))) (pa_cons (pe_tup (pa_cons (pv 4) (pa_cons pe_non (pa_cons (pv 6) pa_nil)))) pa_nil))))))) (pss_cons (ps_setLc (i := 10) (own := [("j", 12)]) (g := (gName 12)) (tt := (tTest (tOp (rIn K true) (tVar 12) (tVar 8)))) rfl sc_bent.nd rfl rfl (sw_true rfl rfl rfl (by decide +kernel)) (pi_range1 (by rfl) T.n_range (pa_cons (pv 3) pa_nil)) (blkOk_by (N := N_bent) (sc := defScope s_bent) (own := [("j", 12)]) (by decide +kernel)) (fun _ _ _ _ _ => (pg_name (i := 12) sc_bent.nd rfl (.inl rfl))) (fun _ _ _ _ _ => (pts_one (pt_cmpR op_notIn_seq (pv 12) (pv 8) (by rfl)))) (fun _ _ _ _ _ => (pv 12)))
  (pss_one (ps_set (i := 9) sc_bent.nd rfl (.inl rfl) (pe_op op_plus (pe_op op_plus (pv 9) (pe_lst (pa_cons (pe_tup (pa_cons pe_non (pa_cons (pv 5) (pa_cons (pv 6) pa_nil)))) pa_nil))) (pe_op op_times (pe_lc (own := [("j", 12)]) (g := (gName 12)) (tt := tYes) rfl sc_bent.nd (pi_list (pe_op op_plus (pe_slice sl_any (pv 10) (po_some (pe_un un_neg pe_int)) po_none) (pe_slice sl_any (pv 10) po_none (po_some pe_int)))) (blkOk_by (N := N_bent) (sc := defScope s_bent) (own := [("j", 12)]) (by decide +kernel)) (fun _ _ _ _ _ => (pg_name (i := 12) sc_bent.nd rfl (.inl rfl))) (fun _ _ _ _ _ => pts_nil) (fun _ _ _ _ _ => (pe_tup (pa_cons (pv 12) (pa_cons (pv 5) (pa_cons (pv 6) pa_nil)))))) pe_int))))))
  (pss_cons (ps_set (i := 11) sc_bent.nd rfl (.inl rfl) (pe_ix ix_seq (pv 9) (pe_op op_mod (pe_callTy call_int1 (by rfl) T.n_int (by decide +kernel) (pa_cons (pe_call G_far hr rfl T.g_far T.F_far.kp (b_far T) .nil pass0 (pa_cons (pv 0) (pa_cons pe_int pa_nil))) pa_nil)) (pe_callB call_len (by rfl) T.n_len (by decide +kernel) (pa_cons (pv 9) pa_nil))) (fun _ _ => rfl)))
  (pss_cons (ps_if (pt_cmpR op_eq (pv 7) pe_int (nomark _)) (pss_one (ps_ret (pe_ix ix_seq (pe_lst (pa_cons (pe_callTy call_tuple_of (by rfl) T.n_tuple (by decide +kernel) (pa_cons (pv 1) pa_nil)) (pa_cons pe_non (pa_cons pe_dnewK (pa_cons pe_str (pa_cons pe_int (pa_cons (pe_lst (pa_cons pe_non pa_nil)) (pa_cons (pe_lst (pa_cons (pe_lst pa_nil) pa_nil)) (pa_cons (pe_lst (pa_cons (pe_tup pa_nil) pa_nil)) (pa_cons pe_bl (pa_cons (pe_lst (pa_cons (pv 1) pa_nil)) pa_nil))))))))))) (pe_call G_pick (hr.mono (by decide)) rfl T.g_pick T.F_pick.kp (b_pick T) .nil pass0 (pa_cons (pv 0) (pa_cons pe_int pa_nil))) (fun _ _ => rfl)))) pss_nil)
  (pss_one (ps_ret (pe_op op_plus (pe_op op_plus (pe_slice sl_any (pv 1) po_none (po_some (pv 3))) (pe_lst (pa_cons (pv 11) pa_nil))) (pe_slice sl_any (pv 1) (po_some (pe_op op_plus (pv 3) pe_int)) po_none))))))))))))))
theorem ok_bent (T : Tx K mg) : FnOk P w K mg base CX0 3 T.a_bent T.d_bent ["pool", "nodes"] (spB K (pre_bent)) :=
  fnB T.F_bent sc_bent (fun ds M P h => len_bent h) fun cdv A outer s H E hr => ⟨t_bent K, der_bent T (ok_pick T) (ok_opened T) (ok_far T) hr, fun ds M P h => bs_bent  h⟩
theorem der_law (T : Tx K mg) (G_longer : FnOk P w K mg base CX0 1 T.a_longer T.d_longer ["pool", "many"] (spB K (pre_longer))) (G_list : FnOk P w K mg base CX0 3 T.a_list T.d_list ["pool", "many", "shape"] (spB K (pre_list))) (G_painting_order : FnOk P w K mg base (L2.CX P w) 4 T.a_painting_order T.d_painting_order ["nodes"] (spX K (pre_painting_order T.C))) (G_stream : FnOk P w K mg base CX0 2 T.a_stream T.d_stream ["script"] (spB K (pre_stream))) (G_pick : FnOk P w K mg base CX0 1 T.a_pick T.d_pick ["pool", "many"] (spB K (pre_pick))) (G_is_order : FnOk P w K mg base CX0 4 T.a_is_order T.d_is_order ["nodes", "told"] (spB K (pre_is_order))) (G_same : FnOk P w K mg base CX0 1 T.a_same T.d_same ["told", "due"] (spB K (pre_same))) (G_is_refused : FnOk P w K mg base CX0 5 T.a_is_refused T.d_is_refused ["value"] (spB K (pre_is_refused))) (G_far : FnOk P w K mg base CX0 2 T.a_far T.d_far ["pool", "many"] (spB K (pre_far))) (G_bent : FnOk P w K mg base CX0 3 T.a_bent T.d_bent ["pool", "nodes"] (spB K (pre_bent))) (G_opened : FnOk P w K mg base CX0 1 T.a_opened T.d_opened ["nodes", "k"] (spB K (pre_opened))) {cdv : Value} {A : Around} {outer : List PySem.Env} {s : Shared} {H : Hp} {E : XK} (hr : Room 5 (A.deeper (envOfC "law" (defScope s_law) s.heap.objs.size T.a_law cdv))) :
  PSs ((cxOf CX0 P w K mg base N_law "law" (defScope s_law) T.a_law cdv A outer s H E).nox) (defBody s_law) (t_law K T.C) :=
  (pss_cons (ps_set (i := 1) sc_law.nd rfl (.inr rfl) (pe_call G_longer (hr.mono (by decide)) rfl T.g_longer T.F_longer.kp (b_longer T) .nil pass0 (pa_cons (pe_call G_stream (hr.mono (by decide)) rfl T.g_stream T.F_stream.kp (b_stream T) .nil pass0 (pa_cons (pv 0) pa_nil)) (pa_cons pe_int pa_nil))))
  (pss_cons (ps_par (i := 2) (j := 3) (by rfl) sc_law.nd rfl rfl (by decide) rfl rfl (pa_cons (pe_call G_pick (hr.mono (by decide)) rfl T.g_pick T.F_pick.kp (b_pick T) .nil pass0 (pa_cons (pv 1) (pa_cons pe_int pa_nil))) (pa_cons (pe_call G_pick (hr.mono (by decide)) rfl T.g_pick T.F_pick.kp (b_pick T) .nil pass0 (pa_cons (pv 1) (pa_cons pe_int pa_nil))) pa_nil)) (by rfl))
  (pss_cons (ps_set (i := 4) sc_law.nd rfl (.inl rfl) (pe_op op_plus pe_int (pe_call G_pick (hr.mono (by decide)) rfl T.g_pick T.F_pick.kp (b_pick T) .nil pass0 (pa_cons (pv 1) (pa_cons pe_int pa_nil)))))
  (pss_cons (ps_if (pt_cmpR op_lt (pv 2) pe_int (nomark _)) (pss_one (ps_set (i := 4) sc_law.nd rfl (.inl rfl) (pe_op op_plus pe_int (pe_callTy call_int1 (by rfl) T.n_int (by decide +kernel) (pa_cons (pe_call G_far (hr.mono (by decide)) rfl T.g_far T.F_far.kp (b_far T) .nil pass0 (pa_cons (pv 1) (pa_cons pe_int pa_nil))) pa_nil))))) pss_nil)
  (pss_cons (ps_if (pt_cmpR op_eq (pv 2) pe_int (nomark _)) (pss_one (ps_par (i := 4) (j := 3) (by rfl) sc_law.nd rfl rfl (by decide) rfl rfl (pa_cons pe_int (pa_cons (pe_call G_pick (hr.mono (by decide)) rfl T.g_pick T.F_pick.kp (b_pick T) .nil pass0 (pa_cons (pv 1) (pa_cons pe_int pa_nil))) pa_nil)) (by rfl))) pss_nil)
  (pss_cons (ps_expr (pe_call G_longer (hr.mono (by decide)) rfl T.g_longer T.F_longer.kp (b_longer T) .nil pass0 (pa_cons (pv 1) (pa_cons (pe_op op_times pe_int (pv 4)) pa_nil))))
  (pss_cons (ps_set (i := 5) sc_law.nd rfl (.inr rfl) (pe_call G_list (hr.mono (by decide)) rfl T.g_list T.F_list.kp (b_list T) .nil pass0 (pa_cons (pv 1) (pa_cons (pv 4) (pa_cons (pv 3) pa_nil)))))
  (pss_cons (ps_setLc (i := 6) (own := [("node", 10)]) (g := (gName 10)) (tt := tYes) rfl sc_law.nd rfl rfl (sw_true rfl rfl rfl (by decide +kernel)) (pi_list (pv 5)) (blkOk_by (N := N_law) (sc := defScope s_law) (own := [("node", 10)]) (by decide +kernel)) (fun _ _ _ _ _ => (pg_name (i := 10) sc_law.nd rfl (.inl rfl))) (fun _ _ _ _ _ => pts_nil) (fun _ _ _ _ _ => (pv 10)))
  (pss_cons (ps_set (i := 7) sc_law.nd rfl (.inl rfl) (pe_call G_painting_order (hr.mono (by decide)) rfl T.g_painting_order T.F_painting_order.kp (b_painting_order T) .nil (passes_call takes0 (fun _ _ _ _ h => h)) (pa_cons (pv 6) pa_nil)))
  (pss_cons (ps_if (PW.pt (pw_or (pt_not (pt_val (pe_call G_is_order (hr.mono (by decide)) rfl T.g_is_order T.F_is_order.kp (b_is_order T) .nil pass0 (pa_cons (pv 5) (pa_cons (pv 7) pa_nil))))) (pw_or1 (pt_not (pt_val (pe_call G_same (hr.mono (by decide)) rfl T.g_same T.F_same.kp (b_same T) .nil pass0 (pa_cons (pv 6) (pa_cons (pv 5) pa_nil)))))))) (pss_one (ps_ret pe_bl)) pss_nil)
  (pss_cons (ps_set (i := 8) sc_law.nd rfl (.inl rfl) (pe_callTy call_tuple_of (by rfl) T.n_tuple (by decide +kernel) (pa_cons (pv 7) pa_nil)))
  (pss_cons (ps_expr (pe_bm0 PySem.F.plainAttrs_list PySem.F.slot_list_reverse PySem.F.type_list_reverse mt_reverse (pv 7)))
  (pss_cons (ps_expr (pe_bm PySem.F.plainAttrs_list PySem.F.slot_list_append PySem.F.type_list_append mt_append (pv 7) (pa_cons pe_int pa_nil)))
  (pss_cons (ps_if (PW.pt (pw_or (pt_not (pt_val (pe_call G_same (hr.mono (by decide)) rfl T.g_same T.F_same.kp (b_same T) .nil pass0 (pa_cons (pe_call G_painting_order (hr.mono (by decide)) rfl T.g_painting_order T.F_painting_order.kp (b_painting_order T) .nil (passes_call takes0 (fun _ _ _ _ h => h)) (pa_cons (pv 5) pa_nil)) (pa_cons (pe_callTy call_list_of (by rfl) T.n_list (by decide +kernel) (pa_cons (pv 8) pa_nil)) pa_nil))))) (pw_or1 (pt_not (pt_val (pe_call G_same (hr.mono (by decide)) rfl T.g_same T.F_same.kp (b_same T) .nil pass0 (pa_cons (pe_call G_painting_order (hr.mono (by decide)) rfl T.g_painting_order T.F_painting_order.kp (b_painting_order T) .nil (passes_call takes0 (fun _ _ _ _ h => h)) (pa_cons (pe_lst pa_nil) pa_nil)) (pa_cons (pe_lst pa_nil) pa_nil)))))))) (pss_one (ps_ret pe_bl)) pss_nil)
  (pss_cons (ps_if (PW.pt (pw_and (pt_cmpR op_eq (pv 4) pe_int (nomark _)) (pw_and1 (pt_not (pt_val (pe_call G_is_refused hr rfl T.g_is_refused T.F_is_refused.kp (b_is_refused T) .nil pass0 (pa_cons (pe_op op_plus (pv 5) (pe_lst (pa_cons (pe_tup (pa_cons pe_int (pa_cons pe_str (pa_cons pe_int pa_nil)))) pa_nil))) pa_nil))))))) (pss_one (ps_ret pe_bl)) pss_nil)
  (pss_cons (ps_if (pt_cmpR op_lt (pv 4) pe_int (nomark _)) (pss_cons (ps_set (i := 9) sc_law.nd rfl (.inl rfl) (pe_op op_plus (pv 5) (pe_lst (pa_cons (pe_tup (pa_cons (pe_ix ix_seq (pe_call G_opened (hr.mono (by decide)) rfl T.g_opened T.F_opened.kp (b_opened T) .nil pass0 (pa_cons (pv 5) (pa_cons (pv 4) pa_nil))) (pe_op op_times (pe_un un_neg pe_int) (pe_call G_pick (hr.mono (by decide)) rfl T.g_pick T.F_pick.kp (b_pick T) .nil pass0 (pa_cons (pv 1) (pa_cons pe_int pa_nil)))) (fun _ _ => rfl)) (pa_cons pe_str (pa_cons (pe_un un_neg pe_int) pa_nil)))) pa_nil))))
  (pss_one (ps_if (pt_not (pt_val (pe_call G_is_order (hr.mono (by decide)) rfl T.g_is_order T.F_is_order.kp (b_is_order T) .nil pass0 (pa_cons (pv 9) (pa_cons (pe_call G_painting_order (hr.mono (by decide)) rfl T.g_painting_order T.F_painting_order.kp (b_painting_order T) .nil (passes_call takes0 (fun _ _ _ _ h => h)) (pa_cons (pv 9) pa_nil)) pa_nil))))) (pss_one (ps_ret pe_bl)) pss_nil))) pss_nil)
  (pss_one (ps_ret (pe_callB (cr_all rfl) (by rfl) T.n_all (by decide +kernel) (pa_cons (pe_lc (own := [("turn", 11)]) (g := (gName 11)) (tt := tYes) rfl sc_law.nd (pi_range1 (by rfl) T.n_range (pa_cons pe_int pa_nil)) (blkOk_by (N := N_law) (sc := defScope s_law) (own := [("turn", 11)]) (by decide +kernel)) (fun _ _ _ _ _ => (pg_name (i := 11) sc_law.nd rfl (.inl rfl))) (fun _ _ _ _ _ => pts_nil) (fun _ _ _ _ _ => (pe_call G_is_refused hr rfl T.g_is_refused T.F_is_refused.kp (b_is_refused T) .nil pass0 (pa_cons (pe_call G_bent (hr.mono (by decide)) rfl T.g_bent T.F_bent.kp (b_bent T) .nil pass0 (pa_cons (pv 1) (pa_cons (pv 5) pa_nil))) pa_nil)))) pa_nil))))))))))))))))))))
theorem ok_law (T : Tx K mg) : FnOk P w K mg base CX0 6 T.a_law T.d_law ["script"] (spB K (pre_law)) :=
  fnB T.F_law sc_law (fun ds M P h => len_law h) fun cdv A outer s H E hr => ⟨t_law K T.C, der_law T (ok_longer T) (ok_list T) (ok_painting_order T) (ok_stream T) (ok_pick T) (ok_is_order T) (ok_same T) (ok_is_refused T) (ok_far T) (ok_bent T) (ok_opened T) hr, fun ds M P h => bs_law  h⟩
end
end K62

namespace K62
open PySem PySem.Spec PyProof.Rows L2 Evl Pv
theorem exm_at {K : PySem.W.Frag} {S C : Addr} {b : Bool} (h1 : PySem.W.subIn K (.ref C) (.type "BaseException") = some true) (h2 : PySem.W.isClsIn K C = true) (h3 : PySem.W.typeIn K (.ref C) = some (.type "type")) (h4 : PySem.W.subIn K (.ref S) (.ref C) = some b) :
    PySem.W.exmOne K (.ref S) (.ref C) = some b := by
  have e1 : (PySem.W.subIn K (.ref C) (.type "BaseException") == some true) = true := by rw [h1] <;> rfl
  have e2 : ((PySem.W.clsIn K C).isSome && PySem.W.typeIn K (.ref C) == some (.type "type")) = true := by
    have h2' : (PySem.W.clsIn K C).isSome = true := h2
    rw [h2', h3] <;> rfl
  unfold PySem.W.exmOne PySem.W.kitCls
  rw [if_pos e1]
  exact (if_pos e2).trans h4
theorem tx_mk {K : PySem.W.Frag} {h : Heap} {mg : Str → Option Value} (X : K.In h) (G : h.Ns mainGlobals mg)
    {a_KINDS c_BadCell c_BadKey c_BadList c_BadMarks c_BadParts c_BadState c_BadText c_BadValue f_longer f_pick f_far f_z f_list f_is_number f_is_whole f_is_node f_check_nodes f_step_of f_ordered f_painting_order f_pool f_stream f_is_context f_homes f_stands f_is_ahead f_is_order f_same f_is_refused f_opened f_bent f_law : Addr} {oc_longer kV_longer dc_longer pm_longer cd_longer ct_longer oc_pick kV_pick dc_pick pm_pick cd_pick ct_pick oc_far kV_far dc_far pm_far cd_far ct_far oc_z kV_z dc_z pm_z cd_z ct_z oc_list kV_list dc_list pm_list cd_list ct_list oc_is_number kV_is_number dc_is_number pm_is_number cd_is_number ct_is_number oc_is_whole kV_is_whole dc_is_whole pm_is_whole cd_is_whole ct_is_whole oc_is_node kV_is_node dc_is_node pm_is_node cd_is_node ct_is_node oc_check_nodes kV_check_nodes dc_check_nodes pm_check_nodes cd_check_nodes ct_check_nodes oc_step_of kV_step_of dc_step_of pm_step_of cd_step_of ct_step_of oc_ordered kV_ordered dc_ordered pm_ordered cd_ordered ct_ordered oc_painting_order kV_painting_order dc_painting_order pm_painting_order cd_painting_order ct_painting_order oc_pool kV_pool dc_pool pm_pool cd_pool ct_pool oc_stream kV_stream dc_stream pm_stream cd_stream ct_stream oc_is_context kV_is_context dc_is_context pm_is_context cd_is_context ct_is_context oc_homes kV_homes dc_homes pm_homes cd_homes ct_homes oc_stands kV_stands dc_stands pm_stands cd_stands ct_stands oc_is_ahead kV_is_ahead dc_is_ahead pm_is_ahead cd_is_ahead ct_is_ahead oc_is_order kV_is_order dc_is_order pm_is_order cd_is_order ct_is_order oc_same kV_same dc_same pm_same cd_same ct_same oc_is_refused kV_is_refused dc_is_refused pm_is_refused cd_is_refused ct_is_refused oc_opened kV_opened dc_opened pm_opened cd_opened ct_opened oc_bent kV_bent dc_bent pm_bent cd_bent ct_bent oc_law kV_law dc_law pm_law cd_law ct_law : Value} {od_longer an_longer od_pick an_pick od_far an_far od_z an_z od_list an_list od_is_number an_is_number od_is_whole an_is_whole od_is_node an_is_node od_check_nodes an_check_nodes od_step_of an_step_of od_ordered an_ordered od_painting_order an_painting_order od_pool an_pool od_stream an_stream od_is_context an_is_context od_homes an_homes od_stands an_stands od_is_ahead an_is_ahead od_is_order an_is_order od_same an_same od_is_refused an_is_refused od_opened an_opened od_bent an_bent od_law an_law od_KINDS : Option Addr} {sl_longer sl_pick sl_far sl_z sl_list sl_is_number sl_is_whole sl_is_node sl_check_nodes sl_step_of sl_ordered sl_painting_order sl_pool sl_stream sl_is_context sl_homes sl_stands sl_is_ahead sl_is_order sl_same sl_is_refused sl_opened sl_bent sl_law sl_KINDS : Array (Option Value)} {t_ABOVE t_BELOW t_BLOCKS t_FLOATS t_LEVEL t_LINES t_MOST_NODES t_OWN u0_KINDS u1_KINDS u2_KINDS u3_KINDS u4_KINDS : Tok} {m_KINDS : Nat}
    (a_longer : PySem.W.nsIn K mainGlobals "_law_longer" = some (some (.ref f_longer)))
    (l_longer : K.lookup f_longer = some ⟨oc_longer, od_longer, .func (PySem.W.fnOf "_law_longer" "_law_longer" (defArgs s_longer) (defBody s_longer) (defScope s_longer) .none kV_longer dc_longer pm_longer an_longer cd_longer ct_longer), sl_longer⟩)
    (c_longer : PySem.W.codeIn K cd_longer "_law_longer" = true)
    (k_longer : PySem.W.keepIn K (.ref f_longer) = true)
    (a_pick : PySem.W.nsIn K mainGlobals "_law_pick" = some (some (.ref f_pick)))
    (l_pick : K.lookup f_pick = some ⟨oc_pick, od_pick, .func (PySem.W.fnOf "_law_pick" "_law_pick" (defArgs s_pick) (defBody s_pick) (defScope s_pick) .none kV_pick dc_pick pm_pick an_pick cd_pick ct_pick), sl_pick⟩)
    (c_pick : PySem.W.codeIn K cd_pick "_law_pick" = true)
    (k_pick : PySem.W.keepIn K (.ref f_pick) = true)
    (a_far : PySem.W.nsIn K mainGlobals "_law_far" = some (some (.ref f_far)))
    (l_far : K.lookup f_far = some ⟨oc_far, od_far, .func (PySem.W.fnOf "_law_far" "_law_far" (defArgs s_far) (defBody s_far) (defScope s_far) .none kV_far dc_far pm_far an_far cd_far ct_far), sl_far⟩)
    (c_far : PySem.W.codeIn K cd_far "_law_far" = true)
    (k_far : PySem.W.keepIn K (.ref f_far) = true)
    (a_z : PySem.W.nsIn K mainGlobals "_law_z" = some (some (.ref f_z)))
    (l_z : K.lookup f_z = some ⟨oc_z, od_z, .func (PySem.W.fnOf "_law_z" "_law_z" (defArgs s_z) (defBody s_z) (defScope s_z) .none kV_z dc_z pm_z an_z cd_z ct_z), sl_z⟩)
    (c_z : PySem.W.codeIn K cd_z "_law_z" = true)
    (k_z : PySem.W.keepIn K (.ref f_z) = true)
    (a_list : PySem.W.nsIn K mainGlobals "_law_list" = some (some (.ref f_list)))
    (l_list : K.lookup f_list = some ⟨oc_list, od_list, .func (PySem.W.fnOf "_law_list" "_law_list" (defArgs s_list) (defBody s_list) (defScope s_list) .none kV_list dc_list pm_list an_list cd_list ct_list), sl_list⟩)
    (c_list : PySem.W.codeIn K cd_list "_law_list" = true)
    (k_list : PySem.W.keepIn K (.ref f_list) = true)
    (a_is_number : PySem.W.nsIn K mainGlobals "is_number" = some (some (.ref f_is_number)))
    (l_is_number : K.lookup f_is_number = some ⟨oc_is_number, od_is_number, .func (PySem.W.fnOf "is_number" "is_number" (defArgs s_is_number) (defBody s_is_number) (defScope s_is_number) .none kV_is_number dc_is_number pm_is_number an_is_number cd_is_number ct_is_number), sl_is_number⟩)
    (c_is_number : PySem.W.codeIn K cd_is_number "is_number" = true)
    (k_is_number : PySem.W.keepIn K (.ref f_is_number) = true)
    (a_is_whole : PySem.W.nsIn K mainGlobals "is_whole" = some (some (.ref f_is_whole)))
    (l_is_whole : K.lookup f_is_whole = some ⟨oc_is_whole, od_is_whole, .func (PySem.W.fnOf "is_whole" "is_whole" (defArgs s_is_whole) (defBody s_is_whole) (defScope s_is_whole) .none kV_is_whole dc_is_whole pm_is_whole an_is_whole cd_is_whole ct_is_whole), sl_is_whole⟩)
    (c_is_whole : PySem.W.codeIn K cd_is_whole "is_whole" = true)
    (k_is_whole : PySem.W.keepIn K (.ref f_is_whole) = true)
    (a_is_node : PySem.W.nsIn K mainGlobals "is_node" = some (some (.ref f_is_node)))
    (l_is_node : K.lookup f_is_node = some ⟨oc_is_node, od_is_node, .func (PySem.W.fnOf "is_node" "is_node" (defArgs s_is_node) (defBody s_is_node) (defScope s_is_node) .none kV_is_node dc_is_node pm_is_node an_is_node cd_is_node ct_is_node), sl_is_node⟩)
    (c_is_node : PySem.W.codeIn K cd_is_node "is_node" = true)
    (k_is_node : PySem.W.keepIn K (.ref f_is_node) = true)
    (a_check_nodes : PySem.W.nsIn K mainGlobals "check_nodes" = some (some (.ref f_check_nodes)))
    (l_check_nodes : K.lookup f_check_nodes = some ⟨oc_check_nodes, od_check_nodes, .func (PySem.W.fnOf "check_nodes" "check_nodes" (defArgs s_check_nodes) (defBody s_check_nodes) (defScope s_check_nodes) .none kV_check_nodes dc_check_nodes pm_check_nodes an_check_nodes cd_check_nodes ct_check_nodes), sl_check_nodes⟩)
    (c_check_nodes : PySem.W.codeIn K cd_check_nodes "check_nodes" = true)
    (k_check_nodes : PySem.W.keepIn K (.ref f_check_nodes) = true)
    (a_step_of : PySem.W.nsIn K mainGlobals "step_of" = some (some (.ref f_step_of)))
    (l_step_of : K.lookup f_step_of = some ⟨oc_step_of, od_step_of, .func (PySem.W.fnOf "step_of" "step_of" (defArgs s_step_of) (defBody s_step_of) (defScope s_step_of) .none kV_step_of dc_step_of pm_step_of an_step_of cd_step_of ct_step_of), sl_step_of⟩)
    (c_step_of : PySem.W.codeIn K cd_step_of "step_of" = true)
    (k_step_of : PySem.W.keepIn K (.ref f_step_of) = true)
    (a_ordered : PySem.W.nsIn K mainGlobals "ordered" = some (some (.ref f_ordered)))
    (l_ordered : K.lookup f_ordered = some ⟨oc_ordered, od_ordered, .func (PySem.W.fnOf "ordered" "ordered" (defArgs s_ordered) (defBody s_ordered) (defScope s_ordered) .none kV_ordered dc_ordered pm_ordered an_ordered cd_ordered ct_ordered), sl_ordered⟩)
    (c_ordered : PySem.W.codeIn K cd_ordered "ordered" = true)
    (k_ordered : PySem.W.keepIn K (.ref f_ordered) = true)
    (a_painting_order : PySem.W.nsIn K mainGlobals "painting_order" = some (some (.ref f_painting_order)))
    (l_painting_order : K.lookup f_painting_order = some ⟨oc_painting_order, od_painting_order, .func (PySem.W.fnOf "painting_order" "painting_order" (defArgs s_painting_order) (defBody s_painting_order) (defScope s_painting_order) .none kV_painting_order dc_painting_order pm_painting_order an_painting_order cd_painting_order ct_painting_order), sl_painting_order⟩)
    (c_painting_order : PySem.W.codeIn K cd_painting_order "painting_order" = true)
    (k_painting_order : PySem.W.keepIn K (.ref f_painting_order) = true)
    (a_pool : PySem.W.nsIn K mainGlobals "_law_pool" = some (some (.ref f_pool)))
    (l_pool : K.lookup f_pool = some ⟨oc_pool, od_pool, .func (PySem.W.fnOf "_law_pool" "_law_pool" (defArgs s_pool) (defBody s_pool) (defScope s_pool) .none kV_pool dc_pool pm_pool an_pool cd_pool ct_pool), sl_pool⟩)
    (c_pool : PySem.W.codeIn K cd_pool "_law_pool" = true)
    (k_pool : PySem.W.keepIn K (.ref f_pool) = true)
    (a_stream : PySem.W.nsIn K mainGlobals "_law_stream" = some (some (.ref f_stream)))
    (l_stream : K.lookup f_stream = some ⟨oc_stream, od_stream, .func (PySem.W.fnOf "_law_stream" "_law_stream" (defArgs s_stream) (defBody s_stream) (defScope s_stream) .none kV_stream dc_stream pm_stream an_stream cd_stream ct_stream), sl_stream⟩)
    (c_stream : PySem.W.codeIn K cd_stream "_law_stream" = true)
    (k_stream : PySem.W.keepIn K (.ref f_stream) = true)
    (a_is_context : PySem.W.nsIn K mainGlobals "_law_is_context" = some (some (.ref f_is_context)))
    (l_is_context : K.lookup f_is_context = some ⟨oc_is_context, od_is_context, .func (PySem.W.fnOf "_law_is_context" "_law_is_context" (defArgs s_is_context) (defBody s_is_context) (defScope s_is_context) .none kV_is_context dc_is_context pm_is_context an_is_context cd_is_context ct_is_context), sl_is_context⟩)
    (c_is_context : PySem.W.codeIn K cd_is_context "_law_is_context" = true)
    (k_is_context : PySem.W.keepIn K (.ref f_is_context) = true)
    (a_homes : PySem.W.nsIn K mainGlobals "_law_homes" = some (some (.ref f_homes)))
    (l_homes : K.lookup f_homes = some ⟨oc_homes, od_homes, .func (PySem.W.fnOf "_law_homes" "_law_homes" (defArgs s_homes) (defBody s_homes) (defScope s_homes) .none kV_homes dc_homes pm_homes an_homes cd_homes ct_homes), sl_homes⟩)
    (c_homes : PySem.W.codeIn K cd_homes "_law_homes" = true)
    (k_homes : PySem.W.keepIn K (.ref f_homes) = true)
    (a_stands : PySem.W.nsIn K mainGlobals "_law_stands" = some (some (.ref f_stands)))
    (l_stands : K.lookup f_stands = some ⟨oc_stands, od_stands, .func (PySem.W.fnOf "_law_stands" "_law_stands" (defArgs s_stands) (defBody s_stands) (defScope s_stands) .none kV_stands dc_stands pm_stands an_stands cd_stands ct_stands), sl_stands⟩)
    (c_stands : PySem.W.codeIn K cd_stands "_law_stands" = true)
    (k_stands : PySem.W.keepIn K (.ref f_stands) = true)
    (a_is_ahead : PySem.W.nsIn K mainGlobals "_law_is_ahead" = some (some (.ref f_is_ahead)))
    (l_is_ahead : K.lookup f_is_ahead = some ⟨oc_is_ahead, od_is_ahead, .func (PySem.W.fnOf "_law_is_ahead" "_law_is_ahead" (defArgs s_is_ahead) (defBody s_is_ahead) (defScope s_is_ahead) .none kV_is_ahead dc_is_ahead pm_is_ahead an_is_ahead cd_is_ahead ct_is_ahead), sl_is_ahead⟩)
    (c_is_ahead : PySem.W.codeIn K cd_is_ahead "_law_is_ahead" = true)
    (k_is_ahead : PySem.W.keepIn K (.ref f_is_ahead) = true)
    (a_is_order : PySem.W.nsIn K mainGlobals "_law_is_order" = some (some (.ref f_is_order)))
    (l_is_order : K.lookup f_is_order = some ⟨oc_is_order, od_is_order, .func (PySem.W.fnOf "_law_is_order" "_law_is_order" (defArgs s_is_order) (defBody s_is_order) (defScope s_is_order) .none kV_is_order dc_is_order pm_is_order an_is_order cd_is_order ct_is_order), sl_is_order⟩)
    (c_is_order : PySem.W.codeIn K cd_is_order "_law_is_order" = true)
    (k_is_order : PySem.W.keepIn K (.ref f_is_order) = true)
    (a_same : PySem.W.nsIn K mainGlobals "_law_same" = some (some (.ref f_same)))
    (l_same : K.lookup f_same = some ⟨oc_same, od_same, .func (PySem.W.fnOf "_law_same" "_law_same" (defArgs s_same) (defBody s_same) (defScope s_same) .none kV_same dc_same pm_same an_same cd_same ct_same), sl_same⟩)
    (c_same : PySem.W.codeIn K cd_same "_law_same" = true)
    (k_same : PySem.W.keepIn K (.ref f_same) = true)
    (a_is_refused : PySem.W.nsIn K mainGlobals "_law_is_refused" = some (some (.ref f_is_refused)))
    (l_is_refused : K.lookup f_is_refused = some ⟨oc_is_refused, od_is_refused, .func (PySem.W.fnOf "_law_is_refused" "_law_is_refused" (defArgs s_is_refused) (defBody s_is_refused) (defScope s_is_refused) .none kV_is_refused dc_is_refused pm_is_refused an_is_refused cd_is_refused ct_is_refused), sl_is_refused⟩)
    (c_is_refused : PySem.W.codeIn K cd_is_refused "_law_is_refused" = true)
    (k_is_refused : PySem.W.keepIn K (.ref f_is_refused) = true)
    (a_opened : PySem.W.nsIn K mainGlobals "_law_opened" = some (some (.ref f_opened)))
    (l_opened : K.lookup f_opened = some ⟨oc_opened, od_opened, .func (PySem.W.fnOf "_law_opened" "_law_opened" (defArgs s_opened) (defBody s_opened) (defScope s_opened) .none kV_opened dc_opened pm_opened an_opened cd_opened ct_opened), sl_opened⟩)
    (c_opened : PySem.W.codeIn K cd_opened "_law_opened" = true)
    (k_opened : PySem.W.keepIn K (.ref f_opened) = true)
    (a_bent : PySem.W.nsIn K mainGlobals "_law_bent" = some (some (.ref f_bent)))
    (l_bent : K.lookup f_bent = some ⟨oc_bent, od_bent, .func (PySem.W.fnOf "_law_bent" "_law_bent" (defArgs s_bent) (defBody s_bent) (defScope s_bent) .none kV_bent dc_bent pm_bent an_bent cd_bent ct_bent), sl_bent⟩)
    (c_bent : PySem.W.codeIn K cd_bent "_law_bent" = true)
    (k_bent : PySem.W.keepIn K (.ref f_bent) = true)
    (a_law : PySem.W.nsIn K mainGlobals "law" = some (some (.ref f_law)))
    (l_law : K.lookup f_law = some ⟨oc_law, od_law, .func (PySem.W.fnOf "law" "law" (defArgs s_law) (defBody s_law) (defScope s_law) .none kV_law dc_law pm_law an_law cd_law ct_law), sl_law⟩)
    (c_law : PySem.W.codeIn K cd_law "law" = true)
    (k_law : PySem.W.keepIn K (.ref f_law) = true)
    (n_all : PySem.W.nsIn K mainGlobals "all" = some none)
    (n_bool : PySem.W.nsIn K mainGlobals "bool" = some none)
    (n_dict : PySem.W.nsIn K mainGlobals "dict" = some none)
    (n_enumerate : PySem.W.nsIn K mainGlobals "enumerate" = some none)
    (n_int : PySem.W.nsIn K mainGlobals "int" = some none)
    (n_isinstance : PySem.W.nsIn K mainGlobals "isinstance" = some none)
    (n_len : PySem.W.nsIn K mainGlobals "len" = some none)
    (n_list : PySem.W.nsIn K mainGlobals "list" = some none)
    (n_range : PySem.W.nsIn K mainGlobals "range" = some none)
    (n_sorted : PySem.W.nsIn K mainGlobals "sorted" = some none)
    (n_str : PySem.W.nsIn K mainGlobals "str" = some none)
    (n_tuple : PySem.W.nsIn K mainGlobals "tuple" = some none)
    (v_ABOVE : PySem.W.nsIn K mainGlobals "ABOVE" = some (some (.int 6 t_ABOVE)))
    (v_BELOW : PySem.W.nsIn K mainGlobals "BELOW" = some (some (.int 1 t_BELOW)))
    (v_BLOCKS : PySem.W.nsIn K mainGlobals "BLOCKS" = some (some (.int 2 t_BLOCKS)))
    (v_FLOATS : PySem.W.nsIn K mainGlobals "FLOATS" = some (some (.int 3 t_FLOATS)))
    (v_LEVEL : PySem.W.nsIn K mainGlobals "LEVEL" = some (some (.int 5 t_LEVEL)))
    (v_LINES : PySem.W.nsIn K mainGlobals "LINES" = some (some (.int 4 t_LINES)))
    (v_MOST_NODES : PySem.W.nsIn K mainGlobals "MOST_NODES" = some (some (.int 1000 t_MOST_NODES)))
    (v_OWN : PySem.W.nsIn K mainGlobals "OWN" = some (some (.int 0 t_OWN)))
    (g_BadCell : PySem.W.nsIn K mainGlobals "BadCell" = some (some (.ref c_BadCell)))
    (g_BadKey : PySem.W.nsIn K mainGlobals "BadKey" = some (some (.ref c_BadKey)))
    (g_BadList : PySem.W.nsIn K mainGlobals "BadList" = some (some (.ref c_BadList)))
    (g_BadMarks : PySem.W.nsIn K mainGlobals "BadMarks" = some (some (.ref c_BadMarks)))
    (g_BadParts : PySem.W.nsIn K mainGlobals "BadParts" = some (some (.ref c_BadParts)))
    (g_BadState : PySem.W.nsIn K mainGlobals "BadState" = some (some (.ref c_BadState)))
    (g_BadText : PySem.W.nsIn K mainGlobals "BadText" = some (some (.ref c_BadText)))
    (g_BadValue : PySem.W.nsIn K mainGlobals "BadValue" = some (some (.ref c_BadValue)))
    (g_KINDS : PySem.W.nsIn K mainGlobals "KINDS" = some (some (.ref a_KINDS)))
    (l_KINDS : K.lookup a_KINDS = some ⟨.type "tuple", od_KINDS, .seq #[.str "block" u0_KINDS, .str "float" u1_KINDS, .str "box" u2_KINDS, .str "over" u3_KINDS, .str "text" u4_KINDS] m_KINDS, sl_KINDS⟩)
    (e_BadCell : PySem.W.subIn K (.ref c_BadCell) (.type "BaseException") = some true)
    (i_BadCell : PySem.W.isClsIn K c_BadCell = true)
    (y_BadCell : PySem.W.typeIn K (.ref c_BadCell) = some (.type "type"))
    (u_BadList_BadCell : PySem.W.subIn K (.ref c_BadList) (.ref c_BadCell) = some false)
    (e_BadKey : PySem.W.subIn K (.ref c_BadKey) (.type "BaseException") = some true)
    (i_BadKey : PySem.W.isClsIn K c_BadKey = true)
    (y_BadKey : PySem.W.typeIn K (.ref c_BadKey) = some (.type "type"))
    (u_BadList_BadKey : PySem.W.subIn K (.ref c_BadList) (.ref c_BadKey) = some false)
    (e_BadList : PySem.W.subIn K (.ref c_BadList) (.type "BaseException") = some true)
    (i_BadList : PySem.W.isClsIn K c_BadList = true)
    (y_BadList : PySem.W.typeIn K (.ref c_BadList) = some (.type "type"))
    (u_BadList_BadList : PySem.W.subIn K (.ref c_BadList) (.ref c_BadList) = some true)
    (e_BadMarks : PySem.W.subIn K (.ref c_BadMarks) (.type "BaseException") = some true)
    (i_BadMarks : PySem.W.isClsIn K c_BadMarks = true)
    (y_BadMarks : PySem.W.typeIn K (.ref c_BadMarks) = some (.type "type"))
    (u_BadList_BadMarks : PySem.W.subIn K (.ref c_BadList) (.ref c_BadMarks) = some false)
    (e_BadParts : PySem.W.subIn K (.ref c_BadParts) (.type "BaseException") = some true)
    (i_BadParts : PySem.W.isClsIn K c_BadParts = true)
    (y_BadParts : PySem.W.typeIn K (.ref c_BadParts) = some (.type "type"))
    (u_BadList_BadParts : PySem.W.subIn K (.ref c_BadList) (.ref c_BadParts) = some false)
    (e_BadState : PySem.W.subIn K (.ref c_BadState) (.type "BaseException") = some true)
    (i_BadState : PySem.W.isClsIn K c_BadState = true)
    (y_BadState : PySem.W.typeIn K (.ref c_BadState) = some (.type "type"))
    (u_BadList_BadState : PySem.W.subIn K (.ref c_BadList) (.ref c_BadState) = some false)
    (e_BadText : PySem.W.subIn K (.ref c_BadText) (.type "BaseException") = some true)
    (i_BadText : PySem.W.isClsIn K c_BadText = true)
    (y_BadText : PySem.W.typeIn K (.ref c_BadText) = some (.type "type"))
    (u_BadList_BadText : PySem.W.subIn K (.ref c_BadList) (.ref c_BadText) = some false)
    (e_BadValue : PySem.W.subIn K (.ref c_BadValue) (.type "BaseException") = some true)
    (i_BadValue : PySem.W.isClsIn K c_BadValue = true)
    (y_BadValue : PySem.W.typeIn K (.ref c_BadValue) = some (.type "type"))
    (u_BadList_BadValue : PySem.W.subIn K (.ref c_BadList) (.ref c_BadValue) = some false)
    (x_BadList : PySem.W.excIn K c_BadList [.type "Exception", .type "BaseException", .type "object"] "Exception.__new__" = true)
    (kk_BadList : PySem.W.keepIn K (.ref c_BadList) = true) :
    ∃ _ : Tx K mg, True := ⟨{
  C := ⟨a_KINDS, c_BadCell, c_BadKey, c_BadList, c_BadMarks, c_BadParts, c_BadState, c_BadText, c_BadValue⟩,
  ok := { s_KINDS := fun G => .tup (a := a_KINDS) (xs := [.str "block", .str "float", .str "box", .str "over", .str "text"]) (.inr ⟨_, _, m_KINDS, l_KINDS, rfl, rfl, by show 5 ≤ sizeLine; decide, (.cons ⟨_, rfl⟩ (.cons ⟨_, rfl⟩ (.cons ⟨_, rfl⟩ (.cons ⟨_, rfl⟩ (.cons ⟨_, rfl⟩ .nil)))))⟩) ((.cons (.str _) (.cons (.str _) (.cons (.str _) (.cons (.str _) (.cons (.str _) .nil)))))), m_BadList_BadCell := exm_at e_BadCell i_BadCell y_BadCell u_BadList_BadCell, m_BadList_BadKey := exm_at e_BadKey i_BadKey y_BadKey u_BadList_BadKey, m_BadList_BadList := exm_at e_BadList i_BadList y_BadList u_BadList_BadList, m_BadList_BadMarks := exm_at e_BadMarks i_BadMarks y_BadMarks u_BadList_BadMarks, m_BadList_BadParts := exm_at e_BadParts i_BadParts y_BadParts u_BadList_BadParts, m_BadList_BadState := exm_at e_BadState i_BadState y_BadState u_BadList_BadState, m_BadList_BadText := exm_at e_BadText i_BadText y_BadText u_BadList_BadText, m_BadList_BadValue := exm_at e_BadValue i_BadValue y_BadValue u_BadList_BadValue },
  a_longer := f_longer,
  d_longer := _,
  F_longer := fun_mk (st := s_longer) l_longer c_longer k_longer,
  g_longer := PySem.W.mg_of X G a_longer,
  a_pick := f_pick,
  d_pick := _,
  F_pick := fun_mk (st := s_pick) l_pick c_pick k_pick,
  g_pick := PySem.W.mg_of X G a_pick,
  a_far := f_far,
  d_far := _,
  F_far := fun_mk (st := s_far) l_far c_far k_far,
  g_far := PySem.W.mg_of X G a_far,
  a_z := f_z,
  d_z := _,
  F_z := fun_mk (st := s_z) l_z c_z k_z,
  g_z := PySem.W.mg_of X G a_z,
  a_list := f_list,
  d_list := _,
  F_list := fun_mk (st := s_list) l_list c_list k_list,
  g_list := PySem.W.mg_of X G a_list,
  a_is_number := f_is_number,
  d_is_number := _,
  F_is_number := fun_mk (st := s_is_number) l_is_number c_is_number k_is_number,
  g_is_number := PySem.W.mg_of X G a_is_number,
  a_is_whole := f_is_whole,
  d_is_whole := _,
  F_is_whole := fun_mk (st := s_is_whole) l_is_whole c_is_whole k_is_whole,
  g_is_whole := PySem.W.mg_of X G a_is_whole,
  a_is_node := f_is_node,
  d_is_node := _,
  F_is_node := fun_mk (st := s_is_node) l_is_node c_is_node k_is_node,
  g_is_node := PySem.W.mg_of X G a_is_node,
  a_check_nodes := f_check_nodes,
  d_check_nodes := _,
  F_check_nodes := fun_mk (st := s_check_nodes) l_check_nodes c_check_nodes k_check_nodes,
  g_check_nodes := PySem.W.mg_of X G a_check_nodes,
  a_step_of := f_step_of,
  d_step_of := _,
  F_step_of := fun_mk (st := s_step_of) l_step_of c_step_of k_step_of,
  g_step_of := PySem.W.mg_of X G a_step_of,
  a_ordered := f_ordered,
  d_ordered := _,
  F_ordered := fun_mk (st := s_ordered) l_ordered c_ordered k_ordered,
  g_ordered := PySem.W.mg_of X G a_ordered,
  a_painting_order := f_painting_order,
  d_painting_order := _,
  F_painting_order := fun_mk (st := s_painting_order) l_painting_order c_painting_order k_painting_order,
  g_painting_order := PySem.W.mg_of X G a_painting_order,
  a_pool := f_pool,
  d_pool := _,
  F_pool := fun_mk (st := s_pool) l_pool c_pool k_pool,
  g_pool := PySem.W.mg_of X G a_pool,
  a_stream := f_stream,
  d_stream := _,
  F_stream := fun_mk (st := s_stream) l_stream c_stream k_stream,
  g_stream := PySem.W.mg_of X G a_stream,
  a_is_context := f_is_context,
  d_is_context := _,
  F_is_context := fun_mk (st := s_is_context) l_is_context c_is_context k_is_context,
  g_is_context := PySem.W.mg_of X G a_is_context,
  a_homes := f_homes,
  d_homes := _,
  F_homes := fun_mk (st := s_homes) l_homes c_homes k_homes,
  g_homes := PySem.W.mg_of X G a_homes,
  a_stands := f_stands,
  d_stands := _,
  F_stands := fun_mk (st := s_stands) l_stands c_stands k_stands,
  g_stands := PySem.W.mg_of X G a_stands,
  a_is_ahead := f_is_ahead,
  d_is_ahead := _,
  F_is_ahead := fun_mk (st := s_is_ahead) l_is_ahead c_is_ahead k_is_ahead,
  g_is_ahead := PySem.W.mg_of X G a_is_ahead,
  a_is_order := f_is_order,
  d_is_order := _,
  F_is_order := fun_mk (st := s_is_order) l_is_order c_is_order k_is_order,
  g_is_order := PySem.W.mg_of X G a_is_order,
  a_same := f_same,
  d_same := _,
  F_same := fun_mk (st := s_same) l_same c_same k_same,
  g_same := PySem.W.mg_of X G a_same,
  a_is_refused := f_is_refused,
  d_is_refused := _,
  F_is_refused := fun_mk (st := s_is_refused) l_is_refused c_is_refused k_is_refused,
  g_is_refused := PySem.W.mg_of X G a_is_refused,
  a_opened := f_opened,
  d_opened := _,
  F_opened := fun_mk (st := s_opened) l_opened c_opened k_opened,
  g_opened := PySem.W.mg_of X G a_opened,
  a_bent := f_bent,
  d_bent := _,
  F_bent := fun_mk (st := s_bent) l_bent c_bent k_bent,
  g_bent := PySem.W.mg_of X G a_bent,
  a_law := f_law,
  d_law := _,
  F_law := fun_mk (st := s_law) l_law c_law k_law,
  g_law := PySem.W.mg_of X G a_law,
  n_all := PySem.W.mg_none_of X G n_all,
  n_bool := PySem.W.mg_none_of X G n_bool,
  n_dict := PySem.W.mg_none_of X G n_dict,
  n_enumerate := PySem.W.mg_none_of X G n_enumerate,
  n_int := PySem.W.mg_none_of X G n_int,
  n_isinstance := PySem.W.mg_none_of X G n_isinstance,
  n_len := PySem.W.mg_none_of X G n_len,
  n_list := PySem.W.mg_none_of X G n_list,
  n_range := PySem.W.mg_none_of X G n_range,
  n_sorted := PySem.W.mg_none_of X G n_sorted,
  n_str := PySem.W.mg_none_of X G n_str,
  n_tuple := PySem.W.mg_none_of X G n_tuple,
  g_ABOVE := ⟨t_ABOVE, PySem.W.mg_of X G v_ABOVE⟩,
  g_BELOW := ⟨t_BELOW, PySem.W.mg_of X G v_BELOW⟩,
  g_BLOCKS := ⟨t_BLOCKS, PySem.W.mg_of X G v_BLOCKS⟩,
  g_FLOATS := ⟨t_FLOATS, PySem.W.mg_of X G v_FLOATS⟩,
  g_LEVEL := ⟨t_LEVEL, PySem.W.mg_of X G v_LEVEL⟩,
  g_LINES := ⟨t_LINES, PySem.W.mg_of X G v_LINES⟩,
  g_MOST_NODES := ⟨t_MOST_NODES, PySem.W.mg_of X G v_MOST_NODES⟩,
  g_OWN := ⟨t_OWN, PySem.W.mg_of X G v_OWN⟩,
  g_KINDS := PySem.W.mg_of X G g_KINDS,
  g_BadCell := PySem.W.mg_of X G g_BadCell,
  g_BadKey := PySem.W.mg_of X G g_BadKey,
  g_BadList := PySem.W.mg_of X G g_BadList,
  g_BadMarks := PySem.W.mg_of X G g_BadMarks,
  g_BadParts := PySem.W.mg_of X G g_BadParts,
  g_BadState := PySem.W.mg_of X G g_BadState,
  g_BadText := PySem.W.mg_of X G g_BadText,
  g_BadValue := PySem.W.mg_of X G g_BadValue,
  x_BadList := x_BadList,
  k_BadList := kk_BadList,
  b_BadList := e_BadList,
  t_BadList := y_BadList }, trivial⟩
theorem all_mk {l : PySem.W.OpenLaw} {w : World} {K : PySem.W.Frag} {mg : Str → Option Value} {fa : Addr} (hfa : mg "law" = some (.ref fa)) (h : ∃ _ : Tx K mg, True) :
    ∃ fd : FuncData, (∀ (s : Shared) (v : Value), BindsTo s fd ⟨[v], []⟩ [("script", v)]) ∧ ∀ base : Heap, K.In base → base.Ns mainGlobals mg → FnOk l.prog w K mg base CX0 6 fa fd ["script"] (spB K pre_law) := by
  obtain ⟨T, _⟩ := h
  have e := hfa.symm.trans T.g_law
  cases e
  refine ⟨T.d_law, fun s v => ?_, fun base _ _ => ok_law T⟩
  obtain ⟨⟨_, _, _, _, _, _, _, _, _, e, _, _⟩, _⟩ := T.F_law
  rw [e]
  exact .of_eq rfl
theorem walk {l : PySem.W.OpenLaw} {q : Program} {loose : List Str} {XP : (Str → Option Value) → Heap → Prop} {YP : World → Heap → Prop} {d : DefRec} {K : Params → PySem.W.Frag} (hn : l.most = some 63) (hdf : d.params.defaults = [])
    (hY : ∀ (w : World) (h : Heap), YP w h → (K w.params).In h)
    (F : ∀ (w : World) (mg : Str → Option Value) (fa : Addr) (h : Heap), (K w.params).In h → h.Ns mainGlobals mg → mg d.name = some (.ref fa) →
      ∃ fd : FuncData, (∀ (s : Shared) (u : Value), BindsTo s fd ⟨[u], []⟩ [("script", u)]) ∧ ∀ base : Heap, (K w.params).In base → base.Ns mainGlobals mg → FnOk l.prog w (K w.params) mg base CX0 6 fa fd ["script"] (spB (K w.params) pre_law)) :
    PySem.W.WalkO q loose XP YP l.row.toRowW d [] (fun f vs => PySem.call f vs) :=
  L2.walk_of (n := 63) (k := 6) (x := "script") (CX := fun _ => CX0) (sp := fun w => spB (K w.params) pre_law) hn (by decide) hdf ⟨rfl, by decide, by decide⟩ hY F
    (fun w H a ns hl _ hS => ⟨H, [], [.fls (ns.map D.int)], fun d _ => d = .bl true, .one (.fls hS (RpL.ints ns)), ⟨Ex.refl H, fun c hc => (nomatch hc), List.nodup_nil⟩, ⟨ns, rfl, hl, fun _ => rfl⟩, fun v G' H' M' d e y r p => by
      subst p
      cases r
      rfl⟩) fun _ _ _ _ _ z => z
end K62

open PySem PySem.W PyProof.Rows in
set_option maxRecDepth 100000 in
set_option maxHeartbeats 0 in
theorem PySem.Challenge.cw_pageseen_k62_orders_of_painting_holds : PySem.Challenge.rw_pageseen_k62_orders_of_painting.Holds := by
  w_on; o_law; k_head; (case hw => w_witness2)
  k_fill
  refine K62.walk (l := PySem.Challenge.rw_pageseen_k62_orders_of_painting) rfl rfl (fun w h Y => PySem.W.kIn_of Y) ?F
  case F =>
    intro w mg fa h KX G hmg
    refine K62.all_mk hmg ?all
    clear hmg
    refine' K62.tx_mk KX G ?a_longer ?l_longer ?c_longer ?k_longer ?a_pick ?l_pick ?c_pick ?k_pick ?a_far ?l_far ?c_far ?k_far ?a_z ?l_z ?c_z ?k_z ?a_list ?l_list ?c_list ?k_list ?a_is_number ?l_is_number ?c_is_number ?k_is_number ?a_is_whole ?l_is_whole ?c_is_whole ?k_is_whole ?a_is_node ?l_is_node ?c_is_node ?k_is_node ?a_check_nodes ?l_check_nodes ?c_check_nodes ?k_check_nodes ?a_step_of ?l_step_of ?c_step_of ?k_step_of ?a_ordered ?l_ordered ?c_ordered ?k_ordered ?a_painting_order ?l_painting_order ?c_painting_order ?k_painting_order ?a_pool ?l_pool ?c_pool ?k_pool ?a_stream ?l_stream ?c_stream ?k_stream ?a_is_context ?l_is_context ?c_is_context ?k_is_context ?a_homes ?l_homes ?c_homes ?k_homes ?a_stands ?l_stands ?c_stands ?k_stands ?a_is_ahead ?l_is_ahead ?c_is_ahead ?k_is_ahead ?a_is_order ?l_is_order ?c_is_order ?k_is_order ?a_same ?l_same ?c_same ?k_same ?a_is_refused ?l_is_refused ?c_is_refused ?k_is_refused ?a_opened ?l_opened ?c_opened ?k_opened ?a_bent ?l_bent ?c_bent ?k_bent ?a_law ?l_law ?c_law ?k_law ?n_all ?n_bool ?n_dict ?n_enumerate ?n_int ?n_isinstance ?n_len ?n_list ?n_range ?n_sorted ?n_str ?n_tuple ?v_ABOVE ?v_BELOW ?v_BLOCKS ?v_FLOATS ?v_LEVEL ?v_LINES ?v_MOST_NODES ?v_OWN ?g_BadCell ?g_BadKey ?g_BadList ?g_BadMarks ?g_BadParts ?g_BadState ?g_BadText ?g_BadValue ?g_KINDS ?l_KINDS ?e_BadCell ?i_BadCell ?y_BadCell ?u_BadList_BadCell ?e_BadKey ?i_BadKey ?y_BadKey ?u_BadList_BadKey ?e_BadList ?i_BadList ?y_BadList ?u_BadList_BadList ?e_BadMarks ?i_BadMarks ?y_BadMarks ?u_BadList_BadMarks ?e_BadParts ?i_BadParts ?y_BadParts ?u_BadList_BadParts ?e_BadState ?i_BadState ?y_BadState ?u_BadList_BadState ?e_BadText ?i_BadText ?y_BadText ?u_BadList_BadText ?e_BadValue ?i_BadValue ?y_BadValue ?u_BadList_BadValue ?x_BadList ?kk_BadList
    (case a_longer => k_is)
    (case l_longer => k_is)
    (case c_longer => k_is)
    (case k_longer => k_is)
    (case a_pick => k_is)
    (case l_pick => k_is)
    (case c_pick => k_is)
    (case k_pick => k_is)
    (case a_far => k_is)
    (case l_far => k_is)
    (case c_far => k_is)
    (case k_far => k_is)
    (case a_z => k_is)
    (case l_z => k_is)
    (case c_z => k_is)
    (case k_z => k_is)
    (case a_list => k_is)
    (case l_list => k_is)
    (case c_list => k_is)
    (case k_list => k_is)
    (case a_is_number => k_is)
    (case l_is_number => k_is)
    (case c_is_number => k_is)
    (case k_is_number => k_is)
    (case a_is_whole => k_is)
    (case l_is_whole => k_is)
    (case c_is_whole => k_is)
    (case k_is_whole => k_is)
    (case a_is_node => k_is)
    (case l_is_node => k_is)
    (case c_is_node => k_is)
    (case k_is_node => k_is)
    (case a_check_nodes => k_is)
    (case l_check_nodes => k_is)
    (case c_check_nodes => k_is)
    (case k_check_nodes => k_is)
    (case a_step_of => k_is)
    (case l_step_of => k_is)
    (case c_step_of => k_is)
    (case k_step_of => k_is)
    (case a_ordered => k_is)
    (case l_ordered => k_is)
    (case c_ordered => k_is)
    (case k_ordered => k_is)
    (case a_painting_order => k_is)
    (case l_painting_order => k_is)
    (case c_painting_order => k_is)
    (case k_painting_order => k_is)
    (case a_pool => k_is)
    (case l_pool => k_is)
    (case c_pool => k_is)
    (case k_pool => k_is)
    (case a_stream => k_is)
    (case l_stream => k_is)
    (case c_stream => k_is)
    (case k_stream => k_is)
    (case a_is_context => k_is)
    (case l_is_context => k_is)
    (case c_is_context => k_is)
    (case k_is_context => k_is)
    (case a_homes => k_is)
    (case l_homes => k_is)
    (case c_homes => k_is)
    (case k_homes => k_is)
    (case a_stands => k_is)
    (case l_stands => k_is)
    (case c_stands => k_is)
    (case k_stands => k_is)
    (case a_is_ahead => k_is)
    (case l_is_ahead => k_is)
    (case c_is_ahead => k_is)
    (case k_is_ahead => k_is)
    (case a_is_order => k_is)
    (case l_is_order => k_is)
    (case c_is_order => k_is)
    (case k_is_order => k_is)
    (case a_same => k_is)
    (case l_same => k_is)
    (case c_same => k_is)
    (case k_same => k_is)
    (case a_is_refused => k_is)
    (case l_is_refused => k_is)
    (case c_is_refused => k_is)
    (case k_is_refused => k_is)
    (case a_opened => k_is)
    (case l_opened => k_is)
    (case c_opened => k_is)
    (case k_opened => k_is)
    (case a_bent => k_is)
    (case l_bent => k_is)
    (case c_bent => k_is)
    (case k_bent => k_is)
    (case a_law => k_is)
    (case l_law => k_is)
    (case c_law => k_is)
    (case k_law => k_is)
    (case n_all => k_is)
    (case n_bool => k_is)
    (case n_dict => k_is)
    (case n_enumerate => k_is)
    (case n_int => k_is)
    (case n_isinstance => k_is)
    (case n_len => k_is)
    (case n_list => k_is)
    (case n_range => k_is)
    (case n_sorted => k_is)
    (case n_str => k_is)
    (case n_tuple => k_is)
    (case v_ABOVE => k_is)
    (case v_BELOW => k_is)
    (case v_BLOCKS => k_is)
    (case v_FLOATS => k_is)
    (case v_LEVEL => k_is)
    (case v_LINES => k_is)
    (case v_MOST_NODES => k_is)
    (case v_OWN => k_is)
    (case g_BadCell => k_is)
    (case g_BadKey => k_is)
    (case g_BadList => k_is)
    (case g_BadMarks => k_is)
    (case g_BadParts => k_is)
    (case g_BadState => k_is)
    (case g_BadText => k_is)
    (case g_BadValue => k_is)
    (case g_KINDS => k_is)
    (case l_KINDS => k_is)
    (case e_BadCell => k_is)
    (case i_BadCell => k_is)
    (case y_BadCell => k_is)
    (case u_BadList_BadCell => k_is)
    (case e_BadKey => k_is)
    (case i_BadKey => k_is)
    (case y_BadKey => k_is)
    (case u_BadList_BadKey => k_is)
    (case e_BadList => k_is)
    (case i_BadList => k_is)
    (case y_BadList => k_is)
    (case u_BadList_BadList => k_is)
    (case e_BadMarks => k_is)
    (case i_BadMarks => k_is)
    (case y_BadMarks => k_is)
    (case u_BadList_BadMarks => k_is)
    (case e_BadParts => k_is)
    (case i_BadParts => k_is)
    (case y_BadParts => k_is)
    (case u_BadList_BadParts => k_is)
    (case e_BadState => k_is)
    (case i_BadState => k_is)
    (case y_BadState => k_is)
    (case u_BadList_BadState => k_is)
    (case e_BadText => k_is)
    (case i_BadText => k_is)
    (case y_BadText => k_is)
    (case u_BadList_BadText => k_is)
    (case e_BadValue => k_is)
    (case i_BadValue => k_is)
    (case y_BadValue => k_is)
    (case u_BadList_BadValue => k_is)
    (case x_BadList => k_exc)
    (case kk_BadList => k_is)

