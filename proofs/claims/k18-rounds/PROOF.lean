import PyProof.Rows.All
import Wide.All
import OpenK.AllK
import Wide.FinOn
import HandS.ForMost
import HandS.ForExc
import HandS.Wide
import HandS.CallSlots
import HandS.IsInst
import HandS.More
import HandS.Text
import HandS.TupAny
import KE.KMathG
import HandS.Star
import KE.GoesMore
import KE.GoesEnum
import HandS.ExcIs
import HandS.Conv
import HandS.Dict
import HandS.Ends
import HandS.EndBits
import HandS.SortInts
import HandS.Style
import HandS.SetFor
import HandS.SortKw
import HandS.TupSets
import HandS.ExcValue
import PyProof.TupleOfSeq
import KE.DataMinMax
import HandS.SetBool
import HandS.DictComp
import HandS.Strs
import KE.DatumOrd
import HandS.Codes
import PySem.Challenge.RW_sumhouse_k18_rounds_keep_the_least_form
set_option Elab.async false
set_option linter.all false
set_option maxRecDepth 100000
set_option maxHeartbeats 8000000
/-! DBase: a layer of plain data over the hand layer: data D, memory Mem, worlds, the judgements DE DA DT DS DSs, their first rules. -/
namespace DL
open PySem PySem.Spec PyProof.Rows L2
abbrev St := L2.St

/-! ### data -/
inductive D where
  | non | bl (b : Bool) | int (i : Int) | str (x : Str)
  | tup (xs : List D)
  /-- a list that no one changes any more -/
  | lst (xs : List D)
  /-- a list that is only read (the script, a list of the top) -/
  | ro (xs : List D)
  | dic (ks : List Key) (vs : List D)
  | ins (C : Addr) (ns : List Str) (vs : List D)
  /-- an object that may be changed: its place in the memory -/
  | obj (n : Nat)
  | cls (a : Addr) | ty (n : String)
  /-- a caught exception at a, its own dict at d -/
  | exn (a d : Addr) (ns : List Str) (vs : List D)

mutual
def D.und (N : Nat) : D → Bool
  | .tup xs => D.unds N xs
  | .lst xs => D.unds N xs
  | .ro xs => D.unds N xs
  | .dic _ vs => D.unds N vs
  | .ins _ _ vs => D.unds N vs
  | .exn _ _ _ vs => D.unds N vs
  | .obj n => decide (n < N)
  | .non => true | .bl _ => true | .int _ => true | .str _ => true | .cls _ => true | .ty _ => true
def D.unds (N : Nat) : List D → Bool
  | [] => true
  | d :: r => D.und N d && D.unds N r
end

/-- what stands at a place of the memory -/
inductive DO where
  | lst (xs : List D)
  | dic (ks : List Key) (vs : List D)
  | dicT (ks : List (List Key)) (vs : List D)
  | ins (C : Addr) (ns : List Str) (vs : List D)
  | dead
abbrev Mem := List DO
abbrev Loc := List (Option D)
/-- an exception: its class, its own fields -/
structure Ex where
  cls : Value
  fs : Option (List Str × List D)
inductive R (α : Type) where
  | ok (a : α) (m : Mem) | err (e : Ex) (m : Mem) | bad
def R.bind {α β : Type} (r : R α) (k : α → Mem → R β) : R β := match r with
  | .ok a m => k a m
  | .err e m => .err e m
  | .bad => .bad
inductive SR where
  | nx (loc : Loc) (m : Mem) | ret (d : D) (m : Mem) | brk (loc : Loc) (m : Mem) | ct (loc : Loc) (m : Mem) | err (e : Ex) (loc : Loc) (m : Mem) | bad

/-! ### worlds -/
abbrev Rho := List (Option Addr)
def KL (K : PySem.W.Frag) (a : Addr) (xs : List V) : Prop :=
  ∃ (o : Obj) (its : Array Value) (n : Nat), K.lookup a = some o ∧ o.cls = .type "list" ∧ o.dict = none ∧ o.data = .seq its n ∧ its.size ≤ sizeLine ∧ Vals xs its.toList
def KT (K : PySem.W.Frag) (a : Addr) (xs : List V) : Prop :=
  ∃ (o : Obj) (its : Array Value) (n : Nat), K.lookup a = some o ∧ o.cls = .type "tuple" ∧ o.data = .seq its n ∧ its.size ≤ sizeLine ∧ Vals xs its.toList
def FxL (K : PySem.W.Frag) (ρ : Rho) (H : Hp) (a : Addr) (xs : List V) : Prop := (Rd H a (.lst xs) ∧ some a ∉ ρ) ∨ KL K a xs
def FxT (K : PySem.W.Frag) (ρ : Rho) (H : Hp) (a : Addr) (xs : List V) : Prop := (Rd H a (.tup xs) ∧ some a ∉ ρ) ∨ KT K a xs
theorem FxL.sq {K : PySem.W.Frag} {ρ : Rho} {H : Hp} {a : Addr} {xs : List V} (h : FxL K ρ H a xs) : SqL K H a xs := h.elim (fun x => .inl x.1) .inr
theorem FxT.sq {K : PySem.W.Frag} {ρ : Rho} {H : Hp} {a : Addr} {xs : List V} (h : FxT K ρ H a xs) : SqT K H a xs := h.elim (fun x => .inl x.1) .inr

mutual
inductive RV (K : PySem.W.Frag) (ρ : Rho) (H : Hp) : D → V → Prop where
  | non : RV K ρ H .non .non
  | bl (b : Bool) : RV K ρ H (.bl b) (.bl b)
  | int (i : Int) : RV K ρ H (.int i) (.int i)
  | str (x : Str) : RV K ρ H (.str x) (.str x)
  | tup {a : Addr} {xs : List V} {ds : List D} : FxT K ρ H a xs → RVs K ρ H ds xs → RV K ρ H (.tup ds) (.ref a)
  | lst {a : Addr} {xs : List V} {ds : List D} : H a = some (.lst xs) → some a ∉ ρ → RVs K ρ H ds xs → RV K ρ H (.lst ds) (.ref a)
  | ro {a : Addr} {xs : List V} {ds : List D} : FxL K ρ H a xs → RVs K ρ H ds xs → RV K ρ H (.ro ds) (.ref a)
  | dic {a : Addr} {kvs : List (Key × V)} {ks : List Key} {ds : List D} : H a = some (.dK kvs) → some a ∉ ρ → kvs.map (·.1) = ks → RVs K ρ H ds (kvs.map (·.2)) → RV K ρ H (.dic ks ds) (.ref a)
  | ins {a C dx : Addr} {fs : List (Str × V)} {ns : List Str} {ds : List D} : H a = some (.ins C dx fs) → some a ∉ ρ → fs.map (·.1) = ns → RVs K ρ H ds (fs.map (·.2)) → RV K ρ H (.ins C ns ds) (.ref a)
  | obj {n : Nat} {a : Addr} : ρ[n]? = some (some a) → RV K ρ H (.obj n) (.ref a)
  | cls (a : Addr) : RV K ρ H (.cls a) (.ref a)
  | ty (n : String) : RV K ρ H (.ty n) (.ty n)
  | exn {a d : Addr} {fs : List (Str × V)} {ns : List Str} {ds : List D} : H d = some (.xd fs) → some d ∉ ρ → fs.map (·.1) = ns → RVs K ρ H ds (fs.map (·.2)) → RV K ρ H (.exn a d ns ds) (.ref a)
inductive RVs (K : PySem.W.Frag) (ρ : Rho) (H : Hp) : List D → List V → Prop where
  | nil : RVs K ρ H [] []
  | cons {d : D} {v : V} {ds : List D} {vs : List V} : RV K ρ H d v → RVs K ρ H ds vs → RVs K ρ H (d :: ds) (v :: vs)
end

def RO (K : PySem.W.Frag) (ρ : Rho) (H : Hp) (a : Addr) : DO → Prop
  | .lst ds => ∃ xs, H a = some (.lst xs) ∧ RVs K ρ H ds xs
  | .dic ks ds => ∃ kvs, H a = some (.dK kvs) ∧ kvs.map (·.1) = ks ∧ RVs K ρ H ds (kvs.map (·.2))
  | .dicT ks ds => ∃ kvs, H a = some (.dT kvs) ∧ kvs.map (·.1) = ks ∧ RVs K ρ H ds (kvs.map (·.2))
  | .ins C ns ds => ∃ dx fs, H a = some (.ins C dx fs) ∧ fs.map (·.1) = ns ∧ RVs K ρ H ds (fs.map (·.2))
  | .dead => False
structure RM (K : PySem.W.Frag) (ρ : Rho) (H : Hp) (m : Mem) : Prop where
  len : ρ.length = m.length
  at_ : ∀ (n : Nat) (a : Addr), ρ[n]? = some (some a) → ∃ o, m[n]? = some o ∧ RO K ρ H a o
  inj : ∀ (n n' : Nat) (a : Addr), ρ[n]? = some (some a) → ρ[n']? = some (some a) → n = n'
def RL (K : PySem.W.Frag) (ρ : Rho) (H : Hp) (loc : Loc) (σ : St) : Prop :=
  loc.length = σ.length ∧ ∀ (i : Nat) (d : D), loc[i]? = some (some d) → ∃ v, σ[i]? = some (some v) ∧ RV K ρ H d v
/-- a later world; the first N places stand -/
structure Le (N : Nat) (ρ : Rho) (H : Hp) (ρ' : Rho) (H' : Hp) : Prop where
  len : ρ.length ≤ ρ'.length
  pre : ∀ n, n < N → ρ'[n]? = ρ[n]?
  old : ∀ a, some a ∈ ρ' → some a ∈ ρ ∨ H a = none
  keep : ∀ a o, H a = some o → some a ∉ ρ → H' a = some o
theorem Le.refl {N : Nat} {ρ : Rho} {H : Hp} : Le N ρ H ρ H := ⟨Nat.le_refl _, fun _ _ => rfl, fun _ h => .inl h, fun _ _ h _ => h⟩
theorem Le.out {N : Nat} {ρ ρ' : Rho} {H H' : Hp} (l : Le N ρ H ρ' H') {a : Addr} {o : HO} (h : H a = some o) (n : some a ∉ ρ) : some a ∉ ρ' := fun z => by
  rcases l.old a z with z | z
  · exact n z
  · rw [h] at z; cases z
theorem Le.trans {N : Nat} {ρ ρ1 ρ2 : Rho} {H H1 H2 : Hp} (a : Le N ρ H ρ1 H1) (b : Le N ρ1 H1 ρ2 H2) : Le N ρ H ρ2 H2 where
  len := Nat.le_trans a.len b.len
  pre := fun n hn => (b.pre n hn).trans (a.pre n hn)
  old := fun c hc => by
    rcases b.old c hc with z | z
    · exact a.old c z
    · cases q : H c with
      | none => exact .inr rfl
      | some o =>
        by_cases w : some c ∈ ρ
        · exact .inl w
        · rw [a.keep c o q w] at z; cases z
  keep := fun c o h n => b.keep c o (a.keep c o h n) (a.out h n)
theorem Le.less {N N' : Nat} {ρ ρ' : Rho} {H H' : Hp} (l : Le N' ρ H ρ' H') (h : N ≤ N') : Le N ρ H ρ' H' := ⟨l.len, fun n hn => l.pre n (Nat.lt_of_lt_of_le hn h), l.old, l.keep⟩
/-- two steps where the first keeps all places -/
theorem Le.trans' {N : Nat} {ρ ρ1 ρ2 : Rho} {H H1 H2 : Hp} (a : Le ρ.length ρ H ρ1 H1) (b : Le N ρ1 H1 ρ2 H2) (hN : N ≤ ρ.length) : Le N ρ H ρ2 H2 := (a.less hN).trans b
theorem Le.all {ρ ρ1 ρ2 : Rho} {H H1 H2 : Hp} (a : Le ρ.length ρ H ρ1 H1) (b : Le ρ1.length ρ1 H1 ρ2 H2) : Le ρ.length ρ H ρ2 H2 := a.trans (b.less a.len)

section
variable {K : PySem.W.Frag} {ρ ρ' : Rho} {H H' : Hp} {N : Nat}
theorem FxL.mono {a : Addr} {xs : List V} (l : Le N ρ H ρ' H') (h : FxL K ρ H a xs) : FxL K ρ' H' a xs := by
  rcases h with ⟨h, n⟩ | h
  · rcases h with h | ⟨o, h⟩
    · exact .inl ⟨.inl (l.keep _ _ h n), l.out h n⟩
    · exact .inl ⟨.inr ⟨o, l.keep _ _ h n⟩, l.out h n⟩
  · exact .inr h
theorem FxT.mono {a : Addr} {xs : List V} (l : Le N ρ H ρ' H') (h : FxT K ρ H a xs) : FxT K ρ' H' a xs := by
  rcases h with ⟨h, n⟩ | h
  · rcases h with h | ⟨o, h⟩
    · exact .inl ⟨.inl (l.keep _ _ h n), l.out h n⟩
    · exact .inl ⟨.inr ⟨o, l.keep _ _ h n⟩, l.out h n⟩
  · exact .inr h
mutual
theorem RV.monoN (l : Le N ρ H ρ' H') : ∀ {d : D} {v : V}, RV K ρ H d v → d.und N = true → RV K ρ' H' d v
  | _, _, .non, _ => .non
  | _, _, .bl _, _ => .bl _
  | _, _, .int _, _ => .int _
  | _, _, .str _, _ => .str _
  | _, _, .tup f r, b => .tup (f.mono l) (RVs.monoN l r (by simpa [D.und] using b))
  | _, _, .lst h n r, b => .lst (l.keep _ _ h n) (l.out h n) (RVs.monoN l r (by simpa [D.und] using b))
  | _, _, .ro f r, b => .ro (f.mono l) (RVs.monoN l r (by simpa [D.und] using b))
  | _, _, .dic h n e r, b => .dic (l.keep _ _ h n) (l.out h n) e (RVs.monoN l r (by simpa [D.und] using b))
  | _, _, .ins h n e r, b => .ins (l.keep _ _ h n) (l.out h n) e (RVs.monoN l r (by simpa [D.und] using b))
  | _, _, .obj (n := n) h, b => .obj (by
      have hn : n < N := by simpa [D.und] using b
      rw [l.pre n hn]; exact h)
  | _, _, .cls _, _ => .cls _
  | _, _, .ty _, _ => .ty _
  | _, _, .exn h n e r, b => .exn (l.keep _ _ h n) (l.out h n) e (RVs.monoN l r (by simpa [D.und] using b))
theorem RVs.monoN (l : Le N ρ H ρ' H') : ∀ {ds : List D} {vs : List V}, RVs K ρ H ds vs → D.unds N ds = true → RVs K ρ' H' ds vs
  | _, _, .nil, _ => .nil
  | _, _, .cons (d := d) (ds := ds) r t, b => by
    have hb : D.und N d = true ∧ D.unds N ds = true := by simpa [D.unds] using b
    exact .cons (RV.monoN l r hb.1) (RVs.monoN l t hb.2)
end
mutual
theorem RV.und : ∀ {d : D} {v : V}, RV K ρ H d v → d.und ρ.length = true
  | _, _, .non => by simp [D.und]
  | _, _, .bl _ => by simp [D.und]
  | _, _, .int _ => by simp [D.und]
  | _, _, .str _ => by simp [D.und]
  | _, _, .tup f r => by simpa [D.und] using RVs.und r
  | _, _, .lst h n r => by simpa [D.und] using RVs.und r
  | _, _, .ro f r => by simpa [D.und] using RVs.und r
  | _, _, .dic h n e r => by simpa [D.und] using RVs.und r
  | _, _, .ins h n e r => by simpa [D.und] using RVs.und r
  | _, _, .obj h => by simpa [D.und] using (List.getElem?_eq_some_iff.mp h).1
  | _, _, .cls _ => by simp [D.und]
  | _, _, .ty _ => by simp [D.und]
  | _, _, .exn h n e r => by simpa [D.und] using RVs.und r
theorem RVs.und : ∀ {ds : List D} {vs : List V}, RVs K ρ H ds vs → D.unds ρ.length ds = true
  | _, _, .nil => by simp [D.unds]
  | _, _, .cons r t => by simp [D.unds, RV.und r, RVs.und t]
end
theorem RV.mono {d : D} {v : V} (l : Le ρ.length ρ H ρ' H') (r : RV K ρ H d v) : RV K ρ' H' d v := r.monoN l r.und
theorem RVs.mono {ds : List D} {vs : List V} (l : Le ρ.length ρ H ρ' H') (r : RVs K ρ H ds vs) : RVs K ρ' H' ds vs := r.monoN l r.und
theorem RL.mono {loc : Loc} {σ : St} (l : Le ρ.length ρ H ρ' H') (r : RL K ρ H loc σ) : RL K ρ' H' loc σ := ⟨r.1, fun i d h => by
  obtain ⟨v, e, q⟩ := r.2 i d h
  exact ⟨v, e, q.mono l⟩⟩
theorem RVs.length : ∀ {ds : List D} {vs : List V}, RVs K ρ H ds vs → ds.length = vs.length
  | _, _, .nil => rfl
  | _, _, .cons _ t => by simp [RVs.length t]
theorem RVs.get : ∀ {ds : List D} {vs : List V} {i : Nat} {d : D}, RVs K ρ H ds vs → ds[i]? = some d → ∃ v, vs[i]? = some v ∧ RV K ρ H d v
  | _, _, _, _, .nil, e => by simp at e
  | _, _, 0, _, .cons r _, e => by simp at e; subst e; exact ⟨_, rfl, r⟩
  | _, _, i + 1, _, .cons _ t, e => by
    obtain ⟨u, h1, h2⟩ := RVs.get (i := i) t (by simpa using e)
    exact ⟨u, by simpa using h1, h2⟩
theorem RVs.get' : ∀ {ds : List D} {vs : List V} {i : Nat} {v : V}, RVs K ρ H ds vs → vs[i]? = some v → ∃ d, ds[i]? = some d ∧ RV K ρ H d v
  | _, _, _, _, .nil, e => by simp at e
  | _, _, 0, _, .cons r _, e => by simp at e; subst e; exact ⟨_, rfl, r⟩
  | _, _, i + 1, _, .cons _ t, e => by
    obtain ⟨u, h1, h2⟩ := RVs.get' (i := i) t (by simpa using e)
    exact ⟨u, by simpa using h1, h2⟩
theorem RVs.set {d : D} {v : V} (r : RV K ρ H d v) : ∀ {ds : List D} {vs : List V} (i : Nat), RVs K ρ H ds vs → RVs K ρ H (ds.set i d) (vs.set i v)
  | _, _, _, .nil => .nil
  | _, _, 0, .cons _ t => .cons r t
  | _, _, i + 1, .cons q t => .cons q (RVs.set r i t)
theorem RVs.append : ∀ {ds es : List D} {vs us : List V}, RVs K ρ H ds vs → RVs K ρ H es us → RVs K ρ H (ds ++ es) (vs ++ us)
  | _, _, _, _, .nil, s => s
  | _, _, _, _, .cons r t, s => .cons r (RVs.append t s)
theorem RVs.take : ∀ {ds : List D} {vs : List V} (n : Nat), RVs K ρ H ds vs → RVs K ρ H (ds.take n) (vs.take n)
  | _, _, 0, _ => .nil
  | _, _, _ + 1, .nil => .nil
  | _, _, n + 1, .cons r t => .cons r (RVs.take n t)
theorem RVs.drop : ∀ {ds : List D} {vs : List V} (n : Nat), RVs K ρ H ds vs → RVs K ρ H (ds.drop n) (vs.drop n)
  | _, _, 0, r => r
  | _, _, _ + 1, .nil => .nil
  | _, _, n + 1, .cons _ t => RVs.drop n t
theorem RVs.erase : ∀ {ds : List D} {vs : List V} (n : Nat), RVs K ρ H ds vs → RVs K ρ H (ds.eraseIdx n) (vs.eraseIdx n)
  | _, _, _, .nil => .nil
  | _, _, 0, .cons _ t => t
  | _, _, n + 1, .cons r t => .cons r (RVs.erase n t)
theorem RVs.reverse {ds : List D} {vs : List V} (h : RVs K ρ H ds vs) : RVs K ρ H ds.reverse vs.reverse := by
  induction ds generalizing vs with
  | nil => cases h; exact .nil
  | cons d r ih =>
    cases h with
    | cons h t =>
      rw [List.reverse_cons, List.reverse_cons]
      exact RVs.append (ih t) (.cons h .nil)
theorem RVs.insert {d : D} {v : V} (r : RV K ρ H d v) : ∀ {ds : List D} {vs : List V} (i : Nat), RVs K ρ H ds vs → RVs K ρ H (ds.take i ++ d :: ds.drop i) (vs.take i ++ v :: vs.drop i) := fun i t =>
  RVs.append (t.take i) (.cons r (t.drop i))

theorem RM.size {m : Mem} (r : RM K ρ H m) {n : Nat} {a : Addr} (h : ρ[n]? = some (some a)) : ∃ u, H a = some u := by
  obtain ⟨o, _, q⟩ := r.at_ n a h
  cases o with
  | lst ds => obtain ⟨_, e, _⟩ := q; exact ⟨_, e⟩
  | dic ks ds => obtain ⟨_, e, _⟩ := q; exact ⟨_, e⟩
  | dicT ks ds => obtain ⟨_, e, _⟩ := q; exact ⟨_, e⟩
  | ins C ns ds => obtain ⟨_, _, e, _⟩ := q; exact ⟨_, e⟩
  | dead => exact q.elim
theorem RM.out {m : Mem} (r : RM K ρ H m) {a : Addr} (h : H a = none) : some a ∉ ρ := fun z => by
  obtain ⟨n, hn⟩ := List.getElem?_of_mem z
  obtain ⟨u, e⟩ := r.size hn
  rw [h] at e; cases e
/-! ### steps of worlds -/
theorem Le.fresh {m : Mem} (r : RM K ρ H m) {p : Addr} {o : HO} (hp : H p = none) : Le N ρ H ρ (upd H p o) :=
  ⟨Nat.le_refl _, fun _ _ => rfl, fun _ h => .inl h, fun a u h _ => by rw [upd_ne (ne_of_none h hp)]; exact h⟩
theorem Le.write {n : Nat} {a : Addr} {o : HO} (hn : ρ[n]? = some (some a)) : Le N ρ H ρ (upd H a o) :=
  ⟨Nat.le_refl _, fun _ _ => rfl, fun _ h => .inl h, fun b u h nb => by
    have e : b ≠ a := fun z => nb (z ▸ List.mem_of_getElem? hn)
    rw [upd_ne e]; exact h⟩
theorem Le.push {m : Mem} (r : RM K ρ H m) {p : Addr} {o : HO} (hp : H p = none) (hN : N ≤ ρ.length) : Le N ρ H (ρ ++ [some p]) (upd H p o) :=
  ⟨by simp, fun n hn => List.getElem?_append_left (Nat.lt_of_lt_of_le hn hN), fun a h => by
    rcases List.mem_append.mp h with z | z
    · exact .inl z
    · have e : a = p := by simpa using z
      subst e; exact .inr hp, fun a u h _ => by rw [upd_ne (ne_of_none h hp)]; exact h⟩
theorem RO.mono {ρ1 : Rho} {H1 : Hp} {a : Addr} {o : DO} (l : Le ρ.length ρ H ρ1 H1) (e : H1 a = H a) (h : RO K ρ H a o) : RO K ρ1 H1 a o := by
  cases o with
  | lst ds => obtain ⟨xs, h1, h2⟩ := h; exact ⟨xs, e.trans h1, h2.mono l⟩
  | dic ks ds => obtain ⟨kvs, h1, h2, h3⟩ := h; exact ⟨kvs, e.trans h1, h2, h3.mono l⟩
  | dicT ks ds => obtain ⟨kvs, h1, h2, h3⟩ := h; exact ⟨kvs, e.trans h1, h2, h3.mono l⟩
  | ins C ns ds => obtain ⟨dx, fs, h1, h2, h3⟩ := h; exact ⟨dx, fs, e.trans h1, h2, h3.mono l⟩
  | dead => exact h.elim
theorem RM.fresh {m : Mem} (r : RM K ρ H m) {p : Addr} {o : HO} (hp : H p = none) : RM K ρ (upd H p o) m :=
  ⟨r.len, fun n a h => by
    obtain ⟨u, hu, q⟩ := r.at_ n a h
    obtain ⟨w, hw⟩ := r.size h
    exact ⟨u, hu, q.mono (Le.fresh r hp) (upd_ne (ne_of_none hw hp))⟩, r.inj⟩
theorem RM.write {m : Mem} (r : RM K ρ H m) {n : Nat} {a : Addr} {o : HO} {o' : DO} (hn : ρ[n]? = some (some a)) (q : RO K ρ (upd H a o) a o') : RM K ρ (upd H a o) (m.set n o') :=
  ⟨by rw [List.length_set]; exact r.len, fun k b h => by
    by_cases hk : k = n
    · subst hk
      rw [hn] at h; cases h
      have hl : k < m.length := by rw [← r.len]; exact (List.getElem?_eq_some_iff.mp hn).1
      exact ⟨o', by rw [List.getElem?_set_self hl], q⟩
    · obtain ⟨u, hu, w⟩ := r.at_ k b h
      have hb : b ≠ a := fun z => hk (r.inj k n a (z ▸ h) hn)
      exact ⟨u, by rw [List.getElem?_set_ne (Ne.symm hk)]; exact hu, w.mono (Le.write hn) (upd_ne hb)⟩, r.inj⟩
theorem RM.push {m : Mem} (r : RM K ρ H m) {p : Addr} {o : HO} {o' : DO} (hp : H p = none) (q : RO K (ρ ++ [some p]) (upd H p o) p o') : RM K (ρ ++ [some p]) (upd H p o) (m ++ [o']) := by
  have old : ∀ {k : Nat} {b : Addr}, (ρ ++ [some p])[k]? = some (some b) → (ρ[k]? = some (some b) ∧ b ≠ p) ∨ (k = ρ.length ∧ b = p) := fun {k b} h => by
    by_cases hk : k < ρ.length
    · rw [List.getElem?_append_left hk] at h
      obtain ⟨w, hw⟩ := r.size h
      exact .inl ⟨h, ne_of_none hw hp⟩
    · rw [List.getElem?_append_right (by omega)] at h
      have hk' : k - ρ.length = 0 := by
        have := (List.getElem?_eq_some_iff.mp h).1
        simp at this; omega
      rw [hk'] at h
      have e : p = b := by simpa using h
      exact .inr ⟨by omega, e.symm⟩
  refine ⟨by simp [r.len], fun k b h => ?_, fun k k' b h h' => ?_⟩
  · rcases old h with ⟨h1, h2⟩ | ⟨h1, h2⟩
    · obtain ⟨u, hu, w⟩ := r.at_ k b h1
      exact ⟨u, by rw [List.getElem?_append_left (List.getElem?_eq_some_iff.mp hu).1]; exact hu, w.mono (Le.push r hp (Nat.le_refl _)) (upd_ne h2)⟩
    · subst h1 h2
      exact ⟨o', by rw [r.len]; simp, q⟩
  · rcases old h with ⟨h1, h2⟩ | ⟨h1, h2⟩ <;> rcases old h' with ⟨h3, h4⟩ | ⟨h3, h4⟩
    · exact r.inj k k' b h1 h3
    · exact absurd h4 h2
    · exact absurd h2 h4
    · rw [h1, h3]
end
end DL

/-! DRules: the judgements over data, expressions. -/
namespace DL
open PySem PySem.Spec PyProof.Rows L2

section
variable (K : PySem.W.Frag) (W : WX)
def ERel (ρ : Rho) (H : Hp) (e : Ex) (cls : Value) (dd : Option Addr) : Prop := e.cls = cls ∧ match e.fs with
  | none => dd = none
  | some (ns, ds) => ∃ d fs, dd = some d ∧ H d = some (.xd fs) ∧ some d ∉ ρ ∧ fs.map (·.1) = ns ∧ RVs K ρ H ds (fs.map (·.2))
/-- what must hold for a result: the wish of the value, the wish of an exception -/
def GPost {α β : Type} (RA : Rho → Hp → α → β → Prop) (ρ : Rho) (σ : St) (H : Hp) (r : R α) (Q : β → Hp → Prop) : Prop := match r with
  | .ok a m' => ∀ ρ' H' b, Le ρ.length ρ H ρ' H' → RM K ρ' H' m' → RA ρ' H' a b → Q b H'
  | .err e m' => ∀ ρ' H' cls dd, Le ρ.length ρ H ρ' H' → RM K ρ' H' m' → ERel K ρ' H' e cls dd → W cls dd σ H'
  | .bad => False
def SemJ {α β : Type} (RA : Rho → Hp → α → β → Prop) (t : St → Hp → (β → Hp → Prop) → Prop) (f : Loc → Mem → R α) : Prop :=
  ∀ (ρ : Rho) (loc : Loc) (m : Mem) (σ : St) (H : Hp) (Q : β → Hp → Prop), RM K ρ H m → RL K ρ H loc σ → GPost K W RA ρ σ H (f loc m) Q → t σ H Q
end
abbrev RB : Rho → Hp → Bool → Bool → Prop := fun _ _ a b => a = b
abbrev EX := Loc → Mem → R D
abbrev ET := Loc → Mem → R Bool
abbrev EL := Loc → Mem → R (List D)
def bnd {α β : Type} (f : Loc → Mem → R α) (k : α → Loc → Mem → R β) : Loc → Mem → R β := fun loc m => (f loc m).bind fun a m' => k a loc m'

section
variable {K : PySem.W.Frag} {W : WX}
theorem GPost.later {α β : Type} {RA : Rho → Hp → α → β → Prop} {ρ ρ1 : Rho} {σ : St} {H H1 : Hp} {r : R α} {Q : β → Hp → Prop} (l : Le ρ.length ρ H ρ1 H1) (h : GPost K W RA ρ σ H r Q) : GPost K W RA ρ1 σ H1 r Q := by
  cases r with
  | ok a m => exact fun ρ' H' b l' => h ρ' H' b (l.all l')
  | err e m => exact fun ρ' H' cls dd l' => h ρ' H' cls dd (l.all l')
  | bad => exact h
theorem SemJ.use {α β γ δ : Type} {RA : Rho → Hp → α → β → Prop} {RC : Rho → Hp → γ → δ → Prop} {ta : St → Hp → (β → Hp → Prop) → Prop} {fa : Loc → Mem → R α} {fk : α → Loc → Mem → R γ} {ρ : Rho} {loc : Loc} {m : Mem} {σ : St} {H : Hp}
    {Q : δ → Hp → Prop} {Q' : β → Hp → Prop} (ha : SemJ K W RA ta fa) (rm : RM K ρ H m) (rl : RL K ρ H loc σ) (h : GPost K W RC ρ σ H (bnd fa fk loc m) Q)
    (hk : ∀ ρ' m' H' a b, Le ρ.length ρ H ρ' H' → RM K ρ' H' m' → RL K ρ' H' loc σ → RA ρ' H' a b → GPost K W RC ρ' σ H' (fk a loc m') Q → Q' b H') : ta σ H Q' := by
  refine ha ρ loc m σ H _ rm rl ?_
  unfold bnd at h
  cases e : fa loc m with
  | ok a m' =>
    rw [e] at h
    exact fun ρ' H' b l rm' ra => hk ρ' m' H' a b l rm' (rl.mono l) ra (GPost.later l h)
  | err ex m' => rw [e] at h; exact h
  | bad => rw [e] at h; exact h
/-- one operation on a value -/
def O1 (K : PySem.W.Frag) (W : WX) (r : V → Hp → VK → Prop) (f : D → Mem → R D) : Prop :=
  ∀ (ρ : Rho) (m : Mem) (σ : St) (H : Hp) (Q : VK) (d : D) (x : V), RM K ρ H m → RV K ρ H d x → GPost K W (RV K) ρ σ H (f d m) Q → r x H Q
def O2 (K : PySem.W.Frag) (W : WX) (r : R2) (f : D → D → Mem → R D) : Prop :=
  ∀ (ρ : Rho) (m : Mem) (σ : St) (H : Hp) (Q : VK) (d e : D) (x y : V), RM K ρ H m → RV K ρ H d x → RV K ρ H e y → GPost K W (RV K) ρ σ H (f d e m) Q → r x y H Q
def OC (K : PySem.W.Frag) (W : WX) (r : List V → Hp → VK → Prop) (f : List D → Mem → R D) : Prop :=
  ∀ (ρ : Rho) (m : Mem) (σ : St) (H : Hp) (Q : VK) (ds : List D) (xs : List V), RM K ρ H m → RVs K ρ H ds xs → GPost K W (RV K) ρ σ H (f ds m) Q → r xs H Q
def OM (K : PySem.W.Frag) (W : WX) (r : V → List V → Hp → VK → Prop) (f : D → List D → Mem → R D) : Prop :=
  ∀ (ρ : Rho) (m : Mem) (σ : St) (H : Hp) (Q : VK) (d : D) (x : V) (ds : List D) (xs : List V), RM K ρ H m → RV K ρ H d x → RVs K ρ H ds xs → GPost K W (RV K) ρ σ H (f d ds m) Q → r x xs H Q
end

/-- the context of data: what is wanted of exceptions; the room for calls -/
structure Ctx (X : Cx) (W : WX) (k : Nat) : Prop where
  tk : Takes X W
  hp : PassesOwn (model X.prog X.w) X.A X.env X.xe
  calm : X.calm = true
  nd : X.N.Nodup
  room : Room k X.A
def DE (X : Cx) (W : WX) (e : Expr) (f : EX) : Prop := ∃ t : TE, PE X e t ∧ SemJ X.K W (RV X.K) t f
def DT (X : Cx) (W : WX) (e : Expr) (f : ET) : Prop := ∃ t : TT, PT X e t ∧ SemJ X.K W RB t f
def DW (X : Cx) (W : WX) (e : Expr) (f : ET) : Prop := ∃ t : TT, PW X e t ∧ SemJ X.K W RB t f
def DA (X : Cx) (W : WX) (es : List Expr) (f : EL) : Prop := ∃ t : TA, PA X es t ∧ SemJ X.K W (RVs X.K) t f

def eVar (i : Nat) : EX := fun loc m => match loc[i]? with
  | some (some d) => .ok d m
  | _ => .bad
def eC (d : D) : EX := fun _ m => .ok d m
def e1 (f : D → Mem → R D) (a : EX) : EX := bnd a fun x _ m => f x m
def e2 (f : D → D → Mem → R D) (a b : EX) : EX := bnd a fun x => bnd b fun y _ m => f x y m
def eCall (f : List D → Mem → R D) (as : EL) : EX := bnd as fun xs _ m => f xs m
def eMeth (f : D → List D → Mem → R D) (a : EX) (as : EL) : EX := bnd a fun x => bnd as fun xs _ m => f x xs m
def aNil : EL := fun _ m => .ok [] m
def aCons (a : EX) (as : EL) : EL := bnd a fun x => bnd as fun xs _ m => .ok (x :: xs) m
def tBl (a : EX) : ET := bnd a fun x _ m => match x with
  | .bl b => .ok b m
  | _ => .bad
def eIf (c : ET) (a b : EX) : EX := bnd c fun x => if x = true then a else b
def eAnd (a b : EX) : EX := bnd a fun x => match x with
  | .bl true => b
  | .bl false => fun _ m => .ok (.bl false) m
  | _ => fun _ _ => .bad
def eOr (a b : EX) : EX := bnd a fun x => match x with
  | .bl false => b
  | .bl true => fun _ m => .ok (.bl true) m
  | _ => fun _ _ => .bad
def eNot (a : EX) : EX := bnd a fun x _ m => match x with
  | .bl b => .ok (.bl (!b)) m
  | _ => .bad
def tAnd' (a b : ET) : ET := bnd a fun x => if x = true then b else fun _ m => .ok false m
def tOr' (a b : ET) : ET := bnd a fun x => if x = true then (fun _ m => .ok true m) else b
def tNot' (a : ET) : ET := bnd a fun x _ m => .ok (!x) m

section
variable {X : Cx} {W : WX} {a b c e : Expr} {es rest : List Expr} {fa fb fc : EX} {ft fu : ET} {fs : EL} {pos : Pos}
theorem de_var (i : Nat) {x : Str} (hN : X.N[i]? = some x := by rfl) (hv : Vis X.env.scope x := by first | exact Or.inl rfl | exact Or.inr (Or.inl rfl) | exact Or.inr (Or.inr rfl)) (hd : (x == ("__debug__" : Str)) = false := by decide)
    (hcd : (x == ("__classdict__" : Str)) = false := by decide) : DE X W (.Name x pos) (eVar i) := by
  refine ⟨_, pe_var hN hv hd hcd, ?_⟩
  intro ρ loc m σ H Q rm rl h
  unfold eVar at h
  split at h
  · rename_i d e
    obtain ⟨v, hv, r⟩ := rl.2 i d e
    exact ⟨v, hv, h ρ H v Le.refl rm r⟩
  · exact h.elim
theorem semC {K : PySem.W.Frag} {d : D} {v : V} (h : ∀ ρ H, RV K ρ H d v) : SemJ K W (RV K) (tC v) (eC d) := fun ρ loc m σ H Q rm rl q => q ρ H v Le.refl rm (h ρ H)
theorem de_int {i : Int} {j pos} : DE X W (.Constant (.int i) j pos) (eC (.int i)) := ⟨_, pe_int, semC fun _ _ => .int _⟩
theorem de_bl {b j pos} : DE X W (.Constant (.bool b) j pos) (eC (.bl b)) := ⟨_, pe_bl, semC fun _ _ => .bl _⟩
theorem de_non {j pos} : DE X W (.Constant .none j pos) (eC .non) := ⟨_, pe_non, semC fun _ _ => .non⟩
theorem de_str {x j pos} : DE X W (.Constant (.str x) j pos) (eC (.str x)) := ⟨_, pe_str, semC fun _ _ => .str _⟩
/-- a module's constant, a class or def as a value -/
theorem de_glob {x : Str} {d : D} {v : V} {u : Value} (hg : Gl X x) (hm : X.mg x = some u) (r : RelV v u) (rd : ∀ ρ H, RV X.K ρ H d v) (hd : (x == ("__debug__" : Str)) = false := by decide) : DE X W (.Name x pos) (eC d) := ⟨_, pe_glob hg hm r hd, semC rd⟩
theorem de_bltn {x : Str} {d : D} {v : V} {u : Value} (hg : Gl X x) (hm : X.mg x = none) (hv : bootBuiltins x = some u) (r : RelV v u) (rd : ∀ ρ H, RV X.K ρ H d v) (hn : x ≠ "__name__" := by decide) (hd : (x == ("__debug__" : Str)) = false := by decide) :
    DE X W (.Name x pos) (eC d) := ⟨_, pe_bltn hg hm hv r hn hd, semC rd⟩
theorem de_op1 {op : UnaryOp} {r : V → Hp → VK → Prop} {f : D → Mem → R D} (hr : UnR X (unaryOp op) r) (ho : O1 X.K W r f) (ha : DE X W a fa) : DE X W (.UnaryOp op a pos) (e1 f fa) := by
  obtain ⟨ta, pa, sa⟩ := ha
  refine ⟨_, pe_un hr pa, fun ρ loc m σ H Q rm rl h => ?_⟩
  refine sa.use rm rl h fun ρ1 m1 H1 d x l1 rm1 rl1 rx h1 => ?_
  exact ho ρ1 m1 σ H1 Q d x rm1 rx h1
theorem sem2 {K : PySem.W.Frag} {ta tb : TE} {r : R2} {f : D → D → Mem → R D} (sa : SemJ K W (RV K) ta fa) (sb : SemJ K W (RV K) tb fb) (ho : O2 K W r f) : SemJ K W (RV K) (tOp r ta tb) (e2 f fa fb) := by
  intro ρ loc m σ H Q rm rl h
  refine sa.use rm rl h fun ρ1 m1 H1 d x l1 rm1 rl1 rx h1 => ?_
  refine sb.use rm1 rl1 h1 fun ρ2 m2 H2 e y l2 rm2 rl2 ry h2 => ?_
  exact ho ρ2 m2 σ H2 Q d e x y rm2 (rx.mono l2) ry h2
theorem de_op2 {op : Operator} {r : R2} {f : D → D → Mem → R D} (hr : OpR X (binaryOp op) r) (ho : O2 X.K W r f) (ha : DE X W a fa) (hb : DE X W b fb) : DE X W (.BinOp a op b pos) (e2 f fa fb) := by
  obtain ⟨ta, pa, sa⟩ := ha
  obtain ⟨tb, pb, sb⟩ := hb
  exact ⟨_, pe_op hr pa pb, sem2 sa sb ho⟩
theorem de_cmp {op : CmpOp} {r : R2} {f : D → D → Mem → R D} (hr : OpR X (compareOp op) r) (ho : O2 X.K W r f) (ha : DE X W a fa) (hb : DE X W b fb) (hm : behindInMarks op b = false) : DE X W (.Compare a [op] [b] pos) (e2 f fa fb) := by
  obtain ⟨ta, pa, sa⟩ := ha
  obtain ⟨tb, pb, sb⟩ := hb
  exact ⟨_, pe_cmpR hr pa pb hm, sem2 sa sb ho⟩
/-- a value's reading as a test -/
theorem semTest {K : PySem.W.Frag} {t : TE} (s : SemJ K W (RV K) t fa) : SemJ K W RB (tTest t) (tBl fa) := by
  intro ρ loc m σ H Q rm rl h
  refine s.use rm rl h fun ρ1 m1 H1 d x l1 rm1 rl1 rx h1 => ?_
  cases rx with
  | bl k => exact ⟨k, rfl, h1 ρ1 H1 k Le.refl rm1 rfl⟩
  | _ => exact h1.elim
theorem dt_cmp {op : CmpOp} {r : R2} {f : D → D → Mem → R D} (hr : OpR X (compareOp op) r) (ho : O2 X.K W r f) (ha : DE X W a fa) (hb : DE X W b fb) (hm : behindInMarks op b = false) : DT X W (.Compare a [op] [b] pos) (tBl (e2 f fa fb)) := by
  obtain ⟨ta, pa, sa⟩ := ha
  obtain ⟨tb, pb, sb⟩ := hb
  exact ⟨_, pt_cmpR hr pa pb hm, semTest (sem2 sa sb ho)⟩
def eChain (f g : D → D → Mem → R D) (a b c : EX) : EX := bnd a fun x => bnd b fun y => bnd (fun _ m => f x y m) fun z => match z with
  | .bl true => bnd c fun w _ m => g y w m
  | .bl false => fun _ m => .ok (.bl false) m
  | _ => fun _ _ => .bad
theorem O2.sem {K : PySem.W.Frag} {r : R2} {f : D → D → Mem → R D} (ho : O2 K W r f) {ρ : Rho} {m : Mem} {σ : St} {H : Hp} {loc : Loc} {Q : δ → Hp → Prop} {Q' : VK} {RC : Rho → Hp → γ → δ → Prop} {fk : D → Loc → Mem → R γ} {d e : D} {x y : V}
    (rm : RM K ρ H m) (rl : RL K ρ H loc σ) (rx : RV K ρ H d x) (ry : RV K ρ H e y) (h : GPost K W RC ρ σ H (bnd (fun _ m => f d e m) fk loc m) Q)
    (hk : ∀ ρ' m' H' a b, Le ρ.length ρ H ρ' H' → RM K ρ' H' m' → RL K ρ' H' loc σ → RV K ρ' H' a b → GPost K W RC ρ' σ H' (fk a loc m') Q → Q' b H') : r x y H Q' := by
  refine ho ρ m σ H Q' d e x y rm rx ry ?_
  unfold bnd at h
  dsimp only at h
  cases q : f d e m with
  | ok a m' =>
    rw [q] at h
    exact fun ρ' H' b l rm' ra => hk ρ' m' H' a b l rm' (rl.mono l) ra (GPost.later l h)
  | err ex m' => rw [q] at h; exact h
  | bad => rw [q] at h; exact h
theorem semChain {K : PySem.W.Frag} {ta tb tc : TE} {r r' : R2} {f g : D → D → Mem → R D} (sa : SemJ K W (RV K) ta fa) (sb : SemJ K W (RV K) tb fb) (sc : SemJ K W (RV K) tc fc) (ho : O2 K W r f) (ho' : O2 K W r' g) :
    SemJ K W (RV K) (tChain r r' ta tb tc) (eChain f g fa fb fc) := by
  intro ρ loc m σ H Q rm rl h
  refine sa.use rm rl h fun ρ1 m1 H1 d x l1 rm1 rl1 rx h1 => ?_
  refine sb.use rm1 rl1 h1 fun ρ2 m2 H2 e y l2 rm2 rl2 ry h2 => ?_
  refine O2.sem ho rm2 rl2 (rx.mono l2) ry h2 fun ρ3 m3 H3 z w l3 rm3 rl3 rz h3 => ?_
  cases rz with
  | bl k =>
    refine ⟨k, rfl, ?_⟩
    cases k with
    | false => exact h3 ρ3 H3 _ Le.refl rm3 (.bl _)
    | true =>
      refine sc.use rm3 rl3 h3 fun ρ4 m4 H4 u v l4 rm4 rl4 rv h4 => ?_
      exact ho' ρ4 m4 σ H4 Q e u y v rm4 ((ry.mono l3).mono l4) rv h4
  | _ => exact h3.elim
theorem de_chain {op op' : CmpOp} {r r' : R2} {f g : D → D → Mem → R D} (hr : OpR X (compareOp op) r) (hr' : OpR X (compareOp op') r') (ho : O2 X.K W r f) (ho' : O2 X.K W r' g) (ha : DE X W a fa) (hb : DE X W b fb) (hc : DE X W c fc)
    (hm : lastMarks [op, op'] [b, c] = false := by with_unfolding_all rfl) : DE X W (.Compare a [op, op'] [b, c] pos) (eChain f g fa fb fc) := by
  obtain ⟨ta, pa, sa⟩ := ha
  obtain ⟨tb, pb, sb⟩ := hb
  obtain ⟨tc, pc, sc⟩ := hc
  exact ⟨_, pe_chain hr hr' pa pb pc hm, semChain sa sb sc ho ho'⟩
theorem dt_chain {op op' : CmpOp} {r r' : R2} {f g : D → D → Mem → R D} (hr : OpR X (compareOp op) r) (hr' : OpR X (compareOp op') r') (ho : O2 X.K W r f) (ho' : O2 X.K W r' g) (ha : DE X W a fa) (hb : DE X W b fb) (hc : DE X W c fc)
    (hm : lastMarks [op, op'] [b, c] = false := by with_unfolding_all rfl) : DT X W (.Compare a [op, op'] [b, c] pos) (tBl (eChain f g fa fb fc)) := by
  obtain ⟨ta, pa, sa⟩ := ha
  obtain ⟨tb, pb, sb⟩ := hb
  obtain ⟨tc, pc, sc⟩ := hc
  exact ⟨_, pt_chain hr hr' pa pb pc hm, semTest (semChain sa sb sc ho ho')⟩

/-! ### truth -/
def tru (d : D) (m : Mem) : R Bool := match d with
  | .non => .ok false m
  | .bl b => .ok b m
  | .int i => .ok (i != 0) m
  | .str x => if x.length ≤ sizeLine then .ok ((x.length : Int) != 0) m else .bad
  | .tup xs => .ok (!xs.isEmpty) m
  | .lst xs => .ok (!xs.isEmpty) m
  | .ro xs => .ok (!xs.isEmpty) m
  | .dic ks _ => .ok (!ks.isEmpty) m
  | .obj n => match m[n]? with
    | some (.lst xs) => .ok (!xs.isEmpty) m
    | some (.dic ks _) => .ok (!ks.isEmpty) m
    | _ => .bad
  | _ => .bad
def tTru (a : EX) : ET := bnd a fun x _ m => tru x m
theorem RVs.emp {K : PySem.W.Frag} {ρ : Rho} {H : Hp} {ds : List D} {vs : List V} (r : RVs K ρ H ds vs) : ds.isEmpty = vs.isEmpty := by cases r <;> rfl
theorem tru_ok' {K : PySem.W.Frag} {ρ : Rho} {m : Mem} {σ : St} {H : Hp} {Q : Bool → Hp → Prop} {d : D} {x : V} (rm : RM K ρ H m) (rx : RV K ρ H d x) (h : GPost K W RB ρ σ H (tru d m) Q) : ∃ k, TruV K x H k ∧ Q k H := by
  have fin : ∀ k, GPost K W RB ρ σ H (.ok k m) Q → Q k H := fun k q => q ρ H k Le.refl rm rfl
  cases rx with
  | non => exact ⟨false, rfl, fin _ h⟩
  | bl b => exact ⟨b, rfl, fin _ h⟩
  | int i => exact ⟨i != 0, rfl, fin _ h⟩
  | str x =>
    unfold tru at h
    dsimp only at h
    split at h
    · rename_i hl; exact ⟨_, ⟨hl, rfl⟩, fin _ h⟩
    · exact h.elim
  | tup f r => exact ⟨_, .inr (.inl ⟨_, f.sq, rfl⟩), by rw [← r.emp]; exact fin _ h⟩
  | lst f n r => exact ⟨_, .inl ⟨_, .of f, rfl⟩, by rw [← r.emp]; exact fin _ h⟩
  | ro f r => exact ⟨_, .inl ⟨_, f.sq, rfl⟩, by rw [← r.emp]; exact fin _ h⟩
  | @dic a kvs ks ds f n e r =>
    refine ⟨_, .inr (.inr ⟨_, f, rfl⟩), ?_⟩
    have q := fin _ h
    subst e
    simpa using q
  | ins f n e r => exact h.elim
  | @obj n a hn =>
    unfold tru at h
    dsimp only at h
    obtain ⟨o, ho, q⟩ := rm.at_ n a hn
    rw [ho] at h
    cases o with
    | lst ds => obtain ⟨xs, h1, h2⟩ := q; exact ⟨_, .inl ⟨_, .of h1, rfl⟩, by rw [← h2.emp]; exact fin _ h⟩
    | dic ks ds =>
      obtain ⟨kvs, h1, h2, h3⟩ := q
      refine ⟨_, .inr (.inr ⟨_, h1, rfl⟩), ?_⟩
      have q := fin _ h
      subst h2
      simpa using q
    | dicT _ _ => exact h.elim
    | ins _ _ _ => exact h.elim
    | dead => exact h.elim
  | cls a => exact h.elim
  | ty n => exact h.elim
  | exn _ _ _ _ => exact h.elim
theorem dt_tru (ha : DE X W a fa) (he : ∀ whole, isTrue a X.env whole = (do let v ← whole; standAt a.pos; holding [v] (truthy v)) := by intro _; rfl) : DT X W a (tTru fa) := by
  obtain ⟨ta, pa, sa⟩ := ha
  refine ⟨_, pt_truth pa he, fun ρ loc m σ H Q rm rl h => ?_⟩
  refine sa.use rm rl h fun ρ1 m1 H1 d x l1 rm1 rl1 rx h1 => ?_
  exact tru_ok' rm1 rx h1

/-! ### and, or, not -/
theorem dw_and1 (ha : DT X W a ft) : DW X W (.BoolOp .And [a] pos) ft := let ⟨t, p, s⟩ := ha; ⟨t, pw_and1 p, s⟩
theorem dw_or1 (ha : DT X W a ft) : DW X W (.BoolOp .Or [a] pos) ft := let ⟨t, p, s⟩ := ha; ⟨t, pw_or1 p, s⟩
theorem dw_and (ha : DT X W a ft) (hb : DW X W (.BoolOp .And (b :: rest) pos) fu) : DW X W (.BoolOp .And (a :: b :: rest) pos) (tAnd' ft fu) := by
  obtain ⟨ta, pa, sa⟩ := ha
  obtain ⟨tb, pb, sb⟩ := hb
  refine ⟨_, pw_and pa pb, fun ρ loc m σ H Q rm rl h => ?_⟩
  refine sa.use rm rl h fun ρ1 m1 H1 d x l1 rm1 rl1 rx h1 => ?_
  subst rx
  cases d with
  | true => exact sb ρ1 loc m1 σ H1 Q rm1 rl1 h1
  | false => exact h1 ρ1 H1 false Le.refl rm1 rfl
theorem dw_or (ha : DT X W a ft) (hb : DW X W (.BoolOp .Or (b :: rest) pos) fu) : DW X W (.BoolOp .Or (a :: b :: rest) pos) (tOr' ft fu) := by
  obtain ⟨ta, pa, sa⟩ := ha
  obtain ⟨tb, pb, sb⟩ := hb
  refine ⟨_, pw_or pa pb, fun ρ loc m σ H Q rm rl h => ?_⟩
  refine sa.use rm rl h fun ρ1 m1 H1 d x l1 rm1 rl1 rx h1 => ?_
  subst rx
  cases d with
  | true => exact h1 ρ1 H1 true Le.refl rm1 rfl
  | false => exact sb ρ1 loc m1 σ H1 Q rm1 rl1 h1
theorem dt_bool (h : DW X W e ft) : DT X W e ft := let ⟨t, p, s⟩ := h; ⟨t, p.pt, s⟩
theorem dt_not (ha : DT X W a ft) : DT X W (.UnaryOp .Not a pos) (tNot' ft) := by
  obtain ⟨ta, pa, sa⟩ := ha
  refine ⟨_, pt_not pa, fun ρ loc m σ H Q rm rl h => ?_⟩
  refine sa.use rm rl h fun ρ1 m1 H1 d x l1 rm1 rl1 rx h1 => ?_
  subst rx
  exact h1 ρ1 H1 _ Le.refl rm1 rfl
theorem de_one {op} (h : DE X W a fa) : DE X W (.BoolOp op [a] pos) fa := let ⟨t, p, s⟩ := h; ⟨t, pe_one p, s⟩
theorem de_and (ha : DE X W a fa) (hb : DE X W (.BoolOp .And (b :: rest) pos) fb) : DE X W (.BoolOp .And (a :: b :: rest) pos) (eAnd fa fb) := by
  obtain ⟨ta, pa, sa⟩ := ha
  obtain ⟨tb, pb, sb⟩ := hb
  refine ⟨_, pe_and pa pb, fun ρ loc m σ H Q rm rl h => ?_⟩
  refine sa.use rm rl h fun ρ1 m1 H1 d x l1 rm1 rl1 rx h1 => ?_
  cases rx with
  | bl k =>
    refine ⟨k, rfl, ?_⟩
    cases k with
    | true => exact sb ρ1 loc m1 σ H1 Q rm1 rl1 h1
    | false => exact h1 ρ1 H1 _ Le.refl rm1 (.bl _)
  | _ => exact h1.elim
theorem de_or (ha : DE X W a fa) (hb : DE X W (.BoolOp .Or (b :: rest) pos) fb) : DE X W (.BoolOp .Or (a :: b :: rest) pos) (eOr fa fb) := by
  obtain ⟨ta, pa, sa⟩ := ha
  obtain ⟨tb, pb, sb⟩ := hb
  refine ⟨_, pe_or pa pb, fun ρ loc m σ H Q rm rl h => ?_⟩
  refine sa.use rm rl h fun ρ1 m1 H1 d x l1 rm1 rl1 rx h1 => ?_
  cases rx with
  | bl k =>
    refine ⟨k, rfl, ?_⟩
    cases k with
    | true => exact h1 ρ1 H1 _ Le.refl rm1 (.bl _)
    | false => exact sb ρ1 loc m1 σ H1 Q rm1 rl1 h1
  | _ => exact h1.elim
theorem de_not (ha : DE X W a fa) : DE X W (.UnaryOp .Not a pos) (eNot fa) := by
  obtain ⟨ta, pa, sa⟩ := ha
  refine ⟨_, pe_not pa, fun ρ loc m σ H Q rm rl h => ?_⟩
  refine sa.use rm rl h fun ρ1 m1 H1 d x l1 rm1 rl1 rx h1 => ?_
  cases rx with
  | bl k => exact ⟨k, rfl, h1 ρ1 H1 _ Le.refl rm1 (.bl _)⟩
  | _ => exact h1.elim
theorem de_if (hc : DT X W c ft) (ha : DE X W a fa) (hb : DE X W b fb) : DE X W (.IfExp c a b pos) (eIf ft fa fb) := by
  obtain ⟨tc, pc, sc⟩ := hc
  obtain ⟨ta, pa, sa⟩ := ha
  obtain ⟨tb, pb, sb⟩ := hb
  refine ⟨_, pe_ifExp pc pa pb, fun ρ loc m σ H Q rm rl h => ?_⟩
  refine sc.use rm rl h fun ρ1 m1 H1 d x l1 rm1 rl1 rx h1 => ?_
  subst rx
  cases d with
  | true => exact sa ρ1 loc m1 σ H1 Q rm1 rl1 h1
  | false => exact sb ρ1 loc m1 σ H1 Q rm1 rl1 h1

/-! ### lists of arguments, displays -/
theorem da_nil : DA X W [] aNil := ⟨_, pa_nil, fun ρ loc m σ H Q rm rl h => h ρ H [] Le.refl rm .nil⟩
theorem da_cons (ha : DE X W a fa) (hb : DA X W es fs) (hs : starEach (a :: es) X.env = (false, eval a X.env) :: starEach es X.env := by rfl) : DA X W (a :: es) (aCons fa fs) := by
  obtain ⟨ta, pa, sa⟩ := ha
  obtain ⟨tb, pb, sb⟩ := hb
  refine ⟨_, pa_cons pa pb hs, fun ρ loc m σ H Q rm rl h => ?_⟩
  refine sa.use rm rl h fun ρ1 m1 H1 d x l1 rm1 rl1 rx h1 => ?_
  refine sb.use rm1 rl1 h1 fun ρ2 m2 H2 e y l2 rm2 rl2 ry h2 => ?_
  exact h2 ρ2 H2 _ Le.refl rm2 (.cons (rx.mono l2) ry)
/-- a new tuple; a new list: as a value, or in the memory -/
def newT (xs : List D) (m : Mem) : R D := if xs.length ≤ sizeLine then .ok (.tup xs) m else .bad
def newL (o : Bool) (xs : List D) (m : Mem) : R D := if o = true then .ok (.obj m.length) (m ++ [.lst xs]) else .ok (.lst xs) m
def newLs (o : Bool) (xs : List D) (m : Mem) : R D := if xs.length ≤ sizeLine then newL o xs m else .bad
def eTup (as : EL) : EX := bnd as fun xs _ m => newT xs m
def eLst (o : Bool) (as : EL) : EX := bnd as fun xs _ m => newLs o xs m
theorem newT_ok {K : PySem.W.Frag} {ρ : Rho} {m : Mem} {σ : St} {H : Hp} {Q : VK} {ds : List D} {xs : List V} (rm : RM K ρ H m) (rx : RVs K ρ H ds xs) (h : GPost K W (RV K) ρ σ H (newT ds m) Q) :
    xs.length ≤ sizeLine ∧ ∀ p, H p = none → Q (.ref p) (upd H p (.tup xs)) := by
  unfold newT at h
  split at h
  · rename_i hl
    refine ⟨by rw [← rx.length]; exact hl, fun p hp => ?_⟩
    have l : Le ρ.length ρ H ρ (upd H p (.tup xs)) := Le.fresh rm hp
    exact h ρ _ _ l (rm.fresh hp) (.tup (.inl ⟨.inl upd_same, rm.out hp⟩) (rx.mono l))
  · exact h.elim
theorem newL_ok {K : PySem.W.Frag} {ρ : Rho} {m : Mem} {σ : St} {H : Hp} {Q : VK} {ds : List D} {xs : List V} {o : Bool} (rm : RM K ρ H m) (rx : RVs K ρ H ds xs) (h : GPost K W (RV K) ρ σ H (newL o ds m) Q) :
    ∀ p, H p = none → Q (.ref p) (upd H p (.lst xs)) := by
  intro p hp
  unfold newL at h
  cases o with
  | true =>
    have l : Le ρ.length ρ H (ρ ++ [some p]) (upd H p (.lst xs)) := Le.push rm hp (Nat.le_refl _)
    exact h (ρ ++ [some p]) _ _ l (rm.push hp ⟨xs, upd_same, rx.mono l⟩) (.obj (by rw [← rm.len]; simp))
  | false =>
    have l : Le ρ.length ρ H ρ (upd H p (.lst xs)) := Le.fresh rm hp
    exact h ρ _ _ l (rm.fresh hp) (.lst upd_same (rm.out hp) (rx.mono l))
theorem newLs_ok {K : PySem.W.Frag} {ρ : Rho} {m : Mem} {σ : St} {H : Hp} {Q : VK} {ds : List D} {xs : List V} {o : Bool} (rm : RM K ρ H m) (rx : RVs K ρ H ds xs) (h : GPost K W (RV K) ρ σ H (newLs o ds m) Q) :
    xs.length ≤ sizeLine ∧ ∀ p, H p = none → Q (.ref p) (upd H p (.lst xs)) := by
  unfold newLs at h
  split at h
  · rename_i hl
    exact ⟨by rw [← rx.length]; exact hl, newL_ok rm rx h⟩
  · exact h.elim
theorem de_tup {x1} (ha : DA X W es fs) : DE X W (.Tuple es x1 pos) (eTup fs) := by
  obtain ⟨ta, pa, sa⟩ := ha
  refine ⟨_, pe_tup pa, fun ρ loc m σ H Q rm rl h => ?_⟩
  refine sa.use rm rl h fun ρ1 m1 H1 d x l1 rm1 rl1 rx h1 => ?_
  exact newT_ok rm1 rx h1
theorem de_lst (o : Bool) (ha : DA X W es fs) : DE X W (.List es pos) (eLst o fs) := by
  obtain ⟨ta, pa, sa⟩ := ha
  refine ⟨_, pe_lst pa, fun ρ loc m σ H Q rm rl h => ?_⟩
  refine sa.use rm rl h fun ρ1 m1 H1 d x l1 rm1 rl1 rx h1 => ?_
  exact newLs_ok rm1 rx h1
end
end DL

/-! DOps: operations on data. -/
namespace DL
open PySem PySem.Spec PyProof.Rows L2

/-! ### what a datum shows -/
/-- a list that may be changed or was made here -/
def lget (m : Mem) : D → Option (List D)
  | .lst xs => some xs
  | .obj n => match m[n]? with
    | some (.lst xs) => some xs
    | _ => none
  | _ => none
/-- a list that is read -/
def rget (m : Mem) : D → Option (List D)
  | .ro xs => some xs
  | d => lget m d
section
variable {K : PySem.W.Frag} {W : WX} {ρ : Rho} {m : Mem} {σ : St} {H : Hp} {d e : D} {x y : V} {ds es : List D}
theorem lget_ok (rm : RM K ρ H m) (rx : RV K ρ H d x) (h : lget m d = some ds) : ∃ a xs, x = .ref a ∧ H a = some (.lst xs) ∧ RVs K ρ H ds xs := by
  cases rx with
  | lst f n r => cases h; exact ⟨_, _, rfl, f, r⟩
  | @obj n a hn =>
    obtain ⟨o, ho, q⟩ := rm.at_ n a hn
    unfold lget at h
    dsimp only at h
    rw [ho] at h
    cases o with
    | lst es =>
      cases h
      obtain ⟨xs, h1, h2⟩ := q
      exact ⟨a, xs, rfl, h1, h2⟩
    | _ => cases h
  | _ => cases h
theorem rget_ok (rm : RM K ρ H m) (rx : RV K ρ H d x) (h : rget m d = some ds) : ∃ a xs, x = .ref a ∧ SqL K H a xs ∧ RVs K ρ H ds xs := by
  have low : lget m d = some ds → ∃ a xs, x = .ref a ∧ SqL K H a xs ∧ RVs K ρ H ds xs := fun h => by
    obtain ⟨a, xs, e, h1, h2⟩ := lget_ok rm rx h
    exact ⟨a, xs, e, .of h1, h2⟩
  cases rx with
  | ro f r => cases h; exact ⟨_, _, rfl, f.sq, r⟩
  | _ => exact low h
theorem fin {v : V} {Q : VK} (rm : RM K ρ H m) (rv : RV K ρ H d v) (h : GPost K W (RV K) ρ σ H (.ok d m) Q) : Q v H := h ρ H v Le.refl rm rv
theorem RVs.one {v : V} (r : RV K ρ H d v) : RVs K ρ H [d] [v] := .cons r .nil
theorem ints_of : ∀ {ds : List D} {vs : List V} {ns : List Int}, RVs K ρ H ds vs → ds = ns.map D.int → vs = ns.map V.int
  | _, _, [], .nil, _ => rfl
  | _, _, n :: ns, .cons r t, e => by
    simp only [List.map_cons, List.cons.injEq] at e
    obtain ⟨e1, e2⟩ := e
    subst e1
    cases r
    rw [List.map_cons, ints_of t e2]
  | _, _, [], .cons _ _, e => by cases e
  | _, _, _ :: _, .nil, e => by cases e
end
/-- the ints of a list of ints -/
def intsD : List D → Option (List Int)
  | [] => some []
  | .int i :: r => (intsD r).map (i :: ·)
  | _ => none
theorem intsD_ok : ∀ {ds : List D} {ns : List Int}, intsD ds = some ns → ds = ns.map D.int
  | [], ns, h => by cases h; rfl
  | d :: r, ns, h => by
    unfold intsD at h
    cases d with
    | int i =>
      simp only [Option.map_eq_some_iff] at h
      obtain ⟨ms, h1, h2⟩ := h
      subst h2
      rw [List.map_cons, intsD_ok h1]
    | _ => cases h
theorem intsD_map (ns : List Int) : intsD (ns.map D.int) = some ns := by
  induction ns with
  | nil => rfl
  | cons n r ih => rw [List.map_cons]; unfold intsD; rw [ih]; rfl

/-! ### arithmetic -/
def oAdd (o : Bool) (d e : D) (m : Mem) : R D := match d, e with
  | .int i, .int j => .ok (.int (i + j)) m
  | .str x, .str y => if x.length + y.length ≤ sizeLine then .ok (.str (x ++ y)) m else .bad
  | .tup xs, .tup ys => if xs.isEmpty then .bad else if ys.isEmpty then (if xs.length ≤ sizeLine then .ok (.tup xs) m else .bad) else newT (xs ++ ys) m
  | d, e => match lget m d, lget m e with
    | some xs, some ys => newLs o (xs ++ ys) m
    | _, _ => .bad
def oSub (d e : D) (m : Mem) : R D := match d, e with
  | .int i, .int j => .ok (.int (i - j)) m
  | _, _ => .bad
def MulOk (i j : Int) : Prop := CMul i j ∨ CMulW i j
instance {i j : Int} : Decidable (CMul i j) := by unfold CMul; infer_instance
instance {i j : Int} : Decidable (CMulW i j) := by unfold CMulW; infer_instance
instance {i j : Int} : Decidable (MulOk i j) := by unfold MulOk; infer_instance
instance {i j : Int} : Decidable (CDivW i j) := by unfold CDivW; infer_instance
instance {i j : Int} : Decidable (CPow i j) := by unfold CPow; infer_instance
def oMul (d e : D) (m : Mem) : R D := match d, e with
  | .int i, .int j => if MulOk i j then .ok (.int (i * j)) m else .bad
  | _, _ => .bad
def oFdiv (d e : D) (m : Mem) : R D := match d, e with
  | .int i, .int j => if CDivW i j then .ok (.int (i / j)) m else .bad
  | _, _ => .bad
def oMod (d e : D) (m : Mem) : R D := match d, e with
  | .int i, .int j => if 0 < j then .ok (.int (i % j)) m else .bad
  | _, _ => .bad
def oPow (d e : D) (m : Mem) : R D := match d, e with
  | .int i, .int j => if CPow i j then .ok (.int (i ^ j.toNat)) m else .bad
  | _, _ => .bad
def oNeg (d : D) (m : Mem) : R D := match d with
  | .int i => .ok (.int (-i)) m
  | _ => .bad
abbrev rAddA (K : PySem.W.Frag) : R2 := fun x y H Q => rI0 (fun i j => .int (i + j)) x y H Q ∨ (fun x y H Q => ∃ i j, x = V.str i ∧ y = V.str j ∧ i.length + j.length ≤ sizeLine ∧ Q (V.str (i ++ j)) H) x y H Q ∨ rCatT K x y H Q ∨ rCat x y H Q
section
variable {X : Cx} {W : WX}
theorem op_addA : OpR X (binaryOp .Add) (rAddA X.K) := OpR.or op_add (OpR.or op_add_str (OpR.or op_catT op_cat))
theorem O2.add (K : PySem.W.Frag) (o : Bool) : O2 K W (rAddA K) (oAdd o) := by
  intro ρ m σ H Q d e x y rm rx ry h
  have lists : (∀ xs ys, lget m d = some xs → lget m e = some ys → GPost K W (RV K) ρ σ H (newLs o (xs ++ ys) m) Q) → (lget m d ≠ none ∧ lget m e ≠ none) → rAddA K x y H Q := fun q hn => by
    obtain ⟨xs, h1⟩ := Option.ne_none_iff_exists'.mp hn.1
    obtain ⟨ys, h2⟩ := Option.ne_none_iff_exists'.mp hn.2
    obtain ⟨a, us, e1, ha, r1⟩ := lget_ok rm rx h1
    obtain ⟨b, vs, e2, hb, r2⟩ := lget_ok rm ry h2
    obtain ⟨z, q'⟩ := newLs_ok rm (r1.append r2) (q xs ys h1 h2)
    exact .inr (.inr (.inr ⟨a, b, us, vs, e1, e2, ha, hb, by rw [← List.length_append]; exact z, q'⟩))
  have gen : ∀ {r : R D}, r = (match lget m d, lget m e with | some xs, some ys => newLs o (xs ++ ys) m | _, _ => .bad) → GPost K W (RV K) ρ σ H r Q → rAddA K x y H Q := fun {r} er h => by
    subst er
    split at h
    · rename_i xs ys h1 h2
      exact lists (fun xs' ys' e1 e2 => by rw [h1] at e1; rw [h2] at e2; cases e1; cases e2; exact h) ⟨by rw [h1]; simp, by rw [h2]; simp⟩
    · exact h.elim
  unfold oAdd at h
  split at h
  · cases rx; cases ry; exact .inl ⟨_, _, rfl, rfl, fin rm (.int _) h⟩
  · cases rx; cases ry
    split at h
    · rename_i hl; exact .inr (.inl ⟨_, _, rfl, rfl, hl, fin rm (.str _) h⟩)
    · exact h.elim
  · rename_i xs ys
    cases rx with
    | tup f1 r1 =>
      cases ry with
      | tup f2 r2 =>
        split at h
        · exact h.elim
        · rename_i hx
          have n1 : ∀ {us : List V}, RVs K ρ H xs us → us ≠ [] := fun r z => by subst z; cases r; exact hx rfl
          split at h
          · rename_i hy
            have e2 : ys = [] := List.isEmpty_iff.mp hy
            subst e2
            cases r2
            split at h
            · rename_i hl
              exact .inr (.inr (.inl ⟨_, _, _, _, rfl, rfl, f1.sq, f2.sq, n1 r1, by rw [← r1.length]; simpa using hl, fun _ => fin rm (.tup f1 r1) h, fun z => absurd rfl z⟩))
            · exact h.elim
          · rename_i hy
            obtain ⟨z, q⟩ := newT_ok rm (r1.append r2) h
            refine .inr (.inr (.inl ⟨_, _, _, _, rfl, rfl, f1.sq, f2.sq, n1 r1, by rw [← List.length_append]; exact z, fun z2 => ?_, fun _ => q⟩))
            subst z2
            cases r2
            exact absurd rfl hy
  · exact gen rfl h
theorem O2.sub (K : PySem.W.Frag) : O2 K W (rI0 fun i j => .int (i - j)) oSub := by
  intro ρ m σ H Q d e x y rm rx ry h
  unfold oSub at h
  split at h
  · cases rx; cases ry; exact ⟨_, _, rfl, rfl, fin rm (.int _) h⟩
  · exact h.elim
abbrev rMulA : R2 := fun x y H Q => rI CMul (fun i j => .int (i * j)) x y H Q ∨ rI CMulW (fun i j => .int (i * j)) x y H Q
theorem op_mulA : OpR X (binaryOp .Mult) rMulA := OpR.or op_mul op_mulW
theorem O2.mul (K : PySem.W.Frag) : O2 K W rMulA oMul := by
  intro ρ m σ H Q d e x y rm rx ry h
  unfold oMul at h
  split at h
  · cases rx; cases ry
    split at h
    · rename_i hc
      rcases hc with hc | hc
      · exact .inl ⟨_, _, rfl, rfl, hc, fin rm (.int _) h⟩
      · exact .inr ⟨_, _, rfl, rfl, hc, fin rm (.int _) h⟩
    · exact h.elim
  · exact h.elim
theorem O2.fdiv (K : PySem.W.Frag) : O2 K W (rI CDivW fun i j => .int (i / j)) oFdiv := by
  intro ρ m σ H Q d e x y rm rx ry h
  unfold oFdiv at h
  split at h
  · cases rx; cases ry
    split at h
    · rename_i hc; exact ⟨_, _, rfl, rfl, hc, fin rm (.int _) h⟩
    · exact h.elim
  · exact h.elim
theorem O2.mod (K : PySem.W.Frag) : O2 K W (rI (fun _ j => 0 < j) fun i j => .int (i % j)) oMod := by
  intro ρ m σ H Q d e x y rm rx ry h
  unfold oMod at h
  split at h
  · cases rx; cases ry
    split at h
    · rename_i hc; exact ⟨_, _, rfl, rfl, hc, fin rm (.int _) h⟩
    · exact h.elim
  · exact h.elim
theorem O2.pow (K : PySem.W.Frag) : O2 K W (rI CPow fun i j => .int (i ^ j.toNat)) oPow := by
  intro ρ m σ H Q d e x y rm rx ry h
  unfold oPow at h
  split at h
  · cases rx; cases ry
    split at h
    · rename_i hc; exact ⟨_, _, rfl, rfl, hc, fin rm (.int _) h⟩
    · exact h.elim
  · exact h.elim
theorem O1.neg (K : PySem.W.Frag) : O1 K W (rU fun i => .int (-i)) oNeg := by
  intro ρ m σ H Q d x rm rx h
  unfold oNeg at h
  split at h
  · cases rx; exact ⟨_, rfl, fin rm (.int _) h⟩
  · exact h.elim

/-! ### comparisons -/
def oCmpI (p : Int → Int → Bool) (d e : D) (m : Mem) : R D := match d, e with
  | .int i, .int j => .ok (.bl (p i j)) m
  | _, _ => .bad
theorem O2.cmpI (K : PySem.W.Frag) (p : Int → Int → Bool) : O2 K W (rI0 fun i j => .bl (p i j)) (oCmpI p) := by
  intro ρ m σ H Q d e x y rm rx ry h
  unfold oCmpI at h
  split at h
  · cases rx; cases ry; exact ⟨_, _, rfl, rfl, fin rm (.bl _) h⟩
  · exact h.elim
def isNonD : D → Bool
  | .non => true
  | _ => false
def oIsN (d e : D) (m : Mem) : R D := match e with
  | .non => .ok (.bl (isNonD d)) m
  | _ => .bad
def oNotN (d e : D) (m : Mem) : R D := match e with
  | .non => .ok (.bl (!isNonD d)) m
  | _ => .bad
theorem isNon_ok {K : PySem.W.Frag} {ρ : Rho} {H : Hp} {d : D} {x : V} (r : RV K ρ H d x) : decide (x = .non) = isNonD d := by
  cases r <;> simp [isNonD]
theorem O2.isN (K : PySem.W.Frag) : O2 K W (fun x y H Q => y = .non ∧ Q (.bl (decide (x = .non))) H) oIsN := by
  intro ρ m σ H Q d e x y rm rx ry h
  unfold oIsN at h
  split at h
  · cases ry; exact ⟨rfl, by rw [isNon_ok rx]; exact fin rm (.bl _) h⟩
  · exact h.elim
theorem O2.notN (K : PySem.W.Frag) : O2 K W (fun x y H Q => y = .non ∧ Q (.bl (!decide (x = .non))) H) oNotN := by
  intro ρ m σ H Q d e x y rm rx ry h
  unfold oNotN at h
  split at h
  · cases ry; exact ⟨rfl, by rw [isNon_ok rx]; exact fin rm (.bl _) h⟩
  · exact h.elim
end

/-! ### == of data -/
mutual
def pyOf : D → Option PyData
  | .non => some .none
  | .bl b => some (.bool b)
  | .int i => some (.int i)
  | .str x => some (.str x)
  | .tup xs => (pysOf xs).map .tuple
  | .lst xs => (pysOf xs).map .list
  | .ro xs => (pysOf xs).map .list
  | .dic _ _ => none | .ins _ _ _ => none | .obj _ => none | .cls _ => none | .ty _ => none | .exn _ _ _ _ => none
def pysOf : List D → Option (List PyData)
  | [] => some []
  | d :: r => match pyOf d, pysOf r with
    | some p, some ps => some (p :: ps)
    | _, _ => none
end
def toPy (m : Mem) (d : D) : Option PyData := match d with
  | .obj n => match m[n]? with
    | some (.lst xs) => (pysOf xs).map .list
    | _ => none
  | d => pyOf d
section
variable {K : PySem.W.Frag} {ρ : Rho} {H : Hp}
mutual
theorem pyOf_ok : ∀ {d : D} {v : V} {p : PyData}, RV K ρ H d v → pyOf d = some p → Dp K H v p
  | _, _, _, .non, h => by cases h; exact .non
  | _, _, _, .bl b, h => by cases h; exact .bl b
  | _, _, _, .int b, h => by cases h; exact .int b
  | _, _, _, .str b, h => by cases h; exact .str b
  | _, _, _, .tup f r, h => by
    simp only [pyOf, Option.map_eq_some_iff] at h
    obtain ⟨ps, h1, h2⟩ := h
    subst h2
    exact .tup f.sq (pysOf_ok r h1)
  | _, _, _, .lst f n r, h => by
    simp only [pyOf, Option.map_eq_some_iff] at h
    obtain ⟨ps, h1, h2⟩ := h
    subst h2
    exact .lst (.of f) (pysOf_ok r h1)
  | _, _, _, .ro f r, h => by
    simp only [pyOf, Option.map_eq_some_iff] at h
    obtain ⟨ps, h1, h2⟩ := h
    subst h2
    exact .lst f.sq (pysOf_ok r h1)
  | _, _, _, .dic _ _ _ _, h => by cases h
  | _, _, _, .ins _ _ _ _, h => by cases h
  | _, _, _, .obj _, h => by cases h
  | _, _, _, .cls _, h => by cases h
  | _, _, _, .ty _, h => by cases h
  | _, _, _, .exn _ _ _ _, h => by cases h
theorem pysOf_ok : ∀ {ds : List D} {vs : List V} {ps : List PyData}, RVs K ρ H ds vs → pysOf ds = some ps → DpAll K H vs ps
  | _, _, _, .nil, h => by cases h; exact .nil
  | _, _, _, .cons (d := d) (ds := ds) r t, h => by
    simp only [pysOf] at h
    cases e1 : pyOf d with
    | none => rw [e1] at h; cases h
    | some p =>
      cases e2 : pysOf ds with
      | none => rw [e1, e2] at h; cases h
      | some ps =>
        rw [e1, e2] at h
        cases h
        exact .cons (pyOf_ok r e1) (pysOf_ok t e2)
end
theorem toPy_ok {m : Mem} {d : D} {v : V} {p : PyData} (rm : RM K ρ H m) (r : RV K ρ H d v) (h : toPy m d = some p) : Dp K H v p := by
  cases r with
  | @obj n a hn =>
    obtain ⟨o, ho, q⟩ := rm.at_ n a hn
    unfold toPy at h
    dsimp only at h
    rw [ho] at h
    cases o with
    | lst es =>
      simp only [Option.map_eq_some_iff] at h
      obtain ⟨ps, h1, h2⟩ := h
      subst h2
      obtain ⟨xs, h3, h4⟩ := q
      exact .lst (.of h3) (pysOf_ok h4 h1)
    | _ => cases h
  | non => exact pyOf_ok (RV.non (K := K) (ρ := ρ) (H := H)) h
  | bl b => exact pyOf_ok (RV.bl (K := K) (ρ := ρ) (H := H) b) h
  | int b => exact pyOf_ok (RV.int (K := K) (ρ := ρ) (H := H) b) h
  | str b => exact pyOf_ok (RV.str (K := K) (ρ := ρ) (H := H) b) h
  | tup f r => exact pyOf_ok (.tup f r) h
  | lst f n r => exact pyOf_ok (.lst f n r) h
  | ro f r => exact pyOf_ok (.ro f r) h
  | dic a b c d => cases h
  | ins a b c d => cases h
  | cls a => cases h
  | ty a => cases h
  | exn _ _ _ _ => cases h
end
def oEq (d e : D) (m : Mem) : R D := match toPy m d, toPy m e with
  | some p, some q => if SeqAt.shaped p = true ∧ SeqAt.shaped q = true then .ok (.bl (PyData.eqv p q)) m else .bad
  | _, _ => .bad
def oNe (d e : D) (m : Mem) : R D := match toPy m d, toPy m e with
  | some p, some q => if SeqAt.shaped p = true ∧ SeqAt.shaped q = true then .ok (.bl (!PyData.eqv p q)) m else .bad
  | _, _ => .bad
section
variable {W : WX}
theorem O2.eq (K : PySem.W.Frag) : O2 K W (rEqD K) oEq := by
  intro ρ m σ H Q d e x y rm rx ry h
  unfold oEq at h
  split at h
  · rename_i p q e1 e2
    split at h
    · rename_i hs
      exact ⟨p, q, toPy_ok rm rx e1, toPy_ok rm ry e2, hs.1, hs.2, fin rm (.bl _) h⟩
    · exact h.elim
  · exact h.elim
theorem O2.ne (K : PySem.W.Frag) : O2 K W (rNeD K) oNe := by
  intro ρ m σ H Q d e x y rm rx ry h
  unfold oNe at h
  split at h
  · rename_i p q e1 e2
    split at h
    · rename_i hs
      exact ⟨p, q, toPy_ok rm rx e1, toPy_ok rm ry e2, hs.1, hs.2, fin rm (.bl _) h⟩
    · exact h.elim
  · exact h.elim

/-! ### subscripts, slices -/
def oIx (d e : D) (m : Mem) : R D := match d, e with
  | .tup xs, .int i => match atI xs i with
    | some v => .ok v m
    | none => .bad
  | .str z, .int i => if z.length ≤ sizeLine then (match atI z.cps.toList i with
    | some c => .ok (.str ⟨#[c]⟩) m
    | none => .bad) else .bad
  | d, .int i => match rget m d with
    | some xs => match atI xs i with
      | some v => .ok v m
      | none => .bad
    | none => .bad
  | _, _ => .bad
theorem atI_rel {K : PySem.W.Frag} {ρ : Rho} {H : Hp} {ds : List D} {xs : List V} {i : Int} {v : D} (r : RVs K ρ H ds xs) (h : atI ds i = some v) : ∃ u, atI xs i = some u ∧ RV K ρ H v u := by
  unfold atI at h ⊢
  rw [r.length] at h
  cases e : ixN xs.length i with
  | none => rw [e] at h; cases h
  | some j => rw [e] at h; exact r.get h
theorem O2.ix (K : PySem.W.Frag) : O2 K W (rIx K) oIx := by
  intro ρ m σ H Q d e x y rm rx ry h
  unfold oIx at h
  split at h
  · cases ry
    cases rx with
    | tup f r =>
      split at h
      · rename_i v e
        obtain ⟨u, h1, h2⟩ := atI_rel r e
        exact .inr (.inl ⟨_, _, _, u, rfl, rfl, f.sq, h1, fin rm h2 h⟩)
      · exact h.elim
  · cases ry
    cases rx
    split at h
    · rename_i hl
      split at h
      · rename_i c e
        exact .inr (.inr ⟨_, _, c, rfl, rfl, hl, e, fin rm (.str _) h⟩)
      · exact h.elim
    · exact h.elim
  · cases ry
    split at h
    · rename_i xs e
      split at h
      · rename_i v e2
        obtain ⟨a, us, ea, h1, h2⟩ := rget_ok rm rx e
        obtain ⟨u, h3, h4⟩ := atI_rel h2 e2
        exact .inl ⟨a, us, _, u, ea, rfl, h1, h3, fin rm h4 h⟩
      · exact h.elim
    · exact h.elim
  · exact h.elim
end
section
variable {X : Cx} {W : WX} {a b : Expr} {fa fb : EX} {pos : Pos}
theorem de_ix (ha : DE X W a fa) (hb : DE X W b fb) (hs : PlainIx b := by exact fun _ _ => rfl) : DE X W (.Subscript a b pos) (e2 oIx fa fb) := by
  obtain ⟨ta, pa, sa⟩ := ha
  obtain ⟨tb, pb, sb⟩ := hb
  exact ⟨_, pe_ix ix_seq pa pb hs, sem2 sa sb (O2.ix _)⟩
abbrev EP' := Loc → Mem → R (Option Int)
abbrev RP : Rho → Hp → Option Int → Option Int → Prop := fun _ _ a b => a = b
def DPt (X : Cx) (W : WX) (e : Option Expr) (f : EP') : Prop := ∃ t : TO, PO X e t ∧ SemJ X.K W RP t f
def pNone : EP' := fun _ m => .ok none m
def pSome (a : EX) : EP' := bnd a fun x _ m => match x with
  | .int i => .ok (some i) m
  | _ => .bad
theorem dp_none : DPt X W none pNone := ⟨_, po_none, fun ρ loc m σ H Q rm rl h => h ρ H none Le.refl rm rfl⟩
theorem dp_some (ha : DE X W a fa) : DPt X W (some a) (pSome fa) := by
  obtain ⟨ta, pa, sa⟩ := ha
  refine ⟨_, po_some pa, fun ρ loc m σ H Q rm rl h => ?_⟩
  refine sa.use rm rl h fun ρ1 m1 H1 d x l1 rm1 rl1 rx h1 => ?_
  cases rx with
  | int i => exact ⟨i, rfl, h1 ρ1 H1 _ Le.refl rm1 rfl⟩
  | _ => exact h1.elim
def cutD (xs : List D) (lo hi : Option Int) : List D := (xs.drop (HT.sIx xs.length 0 lo)).take (HT.sIx xs.length xs.length hi - HT.sIx xs.length 0 lo)
theorem cut_rel {K : PySem.W.Frag} {ρ : Rho} {H : Hp} {ds : List D} {xs : List V} {lo hi : Option Int} (r : RVs K ρ H ds xs) : RVs K ρ H (cutD ds lo hi) (cutV xs lo hi) := by
  unfold cutD cutV
  rw [r.length]
  exact (r.drop _).take _
theorem cut_whole {xs : List D} {lo hi : Option Int} (hw : HT.sIx xs.length 0 lo = 0 ∧ HT.sIx xs.length xs.length hi = xs.length) : DL.cutD xs lo hi = xs := by
  unfold DL.cutD
  rw [hw.1, hw.2]
  simp
def oSl (o : Bool) (d : D) (lo hi : Option Int) (m : Mem) : R D := match d with
  | .tup xs => .ok (.tup (cutD xs lo hi)) m
  | d => match rget m d with
    | some xs => newL o (cutD xs lo hi) m
    | none => .bad
abbrev rSlB (K : PySem.W.Frag) : V → Option Int → Option Int → Hp → VK → Prop := fun x lo hi H Q => rSlL K x lo hi H Q ∨ L2.rSlA K x lo hi H Q
theorem oSl_ok {K : PySem.W.Frag} {o : Bool} {ρ : Rho} {m : Mem} {σ : St} {H : Hp} {Q : VK} {d : D} {x : V} {lo hi : Option Int} (rm : RM K ρ H m) (rx : RV K ρ H d x) (h : GPost K W (RV K) ρ σ H (oSl o d lo hi m) Q) : rSlB K x lo hi H Q := by
  have gen : GPost K W (RV K) ρ σ H (match rget m d with | some xs => newL o (cutD xs lo hi) m | none => .bad) Q → rSlB K x lo hi H Q := fun h => by
    split at h
    · rename_i xs e
      obtain ⟨a, us, ea, h1, h2⟩ := rget_ok rm rx e
      exact .inl ⟨a, us, ea, h1, newL_ok rm (cut_rel h2) h⟩
    · exact h.elim
  unfold oSl at h
  split at h
  · cases rx with
    | @tup a us ds' f r =>
      refine .inr ⟨_, _, rfl, f.sq, fun hw => ?_, fun hw p hp => ?_⟩
      · rw [← r.length] at hw
        rw [cut_whole hw] at h
        exact fin rm (.tup f r) h
      · have l : Le ρ.length ρ H ρ (upd H p (.tup (cutV us lo hi))) := Le.fresh rm hp
        exact h ρ _ _ l (rm.fresh hp) (.tup (.inl ⟨.inl upd_same, rm.out hp⟩) ((cut_rel r).mono l))
  · exact gen h
def eSl (o : Bool) (a : EX) (l u : EP') : EX := bnd a fun x => bnd l fun lo => bnd u fun hi _ m => oSl o x lo hi m
theorem de_sl (o : Bool) {lo hi : Option Expr} {fl fh : EP'} {p2 : Pos} (ha : DE X W a fa) (hl : DPt X W lo fl) (hh : DPt X W hi fh) : DE X W (.Subscript a (.Slice lo hi none p2) pos) (eSl o fa fl fh) := by
  obtain ⟨ta, pa, sa⟩ := ha
  obtain ⟨tl, pl, sl⟩ := hl
  obtain ⟨th, ph, sh⟩ := hh
  refine ⟨_, pe_slice (SlR.or sl_list sl_tupA) pa pl ph, fun ρ loc m σ H Q rm rl h => ?_⟩
  refine sa.use rm rl h fun ρ1 m1 H1 d x l1 rm1 rl1 rx h1 => ?_
  refine sl.use rm1 rl1 h1 fun ρ2 m2 H2 lo' lo2 l2 rm2 rl2 e2 h2 => ?_
  refine sh.use rm2 rl2 h2 fun ρ3 m3 H3 hi' hi2 l3 rm3 rl3 e3 h3 => ?_
  subst e2 e3
  exact oSl_ok rm3 ((rx.mono l2).mono l3) h3
end
end DL

/-! DCalls: calls of defs, methods, classes, built-ins. -/
namespace DL
open PySem PySem.Spec PyProof.Rows L2

/-! ### fewer places -/
def DO.und (N : Nat) : DO → Bool
  | .lst xs => D.unds N xs
  | .dic _ vs => D.unds N vs
  | .dicT _ vs => D.unds N vs
  | .ins _ _ vs => D.unds N vs
  | .dead => true
def Mem.und (N : Nat) (m : Mem) : Bool := m.all (DO.und N)
section
variable {K : PySem.W.Frag} {W : WX} {ρ ρ' : Rho} {m : Mem} {σ : St} {H H' : Hp} {N : Nat}
theorem not_take {a : Addr} (h : some a ∉ ρ) : some a ∉ ρ.take N := fun z => h (List.mem_of_mem_take z)
theorem FxL.cut {a : Addr} {xs : List V} (h : FxL K ρ H a xs) : FxL K (ρ.take N) H a xs := h.elim (fun x => .inl ⟨x.1, not_take x.2⟩) .inr
theorem FxT.cut {a : Addr} {xs : List V} (h : FxT K ρ H a xs) : FxT K (ρ.take N) H a xs := h.elim (fun x => .inl ⟨x.1, not_take x.2⟩) .inr
mutual
theorem RV.cut : ∀ {d : D} {v : V}, RV K ρ H d v → d.und N = true → RV K (ρ.take N) H d v
  | _, _, .non, _ => .non
  | _, _, .bl _, _ => .bl _
  | _, _, .int _, _ => .int _
  | _, _, .str _, _ => .str _
  | _, _, .tup f r, b => .tup f.cut (RVs.cut r (by simpa [D.und] using b))
  | _, _, .lst h n r, b => .lst h (not_take n) (RVs.cut r (by simpa [D.und] using b))
  | _, _, .ro f r, b => .ro f.cut (RVs.cut r (by simpa [D.und] using b))
  | _, _, .dic h n e r, b => .dic h (not_take n) e (RVs.cut r (by simpa [D.und] using b))
  | _, _, .ins h n e r, b => .ins h (not_take n) e (RVs.cut r (by simpa [D.und] using b))
  | _, _, .obj (n := n) h, b => .obj (by
      have hn : n < N := by simpa [D.und] using b
      rw [List.getElem?_take_of_lt hn]; exact h)
  | _, _, .cls _, _ => .cls _
  | _, _, .ty _, _ => .ty _
  | _, _, .exn h n e r, b => .exn h (not_take n) e (RVs.cut r (by simpa [D.und] using b))
theorem RVs.cut : ∀ {ds : List D} {vs : List V}, RVs K ρ H ds vs → D.unds N ds = true → RVs K (ρ.take N) H ds vs
  | _, _, .nil, _ => .nil
  | _, _, .cons (d := d) (ds := ds) r t, b => by
    have hb : D.und N d = true ∧ D.unds N ds = true := by simpa [D.unds] using b
    exact .cons (RV.cut r hb.1) (RVs.cut t hb.2)
end
theorem RO.cut {a : Addr} {o : DO} (h : RO K ρ H a o) (b : o.und N = true) : RO K (ρ.take N) H a o := by
  cases o with
  | lst ds => obtain ⟨xs, h1, h2⟩ := h; exact ⟨xs, h1, h2.cut b⟩
  | dic ks ds => obtain ⟨kvs, h1, h2, h3⟩ := h; exact ⟨kvs, h1, h2, h3.cut b⟩
  | dicT ks ds => obtain ⟨kvs, h1, h2, h3⟩ := h; exact ⟨kvs, h1, h2, h3.cut b⟩
  | ins C ns ds => obtain ⟨dx, fs, h1, h2, h3⟩ := h; exact ⟨dx, fs, h1, h2, h3.cut b⟩
  | dead => exact h.elim
theorem RM.cut (r : RM K ρ H m) (b : Mem.und N (m.take N) = true) : RM K (ρ.take N) H (m.take N) := by
  have low : ∀ {n : Nat} {a : Addr}, (ρ.take N)[n]? = some (some a) → n < N ∧ ρ[n]? = some (some a) := fun {n a} h => by
    have hn : n < N := by
      have h1 := (List.getElem?_eq_some_iff.mp h).1
      rw [List.length_take] at h1
      omega
    rw [List.getElem?_take_of_lt hn] at h
    exact ⟨hn, h⟩
  refine ⟨by rw [List.length_take, List.length_take, r.len], fun n a h => ?_, fun n n' a h h' => r.inj n n' a (low h).2 (low h').2⟩
  obtain ⟨hn, h1⟩ := low h
  obtain ⟨o, ho, q⟩ := r.at_ n a h1
  have ho' : (m.take N)[n]? = some o := by rw [List.getElem?_take_of_lt hn]; exact ho
  refine ⟨o, ho', q.cut ?_⟩
  unfold Mem.und at b
  exact List.all_eq_true.mp b o (List.mem_of_getElem? ho')
theorem Le.cut {N : Nat} (l : Le N ρ H ρ' H') (h : N = ρ.length) : Le N ρ H (ρ'.take N) H' := by
  have hl := l.len
  refine ⟨by rw [List.length_take]; omega, fun n hn => by rw [List.getElem?_take_of_lt hn]; exact l.pre n hn, fun a ha => l.old a (List.mem_of_mem_take ha), l.keep⟩
theorem ERel.cut {e : Ex} {cls : Value} {dd : Option Addr} (h : ERel K ρ H e cls dd) (b : (match e.fs with | none => true | some (_, ds) => D.unds N ds) = true) : ERel K (ρ.take N) H e cls dd := by
  obtain ⟨h1, h2⟩ := h
  refine ⟨h1, ?_⟩
  obtain ⟨c, fs⟩ := e
  cases fs with
  | none => exact h2
  | some p =>
    obtain ⟨ns, ds⟩ := p
    obtain ⟨d, fs, h3, h4, h5, h6, h7⟩ := h2
    exact ⟨d, fs, h3, h4, not_take h5, h6, h7.cut b⟩
end
def Ex.und (N : Nat) (e : Ex) : Bool := match e.fs with
  | none => true
  | some (_, ds) => D.unds N ds
/-- what was made above N is forgotten where nothing shows it -/
def trunc (N : Nat) (r : R D) : R D := match r with
  | .ok d m => if (d.und N && Mem.und N (m.take N)) = true then .ok d (m.take N) else .ok d m
  | .err e m => if (e.und N && Mem.und N (m.take N)) = true then .err e (m.take N) else .err e m
  | .bad => .bad

/-! ### a def's promise over data -/
def FPost (K : PySem.W.Frag) (ρ : Rho) (H : Hp) (r : R D) (Q : VK) (E : XK) : Prop := match r with
  | .ok d m' => ∀ ρ' H' v, Le ρ.length ρ H ρ' H' → RM K ρ' H' m' → RV K ρ' H' d v → Q v H'
  | .err e m' => ∀ ρ' H' cls dd, Le ρ.length ρ H ρ' H' → RM K ρ' H' m' → ERel K ρ' H' e cls dd → E cls dd H'
  | .bad => False
def spD (K : PySem.W.Frag) (n : Nat) (g : List D → Mem → R D) : Sp := fun vs H Q E => vs.length = n ∧ ∃ ρ ds m, RM K ρ H m ∧ RVs K ρ H ds vs ∧ FPost K ρ H (g ds m) Q E
theorem FPost.of {K : PySem.W.Frag} {W : WX} {ρ : Rho} {σ : St} {H : Hp} {r : R D} {Q : VK} (h : GPost K W (RV K) ρ σ H r Q) : FPost K ρ H r Q (WE W σ) := by
  cases r <;> exact h
theorem FPost.trunc {K : PySem.W.Frag} {ρ : Rho} {H : Hp} {r : R D} {Q : VK} {E : XK} (h : FPost K ρ H (trunc ρ.length r) Q E) : FPost K ρ H r Q E := by
  cases r with
  | ok d m =>
    unfold DL.trunc at h
    dsimp only at h
    split at h
    · rename_i b
      rw [Bool.and_eq_true] at b
      exact fun ρ' H' v l rm rv => h _ H' v (l.cut rfl) (rm.cut b.2) (rv.cut b.1)
    · exact h
  | err e m =>
    unfold DL.trunc at h
    dsimp only at h
    split at h
    · rename_i b
      rw [Bool.and_eq_true] at b
      exact fun ρ' H' cls dd l rm rv => h _ H' cls dd (l.cut rfl) (rm.cut b.2) (rv.cut b.1)
    · exact h
  | bad => exact h
/-- a def of the module by its name -/
def DefOk (P : Program) (w : World) (K : PySem.W.Frag) (mg : Str → Option Value) (base : Heap) (k : Nat) (x : Str) (ps : List Str) (g : List D → Mem → R D) : Prop :=
  ∃ (f : Addr) (fd : FuncData), mg x = some (.ref f) ∧ PySem.W.keepIn K (.ref f) = true ∧ Binds K fd ps [] ∧ FnOk P w K mg base (L2.CX P w) k f fd ps (spD K ps.length g)
/-- a method of a class -/
def MethOk (P : Program) (w : World) (K : PySem.W.Frag) (mg : Str → Option Value) (base : Heap) (k : Nat) (C : Addr) (x : Str) (ps : List Str) (g : List D → Mem → R D) : Prop :=
  ∃ (f : Addr) (fd : FuncData), Meth K C x f ∧ PySem.W.isFn K (.ref f) = true ∧ PySem.W.fnIn K f = true ∧ Binds K fd ps [] ∧ FnOk P w K mg base (L2.CX P w) k f fd ps (spD K ps.length g)
def callD (n : Nat) (g : List D → Mem → R D) (xs : List D) (m : Mem) : R D := if xs.length = n then g xs m else .bad
section
variable {X : Cx} {W : WX} {k j : Nat} {x mt : Str} {ps : List Str} {g : List D → Mem → R D} {e o : Expr} {es : List Expr} {fs : EL} {fo : EX} {p pos apos : Pos}
theorem spD_of {K : PySem.W.Frag} {ρ : Rho} {m : Mem} {σ : St} {H : Hp} {Q : VK} {n : Nat} {ds : List D} {vs : List V} (rm : RM K ρ H m) (rv : RVs K ρ H ds vs) (h : GPost K W (RV K) ρ σ H (callD n g ds m) Q) : spD K n g vs H Q (WE W σ) := by
  unfold callD at h
  split at h
  · rename_i hl
    exact ⟨by rw [← rv.length]; exact hl, ρ, ds, m, rm, rv, FPost.of h⟩
  · exact h.elim
theorem de_call (C : Ctx X W k) (F : DefOk X.prog X.w X.K X.mg X.base j x ps g) (hj : j ≤ k) (hg : Gl X x) (ha : DA X W (e :: es) fs) (hdb : (x == ("__debug__" : Str)) = false := by decide) (he : starEach (e :: es) X.env = (false, eval e X.env) :: starEach es X.env := by rfl)
    (hpl : (backTo pos (starEach es X.env)).any (·.1) = false := by rfl) : DE X W (.Call (.Name x p) (e :: es) [] pos) (eCall (callD ps.length g) fs) := by
  obtain ⟨f, fd, hm, hk, hb, F⟩ := F
  obtain ⟨t, pa, sa⟩ := ha
  refine ⟨_, pe_callS F (C.room.mono hj) hg hm hk hb (passAt C.tk) pa hdb he hpl, fun ρ loc m σ H Q rm rl h => ?_⟩
  refine sa.use rm rl h fun ρ1 m1 H1 ds vs l1 rm1 rl1 rv h1 => ?_
  exact spD_of rm1 rv h1
theorem run_fnS0 {CX : CXT} {f : Addr} {fd : FuncData} {sp : Sp} {E : St → XK} {pins : List (Addr × Obj)} {σ : St} {H : Hp} {s : Shared} {Q : VK} (F : FnOk X.prog X.w X.K X.mg X.base CX k f fd ps sp) (hr : Room k X.A) (hb : Binds X.K fd ps []) (hx : PassesAt CX X σ (E σ))
    (I : Inv X pins σ H s) (h : sp [] H Q (E σ)) : wpAny (model X.prog X.w) X.A (call (.ref f) []) (EP X pins σ Q) X.xe s := run_fnS (us := []) F hr hb hx I .nil h
theorem de_call0 (C : Ctx X W k) (F : DefOk X.prog X.w X.K X.mg X.base j x ps g) (hj : j ≤ k) (hg : Gl X x) (hdb : (x == ("__debug__" : Str)) = false := by decide) : DE X W (.Call (.Name x p) [] [] pos) (eCall (callD ps.length g) aNil) := by
  obtain ⟨f, fd, hm, hk, hb, F⟩ := F
  refine ⟨fun σ H Q => spD X.K ps.length g [] H Q (WE W σ), ⟨fun pins s σ H Q I h => ?_⟩, fun ρ loc m σ H Q rm rl h => ?_⟩
  · refine wpAny_Call_Name_kw (ld_glob I hg hm ?_ hdb)
    exact PySem.W.callWith_K0 I.kIn hk (run_fnS (us := []) F (C.room.mono hj) hb (passAt C.tk σ) I .nil h)
  · exact spD_of rm .nil h

/-! ### methods, instances -/
def insOf (m : Mem) : D → Option (Addr × List Str × List D)
  | .ins C ns vs => some (C, ns, vs)
  | .obj n => match m[n]? with
    | some (.ins C ns vs) => some (C, ns, vs)
    | _ => none
  | _ => none
theorem insOf_ok {K : PySem.W.Frag} {ρ : Rho} {m : Mem} {H : Hp} {d : D} {v : V} {C : Addr} {ns : List Str} {vs : List D} (rm : RM K ρ H m) (r : RV K ρ H d v) (h : insOf m d = some (C, ns, vs)) :
    ∃ a dx fs, v = .ref a ∧ H a = some (.ins C dx fs) ∧ fs.map (·.1) = ns ∧ RVs K ρ H vs (fs.map (·.2)) := by
  cases r with
  | ins f n e r => cases h; exact ⟨_, _, _, rfl, f, e, r⟩
  | @obj n a hn =>
    obtain ⟨o, ho, q⟩ := rm.at_ n a hn
    unfold insOf at h
    dsimp only at h
    rw [ho] at h
    cases o with
    | ins C' ns' vs' =>
      cases h
      obtain ⟨dx, fs, h1, h2, h3⟩ := q
      exact ⟨a, dx, fs, rfl, h1, h2, h3⟩
    | _ => cases h
  | _ => cases h
def lookD (f : Str) : List Str → List D → Option D
  | n :: ns, v :: vs => if f = n then some v else lookD f ns vs
  | _, _ => none
theorem lookD_ok {K : PySem.W.Frag} {ρ : Rho} {H : Hp} {f : Str} : ∀ {fs : List (Str × V)} {vs : List D} {d : D}, RVs K ρ H vs (fs.map (·.2)) → lookD f (fs.map (·.1)) vs = some d → ∃ v, fs.lookup f = some v ∧ RV K ρ H d v
  | [], _, _, _, h => by cases h
  | (n, v) :: fs, [], _, r, _ => by cases r
  | (n, v) :: fs, d' :: vs, d, r, h => by
    cases r with
    | cons r t =>
      simp only [List.map_cons, lookD] at h
      split at h
      · rename_i e
        cases h
        subst e
        exact ⟨v, by simp [List.lookup], r⟩
      · rename_i e
        obtain ⟨u, h1, h2⟩ := lookD_ok t h
        refine ⟨u, ?_, h2⟩
        have hb : (f == n) = false := beq_eq_false_iff_ne.mpr e
        simp only [List.lookup, hb]
        exact h1
theorem lookup_none {f : Str} : ∀ {fs : List (Str × V)}, f ∉ fs.map (·.1) → fs.lookup f = none
  | [], _ => rfl
  | (n, v) :: fs, h => by
    simp only [List.map_cons, List.mem_cons, not_or] at h
    have hb : (f == n) = false := beq_eq_false_iff_ne.mpr h.1
    simp only [List.lookup, hb]
    exact lookup_none h.2
def eMethO (C : Addr) (x : Str) (n : Nat) (g : List D → Mem → R D) (a : EX) (as : EL) : EX := bnd a fun y => fun loc m => match insOf m y with
  | some (C', ns, _) => if C' = C ∧ x ∉ ns then bnd as (fun xs _ m => callD n g (y :: xs) m) loc m else .bad
  | none => .bad
theorem de_methO {Cc : Addr} {pl : Sem Bool} (C : Ctx X W k) (c : Cls X.K Cc) (F : MethOk X.prog X.w X.K X.mg X.base j Cc mt ps g) (hj : j ≤ k) (ho : DE X W o fo) (ha : DA X W (e :: es) fs)
    (hst : starEach (e :: es) X.env = (false, eval e X.env) :: starEach es X.env := by rfl) (hpl : (backTo pos (starEach es X.env)).any (·.1) = false := by rfl)
    (ht : eval (.Call (.Attribute o mt apos) (e :: es) [] pos) X.env = (do
      let ov ← eval o X.env
      standAt apos.atName
      let (f, first) ← holding [ov] (getMethod ov mt pl)
      callWith pos f first (backTo pos (starEach (e :: es) X.env)) (backToKw pos (keywordEach [] X.env))) := by rfl) :
    DE X W (.Call (.Attribute o mt apos) (e :: es) [] pos) (eMethO Cc mt ps.length g fo fs) := by
  obtain ⟨f, fd, hm, h1, h2, hb, F⟩ := F
  obtain ⟨to, po, so⟩ := ho
  obtain ⟨t, pa, sa⟩ := ha
  refine ⟨fun σ H Q => to σ H fun x H1 => ∃ a dx fs, x = .ref a ∧ H1 a = some (.ins Cc dx fs) ∧ fs.lookup mt = none ∧ t σ H1 fun vs H2 => spD X.K ps.length g (x :: vs) H2 Q (WE W σ), ⟨fun pins s σ H Q I h => ?_⟩, fun ρ loc m σ H Q rm rl h => ?_⟩
  · refine PySem.W.methodCall_KW (pl := pl) (thn (po.run pins s σ H _ I h) fun u s1 ⟨x, H1, I1, rx, a, dx, fs, ex, ea, l, q⟩ => ?_) ht
    subst ex
    obtain rfl : u = Value.ref a := rx
    refine getmeth_ok I1 ea c hm l ?_
    refine PySem.W.callWith_K (first := [.ref a]) (h₀ := X.base) I.ok.mod.kin hm.kp (thn (pa.run pos pins s1 σ H1 _ I1 q) fun us s2 ⟨vs, H2, I2, r, q2⟩ => ⟨I2.kIn, ?_⟩) hst hpl
    exact run_fnS (us := .ref a :: us) (vs := .ref a :: vs) F (C.room.mono hj) hb (passAt C.tk σ) I2 (.cons rfl r) q2
  · refine so.use rm rl h fun ρ1 m1 H1 d v l1 rm1 rl1 rv h1 => ?_
    split at h1
    · rename_i C' ns vs' ei
      obtain ⟨a, dx, fs, ev, ea, en, er⟩ := insOf_ok rm1 rv ei
      split at h1
      · rename_i hc
        obtain ⟨hc1, hc2⟩ := hc
        subst hc1
        refine ⟨a, dx, fs, ev, ea, lookup_none (by rw [en]; exact hc2), ?_⟩
        refine sa.use rm1 rl1 h1 fun ρ2 m2 H2 ds us l2 rm2 rl2 ru h2 => ?_
        exact spD_of rm2 (.cons (rv.mono l2) ru) h2
      · exact h1.elim
    · exact h1.elim
theorem de_methO0 {Cc : Addr} {pl : Sem Bool} (C : Ctx X W k) (c : Cls X.K Cc) (F : MethOk X.prog X.w X.K X.mg X.base j Cc mt ps g) (hj : j ≤ k) (ho : DE X W o fo)
    (ht : eval (.Call (.Attribute o mt apos) [] [] pos) X.env = (do
      let ov ← eval o X.env
      standAt apos.atName
      let (f, first) ← holding [ov] (getMethod ov mt pl)
      callWith pos f first (backTo pos (starEach [] X.env)) (backToKw pos (keywordEach [] X.env))) := by rfl) :
    DE X W (.Call (.Attribute o mt apos) [] [] pos) (eMethO Cc mt ps.length g fo aNil) := by
  obtain ⟨f, fd, hm, h1, h2, hb, F⟩ := F
  obtain ⟨to, po, so⟩ := ho
  refine ⟨fun σ H Q => to σ H fun x H1 => ∃ a dx fs, x = .ref a ∧ H1 a = some (.ins Cc dx fs) ∧ fs.lookup mt = none ∧ spD X.K ps.length g [x] H1 Q (WE W σ), ⟨fun pins s σ H Q I h => ?_⟩, fun ρ loc m σ H Q rm rl h => ?_⟩
  · refine PySem.W.methodCall_KW (pl := pl) (thn (po.run pins s σ H _ I h) fun u s1 ⟨x, H1, I1, rx, a, dx, fs, ex, ea, l, q⟩ => ?_) ht
    subst ex
    obtain rfl : u = Value.ref a := rx
    refine getmeth_ok I1 ea c hm l ?_
    exact PySem.W.callWith_K0 (first := [.ref a]) I1.kIn hm.kp (run_fnS (us := [.ref a]) (vs := [.ref a]) F (C.room.mono hj) hb (passAt C.tk σ) I1 (.cons rfl .nil) q)
  · refine so.use rm rl h fun ρ1 m1 H1 d v l1 rm1 rl1 rv h1 => ?_
    split at h1
    · rename_i C' ns vs' ei
      obtain ⟨a, dx, fs, ev, ea, en, er⟩ := insOf_ok rm1 rv ei
      split at h1
      · rename_i hc
        obtain ⟨hc1, hc2⟩ := hc
        subst hc1
        exact ⟨a, dx, fs, ev, ea, lookup_none (by rw [en]; exact hc2), spD_of rm1 (.cons rv .nil) h1⟩
      · exact h1.elim
    · exact h1.elim
/-- e.f -/
def oFld (C : Addr) (f : Str) (d : D) (m : Mem) : R D := match insOf m d with
  | some (C', ns, vs) => if C' = C then (match lookD f ns vs with
    | some v => .ok v m
    | none => .bad) else .bad
  | none => .bad
theorem de_fld {Cc : Addr} {f : Str} (c : Cls X.K Cc) (n : NoAttr X.K Cc f) (ho : DE X W o fo) (hb : attributeBase o f X.env (eval o X.env) = eval o X.env := by rfl) : DE X W (.Attribute o f pos) (e1 (oFld Cc f) fo) := by
  obtain ⟨to, po, so⟩ := ho
  refine ⟨_, pe_fld po hb, fun ρ loc m σ H Q rm rl h => ?_⟩
  refine so.use rm rl h fun ρ1 m1 H1 d v l1 rm1 rl1 rv h1 => ?_
  unfold oFld at h1
  split at h1
  · rename_i C' ns vs' ei
    obtain ⟨a, dx, fs, ev, ea, en, er⟩ := insOf_ok rm1 rv ei
    split at h1
    · rename_i hc
      subst hc
      split at h1
      · rename_i u hu
        subst en
        obtain ⟨w, h3, h4⟩ := lookD_ok er hu
        exact ⟨a, C', dx, fs, w, ev, ea, c, n, h3, fin rm1 h4 h1⟩
      · exact h1.elim
    · exact h1.elim
  · exact h1.elim

/-! ### a new instance -/
def mkFin (N : Nat) (r : R D) : R D := match r with
  | .ok .non m => (match m[N]? with
    | some (.ins C ns vs) => if (D.unds N vs && Mem.und N (m.take N)) = true then .ok (.ins C ns vs) (m.take N) else .ok (.obj N) m
    | _ => .bad)
  | .ok _ _ => .bad
  | .err e m => if (e.und N && Mem.und N (m.take N)) = true then .err e (m.take N) else .err e m
  | .bad => .bad
def oMake (C : Addr) (n : Nat) (g : List D → Mem → R D) (xs : List D) (m : Mem) : R D := mkFin m.length (callD n g (.obj m.length :: xs) (m ++ [.ins C [] []]))
/-- a class by its name -/
def MakeOk (P : Program) (w : World) (K : PySem.W.Frag) (mg : Str → Option Value) (base : Heap) (k : Nat) (x : Str) (C : Addr) (ps : List Str) (g : List D → Mem → R D) : Prop :=
  ∃ (f : Addr) (fd : FuncData), mg x = some (.ref C) ∧ Mk K C f ∧ Binds K fd ps [] ∧ FnOk P w K mg base (L2.CX P w) k f fd ps (spD K ps.length g)
theorem run_makeS {Cc f : Addr} {fd : FuncData} {sp : Sp} {CX : CXT} {E : St → XK} {pins : List (Addr × Obj)} {σ : St} {H : Hp} {s : Shared} {Q : VK} {us : List Value} {vs : List V} (M : Mk X.K Cc f) (F : FnOk X.prog X.w X.K X.mg X.base CX k f fd ps sp) (hr : Room (k + 1) X.A) (hb : Binds X.K fd ps [])
    (hx : PassesAt CX X σ (E σ)) (I : Inv X pins σ H s) (r : Vals vs us)
    (h : ∀ x dx, H x = none → H dx = none → dx ≠ x → sp (.ref x :: vs) (upd (upd H dx (.own x)) x (.ins Cc dx [])) (fun v H2 => v = .non ∧ Q (.ref x) H2) (E σ)) :
    wpAny (model X.prog X.w) X.A (call (.ref Cc) us) (EP X pins σ Q) X.xe s := by
  have hq := h (s.heap.objs.size + 1) s.heap.objs.size (I.hok.fresh (Nat.le_succ _)) (I.hok.fresh (Nat.le_refl _)) (Nat.ne_of_lt (Nat.lt_succ_self _))
  have I2 := Inv.made (C := Cc) I
  have r2 : Vals (V.ref (s.heap.objs.size + 1) :: vs) (Value.ref (s.heap.objs.size + 1) :: us) := .cons rfl r
  have hl : (Value.ref (s.heap.objs.size + 1) :: us).length = ps.length := by
    have e := r2.length
    rw [F.len _ _ _ _ hq] at e
    exact e.symm
  have b := hb _ (Value.ref (s.heap.objs.size + 1) :: us) I2.kIn (by rw [List.append_nil]; exact hl)
  rw [List.append_nil] at b
  refine wpAny_call (make_map (f := f) I.kIn M.makes M.init (beq_iff_eq.mp M.fn) (codeAny_mono (F.run _ X.stack _ _ ⟨Value.ref (s.heap.objs.size + 1) :: us, []⟩ (Value.ref (s.heap.objs.size + 1) :: us) _ _ (E σ) (hr.make Cc us [])
    (I2.env0.make Cc us []) b r2 hq) fun r s' hq' => ?_))
  cases r with
  | error e => exact hx pins _ _ e s' I2 hq'
  | ok fl =>
    cases fl with
    | ret u =>
      obtain ⟨v, H', I3, rv, ev, q3⟩ := I2.after hq'
      subst ev
      exact ⟨rv, ⟨V.ref (s.heap.objs.size + 1), H', I3, rfl, q3⟩⟩
    | next => exact False.elim hq'
    | brk => exact False.elim hq'
    | cont => exact False.elim hq'
theorem made_ok {K : PySem.W.Frag} {Cc : Addr} {ρ : Rho} {m : Mem} {σ : St} {H : Hp} {Q : VK} {n : Nat} {ds : List D} {vs : List V} (rm : RM K ρ H m) (rv : RVs K ρ H ds vs) (h : GPost K W (RV K) ρ σ H (oMake Cc n g ds m) Q) :
    ∀ x dx, H x = none → H dx = none → dx ≠ x → spD K n g (.ref x :: vs) (upd (upd H dx (.own x)) x (.ins Cc dx [])) (fun v H2 => v = .non ∧ Q (.ref x) H2) (WE W σ) := by
  intro x dx hx hd hne
  have rm1 : RM K ρ (upd H dx (.own x)) m := rm.fresh hd
  have l1 : Le ρ.length ρ H ρ (upd H dx (.own x)) := Le.fresh rm hd
  have hx1 : upd H dx (.own x) x = none := by rw [upd_ne (Ne.symm hne)]; exact hx
  have l2 : Le ρ.length ρ (upd H dx (.own x)) (ρ ++ [some x]) (upd (upd H dx (.own x)) x (.ins Cc dx [])) := Le.push rm1 hx1 (Nat.le_refl _)
  have rm2 : RM K (ρ ++ [some x]) (upd (upd H dx (.own x)) x (.ins Cc dx [])) (m ++ [.ins Cc [] []]) := rm1.push hx1 ⟨dx, [], upd_same, rfl, .nil⟩
  have l12 := l1.trans l2
  have rx : RV K (ρ ++ [some x]) (upd (upd H dx (.own x)) x (.ins Cc dx [])) (.obj m.length) (.ref x) := .obj (by rw [← rm.len]; simp)
  have hlen : (ρ ++ [some x]).length = ρ.length + 1 := by simp
  have hbx : (ρ ++ [some x])[ρ.length]? = some (some x) := by simp
  unfold oMake at h
  have e : ∀ r, callD n g (.obj m.length :: ds) (m ++ [.ins Cc [] []]) = r → (match r with | .bad => False | _ => True) → (D.obj m.length :: ds).length = n ∧ g (.obj m.length :: ds) (m ++ [.ins Cc [] []]) = r := fun r er nb => by
    unfold callD at er
    split at er
    · rename_i hl; exact ⟨hl, er⟩
    · subst er; exact nb.elim
  cases q : callD n g (.obj m.length :: ds) (m ++ [.ins Cc [] []]) with
  | bad => rw [q] at h; exact h.elim
  | ok d m' =>
    obtain ⟨hl, hg⟩ := e _ q trivial
    refine ⟨by simpa [rv.length] using hl, ρ ++ [some x], .obj m.length :: ds, m ++ [.ins Cc [] []], rm2, .cons rx (rv.mono l12), ?_⟩
    rw [hg]
    rw [q] at h
    intro ρ' H' v l rm' rv'
    have le : Le ρ.length ρ H ρ' H' := l12.trans (l.less (by omega))
    have hbx' : ρ'[ρ.length]? = some (some x) := by rw [l.pre ρ.length (by omega)]; exact hbx
    unfold mkFin at h
    cases rv' with
    | non =>
      refine ⟨rfl, ?_⟩
      dsimp only at h
      obtain ⟨o, ho, qo⟩ := rm'.at_ _ _ hbx'
      rw [← rm.len, ho] at h
      cases o with
      | ins C' ns us =>
        dsimp only at h
        split at h
        · rename_i b
          rw [Bool.and_eq_true] at b
          have rm3 := rm'.cut b.2
          obtain ⟨dx', fs, h1, h2, h3⟩ := qo
          have nx : some x ∉ ρ'.take ρ.length := fun z => by
            obtain ⟨i, hi⟩ := List.getElem?_of_mem z
            have hi2 : i < ρ.length := by
              have q := (List.getElem?_eq_some_iff.mp hi).1
              rw [List.length_take] at q
              omega
            rw [List.getElem?_take_of_lt hi2, le.pre i hi2] at hi
            obtain ⟨w, hw⟩ := rm.size hi
            rw [hx] at hw; cases hw
          exact h (ρ'.take ρ.length) H' (.ref x) (le.cut rfl) rm3 (.ins h1 nx h2 (h3.cut b.1))
        · exact h ρ' H' (.ref x) le rm' (.obj hbx')
      | lst _ => exact h.elim
      | dic _ _ => exact h.elim
      | dicT _ _ => exact h.elim
      | dead => exact h.elim
    | _ => exact h.elim
  | err ex m' =>
    obtain ⟨hl, hg⟩ := e _ q trivial
    refine ⟨by simpa [rv.length] using hl, ρ ++ [some x], .obj m.length :: ds, m ++ [.ins Cc [] []], rm2, .cons rx (rv.mono l12), ?_⟩
    rw [hg]
    rw [q] at h
    intro ρ' H' cls dd l rm' rv'
    have le : Le ρ.length ρ H ρ' H' := l12.trans (l.less (by omega))
    unfold mkFin at h
    dsimp only at h
    rw [← rm.len] at h
    split at h
    · rename_i b
      rw [Bool.and_eq_true] at b
      exact h _ H' cls dd (le.cut rfl) (rm'.cut b.2) (rv'.cut b.1)
    · exact h ρ' H' cls dd le rm' rv'
theorem de_make {Cc : Addr} (C : Ctx X W k) (F : MakeOk X.prog X.w X.K X.mg X.base j x Cc ps g) (hj : j + 1 ≤ k) (hg : Gl X x) (ha : DA X W (e :: es) fs) (hdb : (x == ("__debug__" : Str)) = false := by decide) (he : starEach (e :: es) X.env = (false, eval e X.env) :: starEach es X.env := by rfl)
    (hpl : (backTo pos (starEach es X.env)).any (·.1) = false := by rfl) : DE X W (.Call (.Name x p) (e :: es) [] pos) (eCall (oMake Cc ps.length g) fs) := by
  obtain ⟨f, fd, hm, M, hb, F⟩ := F
  obtain ⟨t, pa, sa⟩ := ha
  refine ⟨fun σ H Q => t σ H fun vs H1 => ∀ x dx, H1 x = none → H1 dx = none → dx ≠ x → spD X.K ps.length g (.ref x :: vs) (upd (upd H1 dx (.own x)) x (.ins Cc dx [])) (fun v H2 => v = .non ∧ Q (.ref x) H2) (WE W σ), ⟨fun pins s σ H Q I h => ?_⟩, fun ρ loc m σ H Q rm rl h => ?_⟩
  · refine wpAny_Call_Name_kw (ld_glob I hg hm ?_ hdb)
    refine PySem.W.callWith_K (h₀ := X.base) I.ok.mod.kin M.kp (thn (pa.run pos pins s σ H _ I h) fun us s1 ⟨vs, H1, I1, r, q⟩ => ⟨I1.kIn, ?_⟩) he hpl
    exact run_makeS M F (C.room.mono hj) hb (passAt C.tk σ) I1 r q
  · refine sa.use rm rl h fun ρ1 m1 H1 ds vs l1 rm1 rl1 rv h1 => ?_
    exact made_ok rm1 rv h1
end
end DL

/-! DStmt: statements, loops, a def by its body. -/
namespace DL
open PySem PySem.Spec PyProof.Rows L2

def SPost (K : PySem.W.Frag) (W : WX) (N : Nat) (ρ : Rho) (H : Hp) (r : SR) (Dn : Ends) : Prop := match r with
  | .nx loc m => ∀ ρ' σ' H', Le N ρ H ρ' H' → RM K ρ' H' m → RL K ρ' H' loc σ' → Dn.nx σ' H'
  | .ret d m => ∀ ρ' H' v, Le N ρ H ρ' H' → RM K ρ' H' m → RV K ρ' H' d v → Dn.rt v H'
  | .brk loc m => ∀ ρ' σ' H', Le N ρ H ρ' H' → RM K ρ' H' m → RL K ρ' H' loc σ' → Dn.bk σ' H'
  | .ct loc m => ∀ ρ' σ' H', Le N ρ H ρ' H' → RM K ρ' H' m → RL K ρ' H' loc σ' → Dn.ct σ' H'
  | .err e loc m => ∀ ρ' σ' H' cls dd, Le N ρ H ρ' H' → RM K ρ' H' m → RL K ρ' H' loc σ' → ERel K ρ' H' e cls dd → W cls dd σ' H'
  | .bad => False
abbrev SX := Nat → Loc → Mem → SR
def SemS (K : PySem.W.Frag) (W : WX) (t : TS) (f : SX) : Prop :=
  ∀ (ρ : Rho) (N : Nat) (loc : Loc) (m : Mem) (σ : St) (H : Hp) (Dn : Ends), N ≤ ρ.length → RM K ρ H m → RL K ρ H loc σ → SPost K W N ρ H (f N loc m) Dn → t Dn σ H
def DS (X : Cx) (W : WX) (st : Stmt) (f : SX) : Prop := ∃ t : TS, PS X st t ∧ SemS X.K W t f
def DSs (X : Cx) (W : WX) (sts : List Stmt) (f : SX) : Prop := ∃ t : TS, PSs X sts t ∧ SemS X.K W t f
def ofR {α : Type} (r : R α) (loc : Loc) (k : α → Mem → SR) : SR := match r with
  | .ok a m => k a m
  | .err e m => .err e loc m
  | .bad => .bad
section
variable {K : PySem.W.Frag} {W : WX} {N : Nat} {ρ ρ1 : Rho} {H H1 : Hp} {r : SR} {Dn : Ends}
theorem SPost.later (l : Le N ρ H ρ1 H1) (h : SPost K W N ρ H r Dn) : SPost K W N ρ1 H1 r Dn := by
  cases r with
  | nx loc m => exact fun ρ' σ' H' l' => h ρ' σ' H' (l.trans l')
  | ret d m => exact fun ρ' H' v l' => h ρ' H' v (l.trans l')
  | brk loc m => exact fun ρ' σ' H' l' => h ρ' σ' H' (l.trans l')
  | ct loc m => exact fun ρ' σ' H' l' => h ρ' σ' H' (l.trans l')
  | err e loc m => exact fun ρ' σ' H' cls dd l' => h ρ' σ' H' cls dd (l.trans l')
  | bad => exact h
theorem SemJ.useS {α β : Type} {RA : Rho → Hp → α → β → Prop} {ta : St → Hp → (β → Hp → Prop) → Prop} {fa : Loc → Mem → R α} {k : α → Mem → SR} {loc : Loc} {m : Mem} {σ : St} {Q' : β → Hp → Prop}
    (ha : SemJ K W RA ta fa) (hN : N ≤ ρ.length) (rm : RM K ρ H m) (rl : RL K ρ H loc σ) (h : SPost K W N ρ H (ofR (fa loc m) loc k) Dn)
    (hk : ∀ ρ' m' H' a b, Le ρ.length ρ H ρ' H' → RM K ρ' H' m' → RL K ρ' H' loc σ → RA ρ' H' a b → N ≤ ρ'.length → SPost K W N ρ' H' (k a m') Dn → Q' b H') : ta σ H Q' := by
  refine ha ρ loc m σ H _ rm rl ?_
  unfold ofR at h
  cases e : fa loc m with
  | ok a m' =>
    rw [e] at h
    exact fun ρ' H' b l rm' ra => hk ρ' m' H' a b l rm' (rl.mono l) ra (Nat.le_trans hN l.len) (SPost.later (l.less hN) h)
  | err ex m' =>
    rw [e] at h
    exact fun ρ' H' cls dd l rm' re => h ρ' σ H' cls dd (l.less hN) rm' (rl.mono l) re
  | bad => rw [e] at h; exact h
theorem RL.set {loc : Loc} {σ : St} {d : D} {v : V} (rl : RL K ρ H loc σ) (rv : RV K ρ H d v) (i : Nat) : RL K ρ H (loc.set i (some d)) (σ.set i (some v)) := by
  refine ⟨by simp [rl.1], fun j e h => ?_⟩
  by_cases hj : i = j
  · subst hj
    by_cases hl : i < loc.length
    · rw [List.getElem?_set_self hl] at h
      cases h
      exact ⟨v, by rw [List.getElem?_set_self (by rw [← rl.1]; exact hl)], rv⟩
    · rw [List.getElem?_eq_none (by simpa using hl)] at h
      cases h
  · rw [List.getElem?_set_ne hj] at h
    obtain ⟨u, h1, h2⟩ := rl.2 j e h
    exact ⟨u, by rw [List.getElem?_set_ne hj]; exact h1, h2⟩
theorem RL.forget {loc : Loc} {σ : St} (rl : RL K ρ H loc σ) (i : Nat) (u : Option V) : RL K ρ H (loc.set i none) (σ.set i u) := by
  refine ⟨by simp [rl.1], fun j e h => ?_⟩
  by_cases hj : i = j
  · subst hj
    by_cases hl : i < loc.length
    · rw [List.getElem?_set_self hl] at h
      cases h
    · rw [List.getElem?_eq_none (by simpa using hl)] at h
      cases h
  · rw [List.getElem?_set_ne hj] at h
    obtain ⟨u, h1, h2⟩ := rl.2 j e h
    exact ⟨u, by rw [List.getElem?_set_ne hj]; exact h1, h2⟩
end

/-! ### blocks -/
def sNil : SX := fun _ loc m => .nx loc m
def sSeq (f g : SX) : SX := fun N loc m => match f N loc m with
  | .nx l m' => g N l m'
  | r => r
def sBad : SX := fun _ _ _ => .bad
def sBrk : SX := fun _ loc m => .brk loc m
def sCt : SX := fun _ loc m => .ct loc m
def sDrop (f : EX) : SX := fun _ loc m => ofR (f loc m) loc fun _ m' => .nx loc m'
def sRet (f : EX) : SX := fun _ loc m => ofR (f loc m) loc fun d m' => .ret d m'
def sRetN : SX := fun _ _ m => .ret .non m
def sSet (i : Nat) (f : EX) : SX := fun _ loc m => ofR (f loc m) loc fun d m' => .nx (loc.set i (some d)) m'
def sIf (c : ET) (a b : SX) : SX := fun N loc m => ofR (c loc m) loc fun k m' => if k = true then a N loc m' else b N loc m'
section
variable {X : Cx} {W : WX} {st : Stmt} {rest a b : List Stmt} {f g : SX} {e c : Expr} {fe : EX} {fc : ET} {pos : Pos}
theorem dss_nil : DSs X W [] sNil := ⟨_, pss_nil, fun ρ N loc m σ H Dn hN rm rl h => h ρ σ H Le.refl rm rl⟩
theorem seq_post {K : PySem.W.Frag} {t u : TS} (st : SemS K W t f) (su : SemS K W u g) : SemS K W (tSeq t u) (sSeq f g) := by
  intro ρ N loc m σ H Dn hN rm rl h
  refine st ρ N loc m σ H _ hN rm rl ?_
  unfold sSeq at h
  cases q : f N loc m with
  | nx l m' =>
    rw [q] at h
    exact fun ρ' σ' H' l' rm' rl' => su ρ' N l m' σ' H' Dn (Nat.le_trans hN l'.len) rm' rl' (SPost.later l' h)
  | ret d m => rw [q] at h; exact h
  | brk loc m => rw [q] at h; exact h
  | ct loc m => rw [q] at h; exact h
  | err e loc m => rw [q] at h; exact h
  | bad => rw [q] at h; exact h
theorem dss_cons (h1 : DS X W st f) (h2 : DSs X W rest g) : DSs X W (st :: rest) (sSeq f g) := by
  obtain ⟨t, pt, st⟩ := h1
  obtain ⟨u, pu, su⟩ := h2
  exact ⟨_, pss_cons pt pu, seq_post st su⟩
theorem dss_one (h1 : DS X W st f) : DSs X W [st] f := let ⟨t, p, s⟩ := h1; ⟨t, pss_one p, s⟩
theorem dss_never {sts : List Stmt} : DSs X W sts sBad := ⟨_, pss_never, fun _ _ _ _ _ _ _ _ _ _ h => h.elim⟩
theorem ds_never : DS X W st sBad := ⟨_, ps_never, fun _ _ _ _ _ _ _ _ _ _ h => h.elim⟩
theorem ds_pass : DS X W (.Pass pos) sNil := ⟨_, ps_pass, fun ρ N loc m σ H Dn hN rm rl h => h ρ σ H Le.refl rm rl⟩
theorem ds_brk : DS X W (.Break pos) sBrk := ⟨_, ps_break, fun ρ N loc m σ H Dn hN rm rl h => h ρ σ H Le.refl rm rl⟩
theorem ds_ct : DS X W (.Continue pos) sCt := ⟨_, ps_continue, fun ρ N loc m σ H Dn hN rm rl h => h ρ σ H Le.refl rm rl⟩
theorem ds_expr (he : DE X W e fe) (hs : swapsWith e none pos.line X.env = pure false := by rfl) : DS X W (.Expr e pos) (sDrop fe) := by
  obtain ⟨t, p, s⟩ := he
  refine ⟨_, ps_expr p hs, fun ρ N loc m σ H Dn hN rm rl h => ?_⟩
  exact s.useS hN rm rl h fun ρ1 m1 H1 d x l1 rm1 rl1 rx hN1 h1 => h1 ρ1 σ H1 Le.refl rm1 rl1
theorem ds_ret (he : DE X W e fe) : DS X W (.Return (some e) pos) (sRet fe) := by
  obtain ⟨t, p, s⟩ := he
  refine ⟨_, ps_ret p, fun ρ N loc m σ H Dn hN rm rl h => ?_⟩
  exact s.useS hN rm rl h fun ρ1 m1 H1 d x l1 rm1 rl1 rx hN1 h1 => h1 ρ1 H1 x Le.refl rm1 rx
theorem ds_retN : DS X W (.Return none pos) sRetN := ⟨_, ps_retN, fun ρ N loc m σ H Dn hN rm rl h => h ρ H .non Le.refl rm .non⟩
theorem ds_if (hc : DT X W c fc) (ha : DSs X W a f) (hb : DSs X W b g) : DS X W (.If c a b pos) (sIf fc f g) := by
  obtain ⟨tc, pc, sc⟩ := hc
  obtain ⟨ta, pa, sa⟩ := ha
  obtain ⟨tb, pb, sb⟩ := hb
  refine ⟨_, ps_if pc pa pb, fun ρ N loc m σ H Dn hN rm rl h => ?_⟩
  refine sc.useS hN rm rl h fun ρ1 m1 H1 d x l1 rm1 rl1 rx hN1 h1 => ?_
  subst rx
  cases d with
  | true => exact sa ρ1 N loc m1 σ H1 Dn hN1 rm1 rl1 h1
  | false => exact sb ρ1 N loc m1 σ H1 Dn hN1 rm1 rl1 h1
theorem ds_set (i : Nat) {x : Str} {pos' : Pos} {k : Nat} (C : Ctx X W k) (hi : X.N[i]? = some x) (hx : L2.Loc X.env.scope x) (he : DE X W e fe) (hs : swapsWith e (some (.Name x pos')) pos.line X.env = pure false := by rfl)
    (hf : X.fn x = true ∨ X.env.scope.names.lookup x = some .local := by first | exact .inl rfl | exact .inr rfl | assumption) : DS X W (.Assign [.Name x pos'] e pos) (sSet i fe) := by
  obtain ⟨t, p, s⟩ := he
  refine ⟨_, ps_set C.nd hi hx p hs hf, fun ρ N loc m σ H Dn hN rm rl h => ?_⟩
  exact s.useS hN rm rl h fun ρ1 m1 H1 d x l1 rm1 rl1 rx hN1 h1 => h1 ρ1 _ H1 Le.refl rm1 (rl1.set rx i)
end

/-! ### targets -/
abbrev GX := D → Loc → Option Loc
abbrev GXs := List D → Loc → Option Loc
/-- a target; ts: its slots -/
def DG (X : Cx) (tg : Expr) (ga : GX) (ts : List Nat) : Prop := ∃ g : TG, PG X tg g ∧ ∀ (ρ : Rho) (loc loc' : Loc) (m : Mem) (σ : St) (H : Hp) (d : D) (v : V) (Q : St → Hp → Prop), RM X.K ρ H m → RL X.K ρ H loc σ → RV X.K ρ H d v → ga d loc = some loc' →
  (∀ σ' : St, RL X.K ρ H loc' σ' → σ'.length = σ.length → (∀ i, i ∉ ts → σ'[i]? = σ[i]?) → Q σ' H) → g v σ H Q
def DGs (X : Cx) (tgs : List Expr) (ga : GXs) (ts : List Nat) : Prop := ∃ g : TGs, PGs X tgs g ∧ ∀ (ρ : Rho) (loc loc' : Loc) (m : Mem) (σ : St) (H : Hp) (ds : List D) (vs : List V) (Q : St → Hp → Prop), RM X.K ρ H m → RL X.K ρ H loc σ → RVs X.K ρ H ds vs → ga ds loc = some loc' →
  (∀ σ' : St, RL X.K ρ H loc' σ' → σ'.length = σ.length → (∀ i, i ∉ ts → σ'[i]? = σ[i]?) → Q σ' H) → g vs σ H Q
def gaName (i : Nat) : GX := fun d loc => some (loc.set i (some d))
def gaNil : GXs := fun ds loc => match ds with
  | [] => some loc
  | _ => none
def gaCons (a : GX) (b : GXs) : GXs := fun ds loc => match ds with
  | d :: r => (a d loc).bind fun l => b r l
  | [] => none
def gaTup (n : Nat) (a : GXs) : GX := fun d loc => match d with
  | .tup xs => if xs.length = n then a xs loc else none
  | _ => none
section
variable {X : Cx} {W : WX} {pos : Pos}
theorem dg_name (i : Nat) {x : Str} (hN : X.N.Nodup) (hi : X.N[i]? = some x) (hx : L2.Loc X.env.scope x) (hf : X.fn x = true ∨ X.env.scope.names.lookup x = some .local := by first | exact .inl rfl | exact .inr rfl | assumption) : DG X (.Name x pos) (gaName i) [i] := by
  refine ⟨_, pg_name hN hi hx hf, fun ρ loc loc' m σ H d v Q rm rl rv e q => ?_⟩
  cases e
  exact q _ (rl.set rv i) (by simp) fun j hj => List.getElem?_set_ne (fun z => hj (by simp [z]))
theorem dgs_nil : DGs X [] gaNil [] := by
  refine ⟨_, pgs_nil, fun ρ loc loc' m σ H ds vs Q rm rl rv e q => ?_⟩
  cases rv with
  | nil => cases e; exact ⟨rfl, q _ rl rfl fun _ _ => rfl⟩
  | cons _ _ => cases e
theorem dgs_cons {e : Expr} {es : List Expr} {ga : GX} {gb : GXs} {t1 t2 : List Nat} (h1 : DG X e ga t1) (h2 : DGs X es gb t2) (hs : (assignEach (e :: es) X.env).map (·.2) = assign e X.env :: (assignEach es X.env).map (·.2) := by rfl) : DGs X (e :: es) (gaCons ga gb) (t1 ++ t2) := by
  obtain ⟨g, pg, sg⟩ := h1
  obtain ⟨gs, pgs, sgs⟩ := h2
  refine ⟨_, pgs_cons pg pgs hs, fun ρ loc loc' m σ H ds vs Q rm rl rv e q => ?_⟩
  cases rv with
  | nil => cases e
  | cons r t =>
    simp only [gaCons, Option.bind_eq_some_iff] at e
    obtain ⟨l, e1, e2⟩ := e
    exact ⟨_, _, rfl, sg ρ loc l m σ H _ _ _ rm rl r e1 fun σ1 rl1 n1 k1 => sgs ρ l loc' m σ1 H _ _ Q rm rl1 t e2 fun σ2 rl2 n2 k2 => q σ2 rl2 (n2.trans n1) fun i hi => by
      simp only [List.mem_append, not_or] at hi
      exact (k2 i hi.2).trans (k1 i hi.1)⟩
theorem dg_tup {es : List Expr} {kk : Nat} {ga : GXs} {n k : Nat} {ts : List Nat} (C : Ctx X W k) (h : DGs X es ga ts) (hn : (assignEach es X.env).length = n := by rfl) (hst : (assignEach es X.env).findIdx? (·.1) = none := by rfl) : DG X (.Tuple es kk pos) (gaTup n ga) ts := by
  obtain ⟨gs, pgs, sgs⟩ := h
  refine ⟨_, pg_tup C.calm pgs hn hst, fun ρ loc loc' m σ H d v Q rm rl rv e q => ?_⟩
  unfold gaTup at e
  split at e
  · rename_i xs
    cases rv with
    | tup f r =>
      split at e
      · rename_i hl
        exact ⟨_, _, rfl, f.sq, by rw [← r.length]; exact hl, sgs ρ loc loc' m σ H _ _ Q rm rl r e q⟩
      · cases e
  · cases e
def sAsg (f : EX) (ga : GX) : SX := fun _ loc m => ofR (f loc m) loc fun d m' => match ga d loc with
  | some loc' => .nx loc' m'
  | none => .bad
theorem ds_asg {tg e : Expr} {fe : EX} {ga : GX} {ts : List Nat} (he : DE X W e fe) (hg : DG X tg ga ts) (hs : swapsWithSole [tg] e pos.line X.env = pure false := by rfl) (hw : swappedStores [tg] e X.env = pure none := by rfl)
    (h1 : (assignEach [tg] X.env).map (·.2) = [assign tg X.env] := by rfl) : DS X W (.Assign [tg] e pos) (sAsg fe ga) := by
  obtain ⟨t, p, s⟩ := he
  obtain ⟨g, pg, sg⟩ := hg
  refine ⟨_, ps_asg p pg hs hw h1, fun ρ N loc m σ H Dn hN rm rl h => ?_⟩
  refine s.useS hN rm rl h fun ρ1 m1 H1 d x l1 rm1 rl1 rx hN1 h1 => ?_
  split at h1
  · rename_i loc' e
    exact sg ρ1 loc loc' m1 σ H1 d x _ rm1 rl1 rx e fun σ' rl' _ _ => h1 ρ1 σ' H1 Le.refl rm1 rl'
  · exact h1.elim

/-! ### stores -/
/-- o[i] = v, by values -/
def OS (K : PySem.W.Frag) (t : TSet) (f : D → D → D → Mem → Option Mem) : Prop :=
  ∀ (ρ : Rho) (m m' : Mem) (H : Hp) (o i d : D) (ov iv v : V) (Q : Hp → Prop), RM K ρ H m → RV K ρ H o ov → RV K ρ H i iv → RV K ρ H d v → f o i d m = some m' → (∀ H', Le ρ.length ρ H ρ H' → RM K ρ H' m' → Q H') → t ov iv v H Q
def sSub (f fo fi : EX) (st : D → D → D → Mem → Option Mem) : SX := fun _ loc m => ofR (bnd f (fun d => bnd fo fun o => bnd fi fun i _ m => .ok (d, o, i) m) loc m) loc fun p m' => match st p.2.1 p.2.2 p.1 m' with
  | some m2 => .nx loc m2
  | none => .bad
def setL (o i d : D) (m : Mem) : Option Mem := match o, i with
  | .obj n, .int k => match m[n]? with
    | some (.lst xs) => match ixN xs.length k with
      | some j => some (m.set n (.lst (xs.set j d)))
      | none => none
    | _ => none
  | _, _ => none
theorem RM.lstAt {K : PySem.W.Frag} {ρ : Rho} {H : Hp} {m : Mem} (rm : RM K ρ H m) {n : Nat} {a : Addr} {ds : List D} (hn : ρ[n]? = some (some a)) (e : m[n]? = some (.lst ds)) : ∃ xs, H a = some (.lst xs) ∧ RVs K ρ H ds xs := by
  obtain ⟨o, ho, q⟩ := rm.at_ n a hn
  rw [e] at ho
  cases ho
  exact q
/-- a tracked list is rewritten -/
theorem RM.lstSet {K : PySem.W.Frag} {ρ : Rho} {H : Hp} {m : Mem} (rm : RM K ρ H m) {n : Nat} {a : Addr} {ds : List D} {xs : List V} (hn : ρ[n]? = some (some a)) (r : RVs K ρ H ds xs) :
    Le ρ.length ρ H ρ (upd H a (.lst xs)) ∧ RM K ρ (upd H a (.lst xs)) (m.set n (.lst ds)) := by
  have l : Le ρ.length ρ H ρ (upd H a (.lst xs)) := Le.write hn
  exact ⟨l, rm.write hn ⟨xs, upd_same, r.mono l⟩⟩
theorem OS.list (K : PySem.W.Frag) : OS K rSetL setL := by
  intro ρ m m' H o i d ov iv v Q rm ro ri rv e q
  unfold setL at e
  split at e
  · rename_i n k
    cases ro with
    | obj hn =>
      cases ri
      split at e
      · rename_i ds hm
        split at e
        · rename_i j hj
          cases e
          obtain ⟨xs, h1, h2⟩ := rm.lstAt hn hm
          obtain ⟨l, rm'⟩ := rm.lstSet hn (h2.set rv j)
          exact ⟨_, xs, k, j, rfl, rfl, h1, by rw [← h2.length]; exact hj, q _ l rm'⟩
        · cases e
      · cases e
  · cases e
theorem ds_sub {o i e : Expr} {fo fi fe : EX} {t : TSet} {st : D → D → D → Mem → Option Mem} {tpos : Pos} (he : DE X W e fe) (ho : DE X W o fo) (hi : DE X W i fi) (hset : PSet X t) (hst : OS X.K t st)
    (ha : ∀ v, assign (.Subscript o i tpos) X.env v = (do
      let ov ← holding [v] (eval o X.env)
      let iv ← holding [v, ov] (eval i X.env)
      standAt tpos
      holding [v, ov, iv] (setItem ov iv v)
      release [v, ov, iv] []) := by intro _; rfl) (hs : swapsWithSole [.Subscript o i tpos] e pos.line X.env = pure false := by rfl) (hw : swappedStores [.Subscript o i tpos] e X.env = pure none := by rfl)
    (h1 : (assignEach [.Subscript o i tpos] X.env).map (·.2) = [assign (.Subscript o i tpos) X.env] := by rfl) : DS X W (.Assign [.Subscript o i tpos] e pos) (sSub fe fo fi st) := by
  obtain ⟨te, pe, se⟩ := he
  obtain ⟨to, po, so⟩ := ho
  obtain ⟨ti, pi, si⟩ := hi
  refine ⟨_, ps_asg pe (pg_sub po pi hset ha) hs hw h1, fun ρ N loc m σ H Dn hN rm rl h => ?_⟩
  have three : SemJ X.K W (fun ρ H (p : D × D × D) (q : V × V × V) => RV X.K ρ H p.1 q.1 ∧ RV X.K ρ H p.2.1 q.2.1 ∧ RV X.K ρ H p.2.2 q.2.2) (fun σ H Q => te σ H fun x H1 => to σ H1 fun y H2 => ti σ H2 fun z H3 => Q (x, y, z) H3)
      (bnd fe fun d => bnd fo fun o => bnd fi fun i _ m => .ok (d, o, i) m) := by
    intro ρ loc m σ H Q rm rl h
    refine se.use rm rl h fun ρ1 m1 H1 d x l1 rm1 rl1 rx h1 => ?_
    refine so.use rm1 rl1 h1 fun ρ2 m2 H2 e y l2 rm2 rl2 ry h2 => ?_
    refine si.use rm2 rl2 h2 fun ρ3 m3 H3 e3 z l3 rm3 rl3 rz h3 => ?_
    exact h3 ρ3 H3 (x, y, z) Le.refl rm3 ⟨(rx.mono l2).mono l3, ry.mono l3, rz⟩
  refine three.useS (Q' := fun q H3 => t q.2.1 q.2.2 q.1 H3 fun H4 => Dn.nx σ H4) hN rm rl h fun ρ1 m1 H1 p q l1 rm1 rl1 rx hN1 h1 => ?_
  obtain ⟨r1, r2, r3⟩ := rx
  split at h1
  · rename_i m2 e
    exact hst ρ1 m1 m2 H1 _ _ _ _ _ _ _ rm1 r2 r3 r1 e fun H' l' rm' => h1 ρ1 σ H' (l'.less hN1) rm' (rl1.mono l')
  · exact h1.elim
/-- o.f = v -/
def putD (f : Str) (d : D) : List Str → List D → List Str × List D
  | n :: ns, v :: vs => if n = f then (n :: ns, d :: vs) else ((n :: (putD f d ns vs).1), v :: (putD f d ns vs).2)
  | _, _ => ([f], [d])
theorem putD_ok {K : PySem.W.Frag} {ρ : Rho} {H : Hp} {f : Str} {d : D} {v : V} (r : RV K ρ H d v) : ∀ {fs : List (Str × V)} {vs : List D}, RVs K ρ H vs (fs.map (·.2)) →
    (putF f v fs).map (·.1) = (putD f d (fs.map (·.1)) vs).1 ∧ RVs K ρ H (putD f d (fs.map (·.1)) vs).2 ((putF f v fs).map (·.2))
  | [], _, h => by cases h; exact ⟨rfl, .cons r .nil⟩
  | (n, x) :: fs, [], h => by cases h
  | (n, x) :: fs, y :: vs, h => by
    cases h with
    | cons h t =>
      obtain ⟨i1, i2⟩ := putD_ok (f := f) r t
      simp only [List.map_cons, putD, putF]
      by_cases e : n = f
      · rw [if_pos e, if_pos e]
        exact ⟨rfl, .cons r t⟩
      · rw [if_neg e, if_neg e]
        exact ⟨by rw [List.map_cons, i1], .cons h i2⟩
def setF (C : Addr) (f : Str) (o d : D) (m : Mem) : Option Mem := match o with
  | .obj n => match m[n]? with
    | some (.ins C' ns vs) => if C' = C ∧ ns.length < 1000 then some (m.set n (.ins C (putD f d ns vs).1 (putD f d ns vs).2)) else none
    | _ => none
  | _ => none
def sFldS (C : Addr) (f : Str) (fe fo : EX) : SX := fun _ loc m => ofR (bnd fe (fun d => bnd fo fun o _ m => .ok (d, o) m) loc m) loc fun p m' => match setF C f p.2 p.1 m' with
  | some m2 => .nx loc m2
  | none => .bad
theorem ds_fld {Cc : Addr} {f : Str} {o e : Expr} {fo fe : EX} {pos' : Pos} (c : Cls X.K Cc) (n : NoAttr X.K Cc f) (he : DE X W e fe) (ho : DE X W o fo) (hs : swapsWith e (some (.Attribute o f pos')) pos.line X.env = pure false := by rfl) :
    DS X W (.Assign [.Attribute o f pos'] e pos) (sFldS Cc f fe fo) := by
  obtain ⟨te, pe, se⟩ := he
  obtain ⟨to, po, so⟩ := ho
  refine ⟨_, ps_fld po pe hs, fun ρ N loc m σ H Dn hN rm rl h => ?_⟩
  have two : SemJ X.K W (fun ρ H (p : D × D) (q : V × V) => RV X.K ρ H p.1 q.1 ∧ RV X.K ρ H p.2 q.2) (fun σ H Q => te σ H fun x H1 => to σ H1 fun y H2 => Q (x, y) H2) (bnd fe fun d => bnd fo fun o _ m => .ok (d, o) m) := by
    intro ρ loc m σ H Q rm rl h
    refine se.use rm rl h fun ρ1 m1 H1 d x l1 rm1 rl1 rx h1 => ?_
    refine so.use rm1 rl1 h1 fun ρ2 m2 H2 e y l2 rm2 rl2 ry h2 => ?_
    exact h2 ρ2 H2 (x, y) Le.refl rm2 ⟨rx.mono l2, ry⟩
  refine two.useS (Q' := fun q H2 => ∃ a C dx fs, q.2 = V.ref a ∧ H2 a = some (.ins C dx fs) ∧ Cls X.K C ∧ NoAttr X.K C f ∧ fs.length < 1000 ∧ Dn.nx σ (upd H2 a (.ins C dx (putF f q.1 fs)))) hN rm rl h fun ρ1 m1 H1 p q l1 rm1 rl1 rx hN1 h1 => ?_
  obtain ⟨p1, p2⟩ := p
  obtain ⟨q1, q2⟩ := q
  obtain ⟨r1, r2⟩ := rx
  dsimp only at r1 r2 h1 ⊢
  split at h1
  · rename_i m2 e
    unfold setF at e
    split at e
    · rename_i n'
      cases r2 with
      | @obj _ a hn =>
        split at e
        · rename_i C' ns vs hm
          split at e
          · rename_i hc
            obtain ⟨hc, hz⟩ := hc
            subst hc
            cases e
            obtain ⟨o', ho', qo⟩ := rm1.at_ _ _ hn
            rw [hm] at ho'
            cases ho'
            obtain ⟨dx, fs, h3, h4, h5⟩ := qo
            have l : Le ρ1.length ρ1 H1 ρ1 (upd H1 a (.ins C' dx (putF f q1 fs))) := Le.write hn
            obtain ⟨i1, i2⟩ := putD_ok (f := f) (r1.mono l) (h5.mono l)
            refine ⟨a, C', dx, fs, rfl, h3, c, n, by rw [← h4, List.length_map] at hz; exact hz, h1 ρ1 σ _ (l.less hN1) (rm1.write hn ⟨dx, _, upd_same, ?_, ?_⟩) (rl1.mono l)⟩
            · rw [h4] at i1; exact i1
            · rw [h4] at i2; exact i2
          · cases e
        · cases e
    · cases e
  · exact h1.elim
end
end DL

/-! DEnum: enumerate(t), t a tuple. -/
namespace DL
open PySem PySem.Spec PyProof.Rows L2

def Iet (K : PySem.W.Frag) (a : Addr) : It :=
  ⟨fun i H => ∃ (xs : List V) (x : V), SqT K H a xs ∧ xs[i]? = some x, fun i H v H' => ∃ T x, v = .ref T ∧ H T = none ∧ H' = upd H T (.tup [.int (i : Nat), x]) ∧ ∀ xs, SqT K H a xs → xs[i]? = some x, fun i H => ∃ xs : List V, SqT K H a xs ∧ xs.length ≤ i⟩
theorem tup_it_ne {h : Heap} {a it : Addr} {n : Nat} {items : Array Value} (p : h.IsTuple a items) (q : h.IsTupleIter it a n) : a ≠ it := fun z => by
  subst z
  obtain ⟨o, ho, hc, _⟩ := p
  obtain ⟨o', ho', hc', _⟩ := q
  rw [ho] at ho'
  cases ho'
  rw [hc] at hc'
  injection hc' with z
  exact absurd z (by decide)
theorem enum_ne {h : Heap} {e a it : Addr} {c : Int} {old : Value} {items : Array Value} (p : h.IsTuple a items) (q : IsEnum h e it c old) : e ≠ a := fun z => by
  subst z
  obtain ⟨o, ho, hc, _⟩ := p
  rw [show h.get? e = _ from q] at ho
  cases ho
  injection hc with z
  exact absurd z (by decide)
theorem turn_enumT {P : Program} {w : World} {K : PySem.W.Frag} {elts : List Expr} {kk : Nat} {tpos : Pos} (a e it : Addr) :
    Turn P w K (.Tuple elts kk tpos) (Iet K a) [e, it] e (fun i h => (∃ old, IsEnum h e it ((i : Nat) : Int) old) ∧ h.IsTupleIter it a i ∧ e ≠ it) where
  mem := by simp
  obj := fun i h st b hb => by
    obtain ⟨⟨old, he⟩, ⟨o, ho, hc, hd⟩, _⟩ := st
    have e' : b = e ∨ b = it := by simpa using hb
    rcases e' with z | z
    · rw [z]; exact ⟨_, he, fun v q => nomatch q⟩
    · rw [z]; exact ⟨o, ho, fun v q => by rw [hd] at q; cases q⟩
  keep := fun i h h' st k => let ⟨⟨old, he⟩, hi, hne⟩ := st; ⟨⟨old, k e (by simp) _ he⟩, hi.at fun o q => k it (by simp) o q, hne⟩
  item := by
    intro X hP hw hK hc i pins s σ H E I hf st hg
    subst hP hw hK
    obtain ⟨⟨old, he⟩, hit, hne⟩ := st
    obtain ⟨xs, x, hq, hx⟩ := hg
    obtain ⟨its, rv, p, hz⟩ := I.tuple hq
    obtain ⟨u, hu, ru⟩ := rv.get hx
    have hel : e < s.heap.objs.size := Heap.lt_size he
    have hil : it < s.heap.objs.size := by obtain ⟨_, q, _⟩ := hit; exact Heap.lt_size q
    have D := Draws.tuple (prog := X.prog) (w := X.w) (A := X.A.in1) (I.ok.hd hc) it a (tup_it_ne p hit) its.toArray
    have hef : e ∉ [it, a] := by simp [hne, enum_ne p he]
    have hlt : i < its.toArray.size := by simpa using (List.getElem?_eq_some_iff.mp hu).1
    refine wpAny_pyNext_enum_itemD D he ⟨hit, p⟩ hlt hne hef fun y h' tk hP ho hs' hT hsz hk => ?_
    have ey : y = u := Option.some.inj (hP.symm.trans (by simpa using hu))
    subst ey
    obtain ⟨hit', p'⟩ := hs'
    refine ⟨_, rfl, wpAny_letOwnedTupleGo_enum (s := { s with heap := h', toks := tk + 1 }) ho fun h'' he' sb => ?_⟩
    have hT2 : h''.get? s.heap.objs.size = some { cls := .type "tuple", data := .seq #[.int i tk, y] } := (sb.2 _ (Nat.ne_of_gt hel)).trans hT
    have new : ObjOk X.prog X.w (upd H s.heap.objs.size (.tup [.int (i : Nat), x])) h'' s.heap.objs.size (.tup [.int (i : Nat), x]) :=
      ⟨by show 2 ≤ sizeLine; decide, [.int i tk, y], .cons ⟨_, rfl⟩ (.cons ru .nil), ⟨_, hT2, rfl, _, rfl⟩⟩
    have I1 : Inv X pins σ (upd H s.heap.objs.size (.tup [.int (i : Nat), x])) { s with heap := h'', toks := tk + 1 } :=
      I.turnedNew (ch := [e, it]) (fun b ob hb q => (sb.2 b (fun z => hb (by simp [z]))).trans (hk b ob (fun z => hb (by simp [z])) (fun z => hb (by simp [z])) q)) hf (Nat.le_refl _) new
    refine ⟨.ref s.heap.objs.size, _, I1, rfl, ⟨_, x, rfl, I.hok.fresh (Nat.le_refl _), rfl, fun ys hy => ?_⟩, ⟨⟨y, ?_⟩, hit'.at fun o q => (sb.2 it (Ne.symm hne)).trans q, hne⟩, fun b hb => ?_⟩
    · rw [I.tuple_inj hy hq]; exact hx
    · have e1 : ((i + 1 : Nat) : Int) = (i : Int) + 1 := by omega
      rw [e1]; exact he'
    · have hb' : b < s.heap.objs.size := by
        have e' : b = e ∨ b = it := by simpa using hb
        rcases e' with z | z
        · rw [z]; exact hel
        · rw [z]; exact hil
      rw [upd_ne (Nat.ne_of_lt hb')]
      exact (hf b hb).1
  done := by
    intro X hP hw hK hc i pins s σ H E I hf st hg
    subst hP hw hK
    obtain ⟨⟨old, he⟩, hit, hne⟩ := st
    obtain ⟨xs, hq, hx⟩ := hg
    obtain ⟨its, rv, p, hz⟩ := I.tuple hq
    obtain ⟨f0, f1, f2, f3, f4, f5⟩ := hf it (by simp)
    have hl := rv.length
    have hx0 : its.toArray[i]? = none := by simp; omega
    have D : Draws X.prog X.w X.A.in1 it [it, a] i (fun _ _ => False) (fun k h => k = i ∧ h.IsTupleIter it a i ∧ h.IsTuple a its.toArray) :=
      { live := fun _ _ st => let ⟨o, ho, _⟩ := st.2.1; ⟨o, ho⟩
        frame := fun _ _ _ st hk => ⟨st.1, st.2.1.at fun o e => hk it (by simp) o e, st.2.2.at fun o e => hk a (by simp) o e⟩
        item := fun k s Q E hi st hQ => absurd st.1 (Nat.ne_of_lt hi)
        done := fun s Q E st hE => wpAny_nextOf_tuple_end (I.ok.hd hc) st.2.1 st.2.2 hx0 hE }
    refine wpAny_pyNext_enum_endD D he ⟨rfl, hit, p⟩ fun h' eb => ⟨rfl, I.turned (t' := s.toks) (fun b o hb q => eb b o hb q) f0 f1 f3 f4 f5⟩
  self := fun A i s Q E st h => let ⟨⟨_, he⟩, _⟩ := st; wpAny_pyIter_enum he h

set_option maxHeartbeats 4000000 in
theorem meets_enum1 {v : Value} {o : Obj} {H : Heap → Prop} (B : Begins v o H) :
    Meets (Builtin.«enumerate.__new__» ⟨[.type "enumerate", v], []⟩) (fun _ R s => H s.heap ∧
      R (.ok (.ret (.ref (s.heap.push o).objs.size))) { s with heap := (s.heap.push o).push { cls := .type "enumerate", data := .fields #[.none, .bool false, .ref s.heap.objs.size, rawInt 0, .none, .none] } }) :=
  .of_wp fun prog w A R s h => by
    obtain ⟨hp, g, d, tk, os⟩ := s; obtain ⟨h1, h⟩ := h
    have hsub := sub_enumerate
    have q1 : ∀ {A' : Around} {E : Value → Shared → Prop} {Q : Value → Shared → Prop}, Q (.ref hp.objs.size) ⟨hp.push o, g, d, tk, os⟩ → wpAny (model prog w) A' (pyIter v) Q E ⟨hp, g, d, tk, os⟩ :=
      fun q => B.iter prog w _ _ ⟨hp, g, d, tk, os⟩ _ h1 q
    wp_walk using q1
    refine wpAny_stack_any fun st => wpAny_pure ?_
    split
    · rename_i c _ _ _ _ _
      cases (c == Value.type "enumerate")
      · wp_walk using q1
        exact ⟨_, rfl, h⟩
      · wp_walk using q1
        exact ⟨_, rfl, h⟩
    · wp_walk using q1
      exact ⟨_, rfl, h⟩
section
variable {prog : Program} {w : World} {A : Around} {E : Value → Shared → Prop} {s : Shared}
theorem enum_begins1 {v : Value} {o : Obj} {H : Heap → Prop} {Q : Value → Shared → Prop} (B : Begins v o H) (h1 : H s.heap)
    (h : ∀ h', IsEnum h' (s.heap.objs.size + 1) s.heap.objs.size 0 .none → h'.get? s.heap.objs.size = some o → h'.objs.size = s.heap.objs.size + 2 →
      (∀ b o, s.heap.get? b = some o → h'.get? b = some o) → Q (.ref (s.heap.objs.size + 1)) { s with heap := h' }) :
    wpAny (model prog w) A (call (.type "enumerate") [v]) Q E s := by
  refine callType_new F.called_enumerate (by decide) (F.typeCall_enumerate_1 _) (F.newCall_enumerate_1 _) (fun obj => F.args_object_init_2 obj _) F.entry_enumerate_new
    (meets_enum1 B) ⟨h1, ?_⟩
  have hz : (s.heap.push o).objs.size = s.heap.objs.size + 1 := Heap.size_push ..
  show _ ∧ _
  rw [hz]
  have he : IsEnum ((s.heap.push o).push { cls := .type "enumerate", data := .fields #[.none, .bool false, .ref s.heap.objs.size, rawInt 0, .none, .none] }) (s.heap.objs.size + 1) s.heap.objs.size 0 .none := by
    have := Heap.get?_push_size (s.heap.push o) (o := { cls := .type "enumerate", data := .fields #[.none, .bool false, .ref s.heap.objs.size, rawInt 0, .none, .none] }) rfl
    rw [hz] at this; exact this
  refine ⟨⟨_, he, rfl⟩, h _ he (Heap.get?_push_of_some _ (Heap.get?_push_size _ B.free)) (by rw [Heap.size_push, hz]) fun b o x => Heap.get?_push_of_some _ (Heap.get?_push_of_some _ x)⟩
end
def iEnumA (K : PySem.W.Frag) (ta : TA) : TI := fun σ H R => ta σ H fun vs H1 => ∃ a, vs = [.ref a] ∧ ((∃ xs, SqL K H1 a xs ∧ R (Ite K a) H1) ∨ (∃ xs, SqT K H1 a xs ∧ R (Iet K a) H1))
theorem pi_enumA {X : Cx} {e : Expr} {ta : TA} {p pos tpos : Pos} {elts : List Expr} {kk : Nat} (hg : Gl X "enumerate") (hm : X.mg "enumerate" = none) (ha : PA X [e] ta) (hs : starEach [e] X.env = [(false, eval e X.env)] := by rfl) :
    PI X (.Tuple elts kk tpos) (.Call (.Name "enumerate" p) [e] [] pos) (iEnumA X.K ta) := by
  refine ⟨fun pins s σ H R I h => ?_⟩
  refine Call_ (ld_blt I hg hm boot_enumerate (PyProof.Rows.callWith_type1 (thn (ha.run pos pins s σ H _ I h) fun us s1 ⟨vs, H1, I1, r1, q1⟩ => ?_) hs rfl))
  obtain ⟨a, ex, q1⟩ := q1
  subst ex
  have hle : ∀ b, b ∈ [s1.heap.objs.size + 1, s1.heap.objs.size] → s1.heap.objs.size ≤ b := fun b hb => by
    have e' : b = s1.heap.objs.size + 1 ∨ b = s1.heap.objs.size := by simpa using hb
    rcases e' with z | z
    · rw [z]; exact Nat.le_add_right _ _
    · rw [z]; exact Nat.le_refl _
  cases r1 with
  | cons r rr =>
    cases rr
    cases r
    rcases q1 with ⟨xs, hq, q⟩ | ⟨xs, hq, q⟩
    · obtain ⟨its, rv, p', hz⟩ := I1.list hq
      refine call_enumerate_list p'.isList fun h' he hit hsz hk => wpAny_pyIter_enum he ?_
      have I2 : Inv X pins σ H1 { s1 with heap := h' } := I1.kept (t' := s1.toks) hk
      exact ⟨s1.heap.objs.size + 1, [s1.heap.objs.size + 1, s1.heap.objs.size], _, _, H1, rfl, I2, turn_enum a (s1.heap.objs.size + 1) s1.heap.objs.size, ⟨⟨.none, he⟩, hit, Nat.succ_ne_self _⟩, fun b hb => I1.fpOk (hle b hb) (I1.hok.fresh (hle b hb)), q⟩
    · obtain ⟨its, rv, p', hz⟩ := I1.tuple hq
      refine enum_begins1 (begins_tuple a its.toArray) p' fun h' he hit hsz hk => wpAny_pyIter_enum he ?_
      have I2 : Inv X pins σ H1 { s1 with heap := h' } := I1.kept (t' := s1.toks) hk
      exact ⟨s1.heap.objs.size + 1, [s1.heap.objs.size + 1, s1.heap.objs.size], _, _, H1, rfl, I2, turn_enumT a (s1.heap.objs.size + 1) s1.heap.objs.size, ⟨⟨.none, he⟩, ⟨_, hit, rfl, rfl⟩, Nat.succ_ne_self _⟩, fun b hb => I1.fpOk (hle b hb) (I1.hok.fresh (hle b hb)), q⟩
end DL

/-! DLoop: what is walked, for, while, comprehensions, a def by its body. -/
namespace DL
open PySem PySem.Spec PyProof.Rows L2

/-- an iterator that gives the data ds in every later world -/
def ItR (K : PySem.W.Frag) (ρ0 : Rho) (H0 : Hp) (ds : List D) (J : It) : Prop := ∀ (ρ : Rho) (H : Hp) (m : Mem), Le ρ0.length ρ0 H0 ρ H → RM K ρ H m →
  (∀ i d, ds[i]? = some d → J.go i H ∧ ∀ x H', J.yld i H x H' → Le ρ.length ρ H ρ H' ∧ RM K ρ H' m ∧ RV K ρ H' d x) ∧ ∀ i, ds.length ≤ i → J.stop i H
/-- what is walked: data that stand; a list of the memory, as it stands at each turn (en: with the index) -/
inductive Src where
  | st (ds : List D) | lv (n : Nat) (en : Bool)
abbrev ES := Loc → Mem → R Src
def wrapI (en : Bool) (i : Nat) (d : D) : D := if en = true then .tup [.int (i : Nat), d] else d
def SrcR (K : PySem.W.Frag) (ρ0 : Rho) (H0 : Hp) (s : Src) (J : It) : Prop := match s with
  | .st ds => ItR K ρ0 H0 ds J
  | .lv n en => ∀ (ρ : Rho) (H : Hp) (m : Mem), Le ρ0.length ρ0 H0 ρ H → RM K ρ H m → ∀ xs, m[n]? = some (.lst xs) →
    (∀ i d, xs[i]? = some d → J.go i H ∧ ∀ x H', J.yld i H x H' → Le ρ.length ρ H ρ H' ∧ RM K ρ H' m ∧ RV K ρ H' (wrapI en i d) x) ∧ ∀ i, xs.length ≤ i → J.stop i H
def DI (X : Cx) (W : WX) (tg iter : Expr) (fi : ES) : Prop := ∃ wi : TI, PI X tg iter wi ∧ SemJ X.K W (SrcR X.K) wi fi
/-- the items of a sequence -/
def iterD (d : D) (m : Mem) : R Src := match d with
  | .tup xs => .ok (.st xs) m
  | .lst xs => .ok (.st xs) m
  | .ro xs => .ok (.st xs) m
  | .str x => .ok (.st (x.cps.toList.map fun c => D.str ⟨#[c]⟩)) m
  | .obj n => match m[n]? with
    | some (.lst _) => .ok (.lv n false) m
    | _ => .bad
  | _ => .bad
theorem live_list {K : PySem.W.Frag} {ρ0 : Rho} {H0 : Hp} {n : Nat} {a : Addr} (hn : ρ0[n]? = some (some a)) : SrcR K ρ0 H0 (.lv n false) (Itl K a) := by
  intro ρ H m l rm xs hm
  have hl : n < ρ0.length := (List.getElem?_eq_some_iff.mp hn).1
  have hn' : ρ[n]? = some (some a) := (l.pre n hl).trans hn
  obtain ⟨us, hu, r⟩ := rm.lstAt hn' hm
  refine ⟨fun i d hd => ?_, fun i hi => ⟨us, .of hu, by rw [← r.length]; exact hi⟩⟩
  obtain ⟨v, hv, rv⟩ := r.get hd
  refine ⟨⟨us, v, .of hu, hv⟩, fun x H2 hy => ?_⟩
  obtain ⟨e, hy⟩ := hy
  subst e
  have e : v = x := Option.some.inj (hv.symm.trans (hy us (.of hu)))
  subst e
  exact ⟨Le.refl, rm, rv⟩
theorem live_enum {K : PySem.W.Frag} {ρ0 : Rho} {H0 : Hp} {n : Nat} {a : Addr} (hn : ρ0[n]? = some (some a)) : SrcR K ρ0 H0 (.lv n true) (Ite K a) := by
  intro ρ H m l rm xs hm
  have hl : n < ρ0.length := (List.getElem?_eq_some_iff.mp hn).1
  have hn' : ρ[n]? = some (some a) := (l.pre n hl).trans hn
  obtain ⟨us, hu, r⟩ := rm.lstAt hn' hm
  refine ⟨fun i d hd => ?_, fun i hi => ⟨us, .of hu, by rw [← r.length]; exact hi⟩⟩
  obtain ⟨v, hv, rv⟩ := r.get hd
  refine ⟨⟨us, v, .of hu, hv⟩, fun x H2 hy => ?_⟩
  obtain ⟨T, y, ex, hT, eH, hy⟩ := hy
  subst ex eH
  have e : v = y := Option.some.inj (hv.symm.trans (hy us (.of hu)))
  subst e
  have l2 : Le ρ.length ρ H ρ (upd H T (.tup [.int (i : Nat), v])) := Le.fresh rm hT
  exact ⟨l2, rm.fresh hT, .tup (.inl ⟨.inl upd_same, rm.out hT⟩) (.cons (.int _) (.cons (rv.mono l2) .nil))⟩
section
variable {X : Cx} {W : WX} {tg e : Expr} {fe : EX}
/-- over a list, a tuple, a text -/
def iAny (K : PySem.W.Frag) (tl : TE) : TI := fun σ H R => tl σ H fun x H1 => (∃ a, x = .ref a ∧ (∃ xs, SqL K H1 a xs) ∧ R (Itl K a) H1) ∨ (∃ a, x = .ref a ∧ (∃ xs, SqT K H1 a xs) ∧ R (Itt K a) H1) ∨ ∃ x', x = .str x' ∧ R (Its x') H1
theorem pi_any {l : Expr} {tl : TE} (hl : PE X l tl) : PI X tg l (iAny X.K tl) := by
  refine ⟨fun pins s σ H R I h => ?_⟩
  refine thn (hl.run pins s σ H _ I h) fun v s1 ⟨x, H1, I1, r1, q1⟩ => ?_
  rcases q1 with ⟨a, e, ⟨xs, hq⟩, q⟩ | ⟨a, e, ⟨xs, hq⟩, q⟩ | ⟨y, ey, q⟩
  · subst e
    cases r1
    obtain ⟨its, rv, p, hz⟩ := I1.list hq
    refine wpAny_pyIter_list p.isList ?_
    refine ⟨s1.heap.objs.size, [s1.heap.objs.size], _, _, H1, rfl, I1.kept (t' := s1.toks) fun b o e => Heap.get?_push_of_some _ e, turn_list a _, ⟨_, Heap.get?_push_size _ rfl, rfl, rfl⟩, fun b hb => ?_, q⟩
    have e : b = s1.heap.objs.size := by simpa using hb
    subst e
    exact I1.fpOk (Nat.le_refl _) (I1.hok.fresh (Nat.le_refl _))
  · subst e
    cases r1
    obtain ⟨its, rv, p, hz⟩ := I1.tuple hq
    refine wpAny_pyIter_tuple (show s1.heap.IsTuple a its.toArray from p) ?_
    refine ⟨s1.heap.objs.size, [s1.heap.objs.size], _, _, H1, rfl, I1.kept (t' := s1.toks) fun b o e => Heap.get?_push_of_some _ e, turn_tuple a _, ⟨_, Heap.get?_push_size _ rfl, rfl, rfl⟩, fun b hb => ?_, q⟩
    have e : b = s1.heap.objs.size := by simpa using hb
    subst e
    exact I1.fpOk (Nat.le_refl _) (I1.hok.fresh (Nat.le_refl _))
  · subst ey
    obtain ⟨t, rfl⟩ := r1
    cases ha : y.cps.all (· < 128)
    · exact wpAny_pyIter_wide ha (pi_one (tk := s1.toks) I1 _ (turn_str _ y t "str_iterator" (.inr rfl)) ⟨_, Heap.get?_push_size _ rfl, rfl, rfl⟩ q)
    · exact wpAny_pyIter_ascii ha (pi_one (tk := s1.toks) I1 _ (turn_str _ y t "str_ascii_iterator" (.inl rfl)) ⟨_, Heap.get?_push_size _ rfl, rfl, rfl⟩ q)
theorem itr_list {K : PySem.W.Frag} {ρ : Rho} {H : Hp} {ds : List D} {a : Addr} {xs : List V} (hs : ∀ ρ' H', Le ρ.length ρ H ρ' H' → SqL K H' a xs) (r : RVs K ρ H ds xs) : ItR K ρ H ds (Itl K a) := by
  intro ρ' H' m l rm
  have r' := r.mono l
  refine ⟨fun i d hd => ?_, fun i hi => ⟨xs, hs ρ' H' l, by rw [← r.length]; exact hi⟩⟩
  obtain ⟨v, hv, rv⟩ := r'.get hd
  refine ⟨⟨xs, v, hs ρ' H' l, hv⟩, fun x H2 hy => ?_⟩
  obtain ⟨e, hy⟩ := hy
  subst e
  have e : v = x := Option.some.inj (hv.symm.trans (hy xs (hs ρ' _ l)))
  subst e
  exact ⟨Le.refl, rm, rv⟩
theorem itr_tup {K : PySem.W.Frag} {ρ : Rho} {H : Hp} {ds : List D} {a : Addr} {xs : List V} (hs : ∀ ρ' H', Le ρ.length ρ H ρ' H' → SqT K H' a xs) (r : RVs K ρ H ds xs) : ItR K ρ H ds (Itt K a) := by
  intro ρ' H' m l rm
  have r' := r.mono l
  refine ⟨fun i d hd => ?_, fun i hi => ⟨xs, hs ρ' H' l, by rw [← r.length]; exact hi⟩⟩
  obtain ⟨v, hv, rv⟩ := r'.get hd
  refine ⟨⟨xs, v, hs ρ' H' l, hv⟩, fun x H2 hy => ?_⟩
  obtain ⟨e, hy⟩ := hy
  subst e
  have e : v = x := Option.some.inj (hv.symm.trans (hy xs (hs ρ' _ l)))
  subst e
  exact ⟨Le.refl, rm, rv⟩
theorem di_any (he : DE X W e fe) : DI X W tg e (bnd fe fun d _ m => iterD d m) := by
  obtain ⟨te, pe, se⟩ := he
  refine ⟨_, pi_any pe, fun ρ loc m σ H Q rm rl h => ?_⟩
  refine se.use rm rl h fun ρ1 m1 H1 d x l1 rm1 rl1 rx h1 => ?_
  have go : ∀ {ds J}, iterD d m1 = .ok (.st ds) m1 → ItR X.K ρ1 H1 ds J → Q J H1 := fun {ds J} e i => by
    rw [e] at h1
    exact h1 ρ1 H1 J Le.refl rm1 i
  cases rx with
  | @tup a xs ds f r => exact .inr (.inl ⟨a, rfl, ⟨xs, f.sq⟩, go rfl (itr_tup (fun ρ' H' l => (f.mono l).sq) r)⟩)
  | @lst a xs ds f n r => exact .inl ⟨a, rfl, ⟨xs, .of f⟩, go rfl (itr_list (fun ρ' H' l => .of (l.keep _ _ f n)) r)⟩
  | @ro a xs ds f r => exact .inl ⟨a, rfl, ⟨xs, f.sq⟩, go rfl (itr_list (fun ρ' H' l => (f.mono l).sq) r)⟩
  | str x =>
    refine .inr (.inr ⟨x, rfl, go rfl ?_⟩)
    intro ρ' H' m' l rm'
    refine ⟨fun i d hd => ?_, fun i hi => (show x.cps.size ≤ i by simpa using hi)⟩
    rw [List.getElem?_map, Option.map_eq_some_iff] at hd
    obtain ⟨c, hc, e⟩ := hd
    subst e
    rw [Array.getElem?_toList] at hc
    refine ⟨(Array.getElem?_eq_some_iff.mp hc).1, fun v H2 hy => ?_⟩
    obtain ⟨e, c', hc', ev⟩ := hy
    subst e ev
    rw [hc] at hc'
    cases hc'
    exact ⟨Le.refl, rm', .str _⟩
  | @obj n a e =>
    simp only [iterD] at h1
    split at h1
    · rename_i us hm
      obtain ⟨xs, hx, r⟩ := rm1.lstAt e hm
      exact .inl ⟨a, rfl, ⟨xs, .of hx⟩, h1 ρ1 H1 _ Le.refl rm1 (live_list e)⟩
    · exact h1.elim
  | _ => exact h1.elim
/-! ranges -/
def rangeD (lo : Int) (c : Int) (n : Nat) : List D := (List.range n).map fun (i : Nat) => D.int (lo + (i : Int) * c)
theorem rangeD_get {lo c : Int} {n i : Nat} {d : D} (h : (rangeD lo c n)[i]? = some d) : i < n ∧ d = .int (lo + (i : Int) * c) := by
  unfold rangeD at h
  rw [List.getElem?_map, Option.map_eq_some_iff] at h
  obtain ⟨j, hj, e⟩ := h
  obtain ⟨h1, h2⟩ := List.getElem?_eq_some_iff.mp hj
  rw [List.getElem_range] at h2
  subst h2
  exact ⟨by simpa using h1, e.symm⟩
theorem itr_range {K : PySem.W.Frag} {ρ : Rho} {H : Hp} {lo : Int} {n : Nat} : ItR K ρ H (rangeD lo 1 n) (Itr lo n) := by
  intro ρ' H' m l rm
  refine ⟨fun i d hd => ?_, fun i hi => (show n ≤ i by simpa [rangeD] using hi)⟩
  obtain ⟨h1, h2⟩ := rangeD_get hd
  subst h2
  refine ⟨h1, fun x H2 hy => ?_⟩
  obtain ⟨e1, e2⟩ := hy
  subst e1 e2
  rw [Int.mul_one]
  exact ⟨Le.refl, rm, .int _⟩
theorem itr_rangeC {K : PySem.W.Frag} {ρ : Rho} {H : Hp} {lo c : Int} {n : Nat} : ItR K ρ H (rangeD lo c n) (Itc lo c n) := by
  intro ρ' H' m l rm
  refine ⟨fun i d hd => ?_, fun i hi => (show n ≤ i by simpa [rangeD] using hi)⟩
  obtain ⟨h1, h2⟩ := rangeD_get hd
  subst h2
  refine ⟨h1, fun x H2 hy => ?_⟩
  obtain ⟨e1, e2⟩ := hy
  subst e1 e2
  exact ⟨Le.refl, rm, .int _⟩
def SmallR (j : Int) : Prop := -(2 ^ 62) ≤ j ∧ j < 2 ^ 62
instance {j : Int} : Decidable (SmallR j) := by unfold SmallR; infer_instance
def range1 (ds : List D) (m : Mem) : R Src := match ds with
  | [.int j] => if SmallR j then .ok (.st (rangeD 0 1 j.toNat)) m else .bad
  | _ => .bad
def range2 (ds : List D) (m : Mem) : R Src := match ds with
  | [.int i, .int j] => if SmallR i ∧ SmallR j then .ok (.st (rangeD i 1 (j - i).toNat)) m else .bad
  | _ => .bad
def rangeN (ds : List D) (m : Mem) : R Src := match ds with
  | [.int i, .int j, .int c] => if SmallR i ∧ SmallR j ∧ c = -1 then .ok (.st (rangeD i (-1) (i - j).toNat)) m else .bad
  | _ => .bad
def eArgs {α : Type} (g : List D → Mem → R α) (fs : EL) : Loc → Mem → R α := bnd fs fun ds _ m => g ds m
theorem di_range1 {a : Expr} {fs : EL} {p pos : Pos} (hg : Gl X "range") (hm : X.mg "range" = none) (ha : DA X W [a] fs) (hs : starEach [a] X.env = [(false, eval a X.env)] := by rfl) : DI X W tg (.Call (.Name "range" p) [a] [] pos) (eArgs range1 fs) := by
  obtain ⟨t, pa, sa⟩ := ha
  refine ⟨_, pi_range1 hg hm pa hs, fun ρ loc m σ H Q rm rl h => ?_⟩
  refine sa.use rm rl h fun ρ1 m1 H1 ds xs l1 rm1 rl1 rx h1 => ?_
  unfold range1 at h1
  split at h1
  · rename_i j
    cases rx with
    | cons r t =>
      cases t
      cases r
      split at h1
      · rename_i hj; exact ⟨j, rfl, hj.1, hj.2, h1 ρ1 H1 _ Le.refl rm1 itr_range⟩
      · exact h1.elim
  · exact h1.elim
theorem di_range2 {a b : Expr} {fs : EL} {p pos : Pos} (hg : Gl X "range") (hm : X.mg "range" = none) (ha : DA X W [a, b] fs) (hs : starEach [a, b] X.env = [(false, eval a X.env), (false, eval b X.env)] := by rfl) (hs2 : starEach [b] X.env = [(false, eval b X.env)] := by rfl) :
    DI X W tg (.Call (.Name "range" p) [a, b] [] pos) (eArgs range2 fs) := by
  obtain ⟨t, pa, sa⟩ := ha
  refine ⟨_, pi_range2 hg hm pa hs hs2, fun ρ loc m σ H Q rm rl h => ?_⟩
  refine sa.use rm rl h fun ρ1 m1 H1 ds xs l1 rm1 rl1 rx h1 => ?_
  unfold range2 at h1
  split at h1
  · rename_i i j
    cases rx with
    | cons r t =>
      cases t with
      | cons r2 t =>
        cases t
        cases r
        cases r2
        split at h1
        · rename_i hj; exact ⟨i, j, rfl, ⟨hj.1.1, hj.1.2, hj.2.1, hj.2.2⟩, h1 ρ1 H1 _ Le.refl rm1 itr_range⟩
        · exact h1.elim
  · exact h1.elim
theorem di_rangeN {a b c : Expr} {fs : EL} {p pos : Pos} (hg : Gl X "range") (hm : X.mg "range" = none) (ha : DA X W [a, b, c] fs) (hs : starEach [a, b, c] X.env = (false, eval a X.env) :: starEach [b, c] X.env := by rfl) (hpl : (backTo pos (starEach [b, c] X.env)).any (·.1) = false := by rfl) :
    DI X W tg (.Call (.Name "range" p) [a, b, c] [] pos) (eArgs rangeN fs) := by
  obtain ⟨t, pa, sa⟩ := ha
  refine ⟨_, pi_range3 hg hm pa hs hpl, fun ρ loc m σ H Q rm rl h => ?_⟩
  refine sa.use rm rl h fun ρ1 m1 H1 ds xs l1 rm1 rl1 rx h1 => ?_
  unfold rangeN at h1
  split at h1
  · rename_i i j c
    cases rx with
    | cons r t =>
      cases t with
      | cons r2 t =>
        cases t with
        | cons r3 t =>
          cases t
          cases r
          cases r2
          cases r3
          split at h1
          · rename_i hj
            obtain ⟨h2, h3, h4⟩ := hj
            subst h4
            exact ⟨i, j, -1, _, rfl, RgC.neg h2.1 h2.2 h3.1 h3.2, h1 ρ1 H1 _ Le.refl rm1 itr_rangeC⟩
          · exact h1.elim
  · exact h1.elim
/-! enumerate -/
def enumD : Nat → List D → List D
  | _, [] => []
  | i, d :: r => .tup [.int (i : Nat), d] :: enumD (i + 1) r
theorem enumD_get : ∀ {ds : List D} {k i : Nat} {e : D}, (enumD k ds)[i]? = some e → ∃ d, ds[i]? = some d ∧ e = .tup [.int ((k + i : Nat) : Int), d]
  | [], _, _, _, h => by simp [enumD] at h
  | d :: r, k, 0, e, h => by
    simp only [enumD, List.getElem?_cons_zero, Option.some.injEq] at h
    exact ⟨d, rfl, h.symm⟩
  | d :: r, k, i + 1, e, h => by
    simp only [enumD, List.getElem?_cons_succ] at h
    obtain ⟨d', h1, h2⟩ := enumD_get h
    exact ⟨d', by simpa using h1, by rw [h2]; congr 4; omega⟩
theorem enumD_length : ∀ (ds : List D) (k : Nat), (enumD k ds).length = ds.length
  | [], _ => rfl
  | d :: r, k => by simp [enumD, enumD_length r]
def enumOf (d : D) (m : Mem) : R Src := match d with
  | .lst xs => .ok (.st (enumD 0 xs)) m
  | .ro xs => .ok (.st (enumD 0 xs)) m
  | .tup xs => .ok (.st (enumD 0 xs)) m
  | .obj n => match m[n]? with
    | some (.lst _) => .ok (.lv n true) m
    | _ => .bad
  | _ => .bad
def enum1 (ds : List D) (m : Mem) : R Src := match ds with
  | [d] => enumOf d m
  | _ => .bad
theorem di_enum {elts : List Expr} {kk : Nat} {tpos : Pos} {fs : EL} {p pos : Pos} (hg : Gl X "enumerate") (hm : X.mg "enumerate" = none) (ha : DA X W [e] fs) (hs : starEach [e] X.env = [(false, eval e X.env)] := by rfl) :
    DI X W (.Tuple elts kk tpos) (.Call (.Name "enumerate" p) [e] [] pos) (eArgs enum1 fs) := by
  obtain ⟨t, pa, sa⟩ := ha
  refine ⟨_, pi_enumA hg hm pa hs, fun ρ loc m σ H Q rm rl h => ?_⟩
  refine sa.use rm rl h fun ρ1 m1 H1 ds xs l1 rm1 rl1 rx h1 => ?_
  unfold enum1 at h1
  split at h1
  · rename_i d
    cases rx with
    | cons r t =>
      cases t
      have go : ∀ {a : Addr} {us : List V} {es : List D}, (∀ ρ' H', Le ρ1.length ρ1 H1 ρ' H' → SqL X.K H' a us) → RVs X.K ρ1 H1 es us → ItR X.K ρ1 H1 (enumD 0 es) (Ite X.K a) := fun {a us es} hs r => by
        intro ρ' H' m' l rm'
        refine ⟨fun i e he => ?_, fun i hi => ⟨us, hs ρ' H' l, by rw [enumD_length] at hi; rw [← r.length]; exact hi⟩⟩
        obtain ⟨d, hd, ee⟩ := enumD_get he
        subst ee
        obtain ⟨v, hv, rv⟩ := (r.mono l).get hd
        refine ⟨⟨us, v, hs ρ' H' l, hv⟩, fun x H2 hy => ?_⟩
        obtain ⟨T, y, ex, hT, eH, hy⟩ := hy
        subst ex eH
        have ev : v = y := Option.some.inj (hv.symm.trans (hy us (hs ρ' _ l)))
        subst ev
        have l2 : Le ρ'.length ρ' H' ρ' (upd H' T (.tup [.int (i : Nat), v])) := Le.fresh rm' hT
        refine ⟨l2, rm'.fresh hT, .tup (.inl ⟨.inl upd_same, rm'.out hT⟩) (.cons ?_ (.cons (rv.mono l2) .nil))⟩
        rw [Nat.zero_add]
        exact .int _
      have goT : ∀ {a : Addr} {us : List V} {es : List D}, (∀ ρ' H', Le ρ1.length ρ1 H1 ρ' H' → SqT X.K H' a us) → RVs X.K ρ1 H1 es us → ItR X.K ρ1 H1 (enumD 0 es) (Iet X.K a) := fun {a us es} hs r => by
        intro ρ' H' m' l rm'
        refine ⟨fun i e he => ?_, fun i hi => ⟨us, hs ρ' H' l, by rw [enumD_length] at hi; rw [← r.length]; exact hi⟩⟩
        obtain ⟨d, hd, ee⟩ := enumD_get he
        subst ee
        obtain ⟨v, hv, rv⟩ := (r.mono l).get hd
        refine ⟨⟨us, v, hs ρ' H' l, hv⟩, fun x H2 hy => ?_⟩
        obtain ⟨T, y, ex, hT, eH, hy⟩ := hy
        subst ex eH
        have ev : v = y := Option.some.inj (hv.symm.trans (hy us (hs ρ' _ l)))
        subst ev
        have l2 : Le ρ'.length ρ' H' ρ' (upd H' T (.tup [.int (i : Nat), v])) := Le.fresh rm' hT
        refine ⟨l2, rm'.fresh hT, .tup (.inl ⟨.inl upd_same, rm'.out hT⟩) (.cons ?_ (.cons (rv.mono l2) .nil))⟩
        rw [Nat.zero_add]
        exact .int _
      cases r with
      | @lst a us es f n r => exact ⟨a, rfl, .inl ⟨us, .of f, h1 ρ1 H1 _ Le.refl rm1 (go (fun ρ' H' l => .of (l.keep _ _ f n)) r)⟩⟩
      | @ro a us es f r => exact ⟨a, rfl, .inl ⟨us, f.sq, h1 ρ1 H1 _ Le.refl rm1 (go (fun ρ' H' l => (f.mono l).sq) r)⟩⟩
      | @tup a us es f r => exact ⟨a, rfl, .inr ⟨us, f.sq, h1 ρ1 H1 _ Le.refl rm1 (goT (fun ρ' H' l => (f.mono l).sq) r)⟩⟩
      | @obj n a e =>
        simp only [enumOf] at h1
        split at h1
        · rename_i us hm'
          obtain ⟨xs, hx, r⟩ := rm1.lstAt e hm'
          exact ⟨a, rfl, .inl ⟨xs, .of hx, h1 ρ1 H1 _ Le.refl rm1 (live_enum e)⟩⟩
        · exact h1.elim
      | _ => exact h1.elim
  · exact h1.elim
end

/-! ### for -/
def forD (ga : GX) (body : SX) : List D → Loc → Mem → SR
  | [], loc, m => .nx loc m
  | d :: ds, loc, m => match ga d loc with
    | none => .bad
    | some l1 => match body m.length l1 m with
      | .nx l2 m2 => forD ga body ds l2 m2
      | .ct l2 m2 => forD ga body ds l2 m2
      | .brk l2 m2 => .nx l2 m2
      | .ret d m2 => .ret d m2
      | .err e l2 m2 => .err e l2 m2
      | .bad => .bad
def forV (ga : GX) (body : SX) (n : Nat) (en : Bool) (len : Nat) : Nat → Loc → Mem → SR
  | 0, loc, m => match m[n]? with
    | some (.lst xs) => if xs.length = len then .nx loc m else .bad
    | _ => .bad
  | r + 1, loc, m => match m[n]? with
    | some (.lst xs) => if xs.length = len then (match xs[len - (r + 1)]? with
      | some d => (match ga (wrapI en (len - (r + 1)) d) loc with
        | none => .bad
        | some l1 => match body m.length l1 m with
          | .nx l2 m2 => forV ga body n en len r l2 m2
          | .ct l2 m2 => forV ga body n en len r l2 m2
          | .brk l2 m2 => .nx l2 m2
          | .ret d m2 => .ret d m2
          | .err e l2 m2 => .err e l2 m2
          | .bad => .bad)
      | none => .bad) else .bad
    | _ => .bad
def forS (ga : GX) (body : SX) (s : Src) (loc : Loc) (m : Mem) : SR := match s with
  | .st ds => forD ga body ds loc m
  | .lv n en => match m[n]? with
    | some (.lst xs) => forV ga body n en xs.length xs.length loc m
    | _ => .bad
def sFor (fi : ES) (ga : GX) (body : SX) : SX := fun _ loc m => ofR (fi loc m) loc fun s m' => forS ga body s loc m'
section
variable {X : Cx} {W : WX} {tg iter : Expr} {body : List Stmt} {fi : ES} {ga : GX} {fb : SX} {pos : Pos} {k : Nat} {ts : List Nat}
theorem ds_for (C : Ctx X W k) (hi : DI X W tg iter fi) (hg : DG X tg ga ts) (hb : DSs X W body fb) (hs : ∀ x, foldedSetIterable iter X.env x = pure x := by intro _; rfl) : DS X W (.For tg iter body [] pos) (sFor fi ga fb) := by
  obtain ⟨wi, pi, si⟩ := hi
  obtain ⟨g, pg, sg⟩ := hg
  obtain ⟨tb, pb, sb⟩ := hb
  refine ⟨_, ps_for C.hp C.calm pi pg pb hs, fun ρ N loc m σ H Dn hN rm rl h => ?_⟩
  refine si.useS hN rm rl h fun ρ1 m1 H1 ss J l1 rm1 rl1 itr hN1 h1 => ?_
  cases ss with
  | st ds =>
    refine ⟨fun i mm σ2 H2 => ∃ ρ2 loc2 m2, RM X.K ρ2 H2 m2 ∧ RL X.K ρ2 H2 loc2 σ2 ∧ Le ρ1.length ρ1 H1 ρ2 H2 ∧ mm = ds.length - i ∧ i ≤ ds.length ∧ SPost X.K W N ρ2 H2 (forD ga fb (ds.drop i) loc2 m2) Dn,
      ⟨ds.length, ρ1, loc, m1, rm1, rl1, Le.refl, by simp, Nat.zero_le _, h1⟩, ?_⟩
    rintro i mm σ2 H2 ⟨ρ2, loc2, m2, rm2, rl2, l2, rfl, hi, h2⟩
    obtain ⟨it1, it2⟩ := itr ρ2 H2 m2 l2 rm2
    by_cases hlt : i < ds.length
    · have hd : ds[i]? = some ds[i] := List.getElem?_eq_getElem hlt
      obtain ⟨go, yl⟩ := it1 i _ hd
      have hN2 : N ≤ ρ2.length := Nat.le_trans hN1 l2.len
      refine .inr ⟨go, fun σ' H' => ∃ ρ' loc' m', RM X.K ρ' H' m' ∧ RL X.K ρ' H' loc' σ' ∧ Le ρ1.length ρ1 H1 ρ' H' ∧ SPost X.K W N ρ' H' (forD ga fb (ds.drop (i + 1)) loc' m') Dn, fun σ' H' ⟨ρ', loc', m', a1, a2, a3, a4⟩ =>
        ⟨ds.length - (i + 1), by omega, ρ', loc', m', a1, a2, a3, rfl, hlt, a4⟩, fun x H3 hy => ?_⟩
      obtain ⟨l3, rm3, rv3⟩ := yl x H3 hy
      rw [List.drop_eq_getElem_cons hlt] at h2
      unfold forD at h2
      split at h2
      · exact h2.elim
      · rename_i lx ex
        refine sg ρ2 loc2 lx m2 σ2 H3 _ x _ rm3 (rl2.mono l3) rv3 ex fun σ4 rl4 _ _ => ?_
        have hlen : m2.length = ρ2.length := rm2.len.symm
        refine sb ρ2 m2.length lx m2 σ4 H3 _ (by rw [hlen]; exact Nat.le_refl _) rm3 rl4 ?_
        have lN : ∀ {ρ' H'}, Le m2.length ρ2 H3 ρ' H' → Le ρ2.length ρ2 H2 ρ' H' := fun {ρ' H'} l => l3.trans (by rw [← hlen]; exact l)
        have l1N : ∀ {ρ' H'}, Le m2.length ρ2 H3 ρ' H' → Le ρ1.length ρ1 H1 ρ' H' := fun {ρ' H'} l => l2.trans ((lN l).less l2.len)
        cases q : fb m2.length lx m2 with
        | nx l5 m5 =>
          rw [q] at h2
          exact fun ρ' σ' H' l rm' rl' => ⟨ρ', l5, m5, rm', rl', l1N l, SPost.later ((lN l).less hN2) h2⟩
        | ct l5 m5 =>
          rw [q] at h2
          exact fun ρ' σ' H' l rm' rl' => ⟨ρ', l5, m5, rm', rl', l1N l, SPost.later ((lN l).less hN2) h2⟩
        | brk l5 m5 =>
          rw [q] at h2
          exact fun ρ' σ' H' l rm' rl' => h2 ρ' σ' H' ((lN l).less hN2) rm' rl'
        | ret d m5 =>
          rw [q] at h2
          exact fun ρ' H' v l rm' rv' => h2 ρ' H' v ((lN l).less hN2) rm' rv'
        | err e l5 m5 =>
          rw [q] at h2
          exact fun ρ' σ' H' cls dd l rm' rl' re' => h2 ρ' σ' H' cls dd ((lN l).less hN2) rm' rl' re'
        | bad => rw [q] at h2; exact h2
    · have e : i = ds.length := by omega
      subst e
      refine .inl ⟨it2 _ (Nat.le_refl _), ?_⟩
      rw [List.drop_length] at h2
      exact h2 ρ2 σ2 H2 Le.refl rm2 rl2
  | lv n en =>
    simp only [forS] at h1
    cases q0 : m1[n]? with
    | none => rw [q0] at h1; exact h1.elim
    | some o =>
    cases o with
    | lst xs0 =>
      rw [q0] at h1
      simp only at h1
      generalize xs0.length = len at h1
      refine ⟨fun i mm σ2 H2 => ∃ ρ2 loc2 m2, RM X.K ρ2 H2 m2 ∧ RL X.K ρ2 H2 loc2 σ2 ∧ Le ρ1.length ρ1 H1 ρ2 H2 ∧ mm = len - i ∧ i ≤ len ∧ SPost X.K W N ρ2 H2 (forV ga fb n en len (len - i) loc2 m2) Dn,
        ⟨len, ρ1, loc, m1, rm1, rl1, Le.refl, by simp, Nat.zero_le _, h1⟩, ?_⟩
      rintro i mm σ2 H2 ⟨ρ2, loc2, m2, rm2, rl2, l2, rfl, hi, h2⟩
      by_cases hlt : i < len
      · obtain ⟨r, hr⟩ : ∃ r, len - i = r + 1 := ⟨len - i - 1, by omega⟩
        have hr2 : len - (r + 1) = i := by omega
        have hr3 : len - (i + 1) = r := by omega
        rw [hr] at h2
        unfold forV at h2
        rw [hr2] at h2
        split at h2
        · rename_i ys hy
          split at h2
          · rename_i hlen'
            split at h2
            · rename_i d hd
              obtain ⟨it1, it2⟩ := itr ρ2 H2 m2 l2 rm2 ys hy
              obtain ⟨go, yl⟩ := it1 i _ hd
              have hN2 : N ≤ ρ2.length := Nat.le_trans hN1 l2.len
              refine .inr ⟨go, fun σ' H' => ∃ ρ' loc' m', RM X.K ρ' H' m' ∧ RL X.K ρ' H' loc' σ' ∧ Le ρ1.length ρ1 H1 ρ' H' ∧ SPost X.K W N ρ' H' (forV ga fb n en len r loc' m') Dn, fun σ' H' ⟨ρ', loc', m', a1, a2, a3, a4⟩ =>
                ⟨len - (i + 1), by omega, ρ', loc', m', a1, a2, a3, rfl, hlt, by rw [hr3]; exact a4⟩, fun x H3 hyl => ?_⟩
              obtain ⟨l3, rm3, rv3⟩ := yl x H3 hyl
              split at h2
              · exact h2.elim
              · rename_i lx ex
                refine sg ρ2 loc2 lx m2 σ2 H3 _ x _ rm3 (rl2.mono l3) rv3 ex fun σ4 rl4 _ _ => ?_
                have hlen : m2.length = ρ2.length := rm2.len.symm
                refine sb ρ2 m2.length lx m2 σ4 H3 _ (by rw [hlen]; exact Nat.le_refl _) rm3 rl4 ?_
                have lN : ∀ {ρ' H'}, Le m2.length ρ2 H3 ρ' H' → Le ρ2.length ρ2 H2 ρ' H' := fun {ρ' H'} l => l3.trans (by rw [← hlen]; exact l)
                have l1N : ∀ {ρ' H'}, Le m2.length ρ2 H3 ρ' H' → Le ρ1.length ρ1 H1 ρ' H' := fun {ρ' H'} l => l2.trans ((lN l).less l2.len)
                cases q : fb m2.length lx m2 with
                | nx l5 m5 =>
                  rw [q] at h2
                  exact fun ρ' σ' H' l rm' rl' => ⟨ρ', l5, m5, rm', rl', l1N l, SPost.later ((lN l).less hN2) h2⟩
                | ct l5 m5 =>
                  rw [q] at h2
                  exact fun ρ' σ' H' l rm' rl' => ⟨ρ', l5, m5, rm', rl', l1N l, SPost.later ((lN l).less hN2) h2⟩
                | brk l5 m5 =>
                  rw [q] at h2
                  exact fun ρ' σ' H' l rm' rl' => h2 ρ' σ' H' ((lN l).less hN2) rm' rl'
                | ret d m5 =>
                  rw [q] at h2
                  exact fun ρ' H' v l rm' rv' => h2 ρ' H' v ((lN l).less hN2) rm' rv'
                | err e l5 m5 =>
                  rw [q] at h2
                  exact fun ρ' σ' H' cls dd l rm' rl' re' => h2 ρ' σ' H' cls dd ((lN l).less hN2) rm' rl' re'
                | bad => rw [q] at h2; exact h2
            · exact h2.elim
          · exact h2.elim
        · exact h2.elim
      · have e : i = len := by omega
        subst e
        rw [Nat.sub_self] at h2
        unfold forV at h2
        split at h2
        · rename_i ys hy
          split at h2
          · rename_i hlen'
            obtain ⟨it1, it2⟩ := itr ρ2 H2 m2 l2 rm2 ys hy
            exact .inl ⟨it2 _ (by rw [hlen']; exact Nat.le_refl _), h2 ρ2 σ2 H2 Le.refl rm2 rl2⟩
          · exact h2.elim
        · exact h2.elim
    | _ => rw [q0] at h1; exact h1.elim

/-! ### while -/
def whileD (c : ET) (body : SX) : Nat → Loc → Mem → SR
  | 0, _, _ => .bad
  | n + 1, loc, m => ofR (c loc m) loc fun b m1 => if b = true then (match body m1.length loc m1 with
      | .nx l2 m2 => whileD c body n l2 m2
      | .ct l2 m2 => whileD c body n l2 m2
      | .brk l2 m2 => .nx l2 m2
      | .ret d m2 => .ret d m2
      | .err e l2 m2 => .err e l2 m2
      | .bad => .bad) else .nx loc m1
def sWhile (fuel : Nat) (c : ET) (body : SX) : SX := fun _ loc m => whileD c body fuel loc m
theorem ds_while (fuel : Nat) {c : Expr} {fc : ET} (C : Ctx X W k) (hc : DT X W c fc) (hb : DSs X W body fb) : DS X W (.While c body [] pos) (sWhile fuel fc fb) := by
  obtain ⟨tc, pc, sc⟩ := hc
  obtain ⟨tb, pb, sb⟩ := hb
  refine ⟨_, ps_while C.hp pc pb, fun ρ N loc m σ H Dn hN rm rl h => ?_⟩
  refine ⟨fun mm σ2 H2 => ∃ ρ2 loc2 m2, N ≤ ρ2.length ∧ RM X.K ρ2 H2 m2 ∧ RL X.K ρ2 H2 loc2 σ2 ∧ SPost X.K W N ρ2 H2 (whileD fc fb mm loc2 m2) Dn, ⟨fuel, ρ, loc, m, hN, rm, rl, h⟩, ?_⟩
  rintro mm σ2 H2 ⟨ρ2, loc2, m2, hN2, rm2, rl2, h2⟩
  cases mm with
  | zero => exact h2.elim
  | succ n =>
    unfold whileD at h2
    refine sc.useS hN2 rm2 rl2 h2 fun ρ3 m3 H3 b b' l3 rm3 rl3 eb hN3 h3 => ?_
    subst eb
    cases b with
    | false => exact h3 ρ3 σ2 H3 Le.refl rm3 rl3
    | true =>
      rw [if_pos rfl] at h3 ⊢
      refine ⟨fun σ' H' => ∃ ρ' loc' m', N ≤ ρ'.length ∧ RM X.K ρ' H' m' ∧ RL X.K ρ' H' loc' σ' ∧ SPost X.K W N ρ' H' (whileD fc fb n loc' m') Dn, fun σ' H' q => ⟨n, Nat.lt_succ_self _, q⟩, ?_⟩
      have hlen : m3.length = ρ3.length := rm3.len.symm
      refine sb ρ3 m3.length loc2 m3 σ2 H3 _ (by rw [hlen]; exact Nat.le_refl _) rm3 rl3 ?_
      have lN : ∀ {ρ' H'}, Le m3.length ρ3 H3 ρ' H' → Le N ρ3 H3 ρ' H' := fun {ρ' H'} l => l.less (by rw [hlen]; exact hN3)
      cases q : fb m3.length loc2 m3 with
      | nx l5 m5 =>
        rw [q] at h3
        exact fun ρ' σ' H' l rm' rl' => ⟨ρ', l5, m5, Nat.le_trans hN3 l.len, rm', rl', SPost.later (lN l) h3⟩
      | ct l5 m5 =>
        rw [q] at h3
        exact fun ρ' σ' H' l rm' rl' => ⟨ρ', l5, m5, Nat.le_trans hN3 l.len, rm', rl', SPost.later (lN l) h3⟩
      | brk l5 m5 =>
        rw [q] at h3
        exact fun ρ' σ' H' l rm' rl' => h3 ρ' σ' H' (lN l) rm' rl'
      | ret d m5 =>
        rw [q] at h3
        exact fun ρ' H' v l rm' rv' => h3 ρ' H' v (lN l) rm' rv'
      | err e l5 m5 =>
        rw [q] at h3
        exact fun ρ' σ' H' cls dd l rm' rl' re' => h3 ρ' σ' H' cls dd (lN l) rm' rl' re'
      | bad => rw [q] at h3; exact h3
end

/-! ### a def by its body -/
def startD (n : Nat) (ds : List D) : Loc := ds.map some ++ List.replicate (n - ds.length) none
def ofSR (r : SR) : R D := match r with
  | .nx _ m => .ok .non m
  | .ret d m => .ok d m
  | .err e _ m => .err e m
  | _ => .bad
/-- what a def does: n names, its body -/
def runD (n : Nat) (b : SX) (ds : List D) (m : Mem) : R D := trunc m.length (ofSR (b m.length (startD n ds) m))
section
variable {P : Program} {w : World} {K : PySem.W.Frag} {mg : Str → Option Value} {base : Heap}
theorem start_rel {ρ : Rho} {H : Hp} {N : List Str} {ds : List D} {vs : List V} (r : RVs K ρ H ds vs) : RL K ρ H (startD N.length ds) (L2.start N vs) := by
  unfold startD L2.start
  refine ⟨by simp [r.length], fun i d h => ?_⟩
  by_cases hi : i < ds.length
  · rw [List.getElem?_append_left (by simpa using hi), List.getElem?_map, Option.map_eq_some_iff] at h
    obtain ⟨d', h1, h2⟩ := h
    cases h2
    obtain ⟨v, h3, h4⟩ := r.get h1
    exact ⟨v, by rw [List.getElem?_append_left (by rw [List.length_map, ← r.length]; exact hi), List.getElem?_map, h3]; rfl, h4⟩
  · rw [List.getElem?_append_right (by simpa using hi), List.getElem?_replicate] at h
    split at h <;> cases h
/-- THE RULE: a def of the text by its body's reading -/
theorem fn_D {x qual : Str} {st : Stmt} {f : Addr} {fd : FuncData} {N ps : List Str} {k : Nat} {b : SX} (F : Fun K x qual st f fd) (S : FnScope N ps (defScope st))
    (hb : ∀ (cdv : Value) (A : Around) (outer : List Env) (s : Shared) (H : Hp) (E : XK), Ctx (cxOf (L2.CX P w) P w K mg base N qual (defScope st) f cdv A outer s H E) (fun cls d _ H => E cls d H) k →
      DSs (cxOf (L2.CX P w) P w K mg base N qual (defScope st) f cdv A outer s H E) (fun cls d _ H => E cls d H) (defBody st) b) :
    FnOk P w K mg base (L2.CX P w) (k + 1) f fd ps (spD K ps.length (runD N.length b)) := by
  refine F.okX S (fun vs H Q E h => h.1) fun cdv A outer s H vs Q E hr h => ?_
  obtain ⟨hl, ρ, ds, m, rm, rv, h⟩ := h
  have C : Ctx (cxOf (L2.CX P w) P w K mg base N qual (defScope st) f cdv A outer s H E) (fun cls d _ H => E cls d H) k := ⟨takes_of rfl rfl rfl rfl, passes_of rfl, rfl, S.nd, hr⟩
  obtain ⟨t, pt, sem⟩ := hb cdv A outer s H E C
  refine ⟨t, pt, sem ρ m.length (startD N.length ds) m (L2.start N vs) H _ (by rw [rm.len]; exact Nat.le_refl _) rm (start_rel rv) ?_⟩
  unfold runD at h
  rw [← rm.len] at h
  have h := FPost.trunc h
  rw [rm.len] at h
  have lm : ∀ {ρ' H'}, Le m.length ρ H ρ' H' → Le ρ.length ρ H ρ' H' := fun {ρ' H'} l => by rw [rm.len]; exact l
  cases q : b m.length (startD N.length ds) m with
  | nx l m' => rw [q] at h; exact fun ρ' σ' H' l rm' rl' => h ρ' H' .non (lm l) rm' .non
  | ret d m' => rw [q] at h; exact fun ρ' H' v l rm' rv' => h ρ' H' v (lm l) rm' rv'
  | brk l m' => rw [q] at h; exact h.elim
  | ct l m' => rw [q] at h; exact h.elim
  | err e l m' => rw [q] at h; exact fun ρ' σ' H' cls dd l rm' rl' re' => h ρ' H' cls dd (lm l) rm' re'
  | bad => rw [q] at h; exact h.elim
theorem fn_imp {f : Addr} {fd : FuncData} {ps : List Str} {k n : Nat} {g g' : List D → Mem → R D} (F : FnOk P w K mg base (L2.CX P w) k f fd ps (spD K n g)) (h : ∀ ds m, g' ds m = .bad ∨ g ds m = g' ds m) : FnOk P w K mg base (L2.CX P w) k f fd ps (spD K n g') := by
  refine F.imp fun vs H Q E q => ?_
  obtain ⟨hl, ρ, ds, m, rm, rv, q⟩ := q
  refine ⟨hl, ρ, ds, m, rm, rv, ?_⟩
  rcases h ds m with e | e
  · rw [e] at q; exact q.elim
  · rw [e]; exact q
end
end DL

/-! DComp: comprehensions, freezing, raise, try. -/
namespace DL
open PySem PySem.Spec PyProof.Rows L2

/-! ### canonical readings -/
def canR {α β : Type} (K : PySem.W.Frag) (W : WX) (RA : Rho → Hp → α → β → Prop) (f : Loc → Mem → R α) : St → Hp → (β → Hp → Prop) → Prop :=
  fun σ H Q => ∃ ρ loc m, RM K ρ H m ∧ RL K ρ H loc σ ∧ GPost K W RA ρ σ H (f loc m) Q
def canG (K : PySem.W.Frag) (ga : GX) (ts : List Nat) : TG := fun v σ H Q => ∃ ρ loc loc' m d, RM K ρ H m ∧ RL K ρ H loc σ ∧ RV K ρ H d v ∧ ga d loc = some loc' ∧ ∀ σ' : St, RL K ρ H loc' σ' → σ'.length = σ.length → (∀ i, i ∉ ts → σ'[i]? = σ[i]?) → Q σ' H
section
variable {X : Cx} {W : WX} {e tg : Expr} {fe : EX} {ft : ET} {ga : GX} {ts : List Nat}
theorem DE.can (h : DE X W e fe) : PE X e (canR X.K W (RV X.K) fe) := by
  obtain ⟨t, p, s⟩ := h
  exact ⟨fun pins st σ H Q I ⟨ρ, loc, m, rm, rl, q⟩ => p.run pins st σ H Q I (s ρ loc m σ H Q rm rl q)⟩
theorem DT.can (h : DT X W e ft) : PT X e (canR X.K W RB ft) := by
  obtain ⟨t, p, s⟩ := h
  exact ⟨fun pins st σ H Q I ⟨ρ, loc, m, rm, rl, q⟩ => p.run pins st σ H Q I (s ρ loc m σ H Q rm rl q)⟩
theorem DG.can (h : DG X tg ga ts) : PG X tg (canG X.K ga ts) := by
  obtain ⟨g, p, s⟩ := h
  exact ⟨fun pins st σ H v u Q I r ⟨ρ, loc, loc', m, d, rm, rl, rv, ea, q⟩ => p.run pins st σ H v u Q I r (s ρ loc loc' m σ H d v Q rm rl rv ea q)⟩
end
/-- the tests of a comprehension -/
def DTs (X : Cx) (W : WX) (ifs : List Expr) (f : ET) : Prop := PTs X ifs (canR X.K W RB f)
def tT : ET := fun _ m => .ok true m
theorem dts_nil {X : Cx} {W : WX} : DTs X W [] tT := ⟨fun pins st σ H Q I ⟨ρ, loc, m, rm, rl, q⟩ => pts_nil.run pins st σ H Q I (q ρ H true Le.refl rm rfl)⟩
theorem dts_one {X : Cx} {W : WX} {c : Expr} {f : ET} (h : DT X W c f) : DTs X W [c] f := pts_one h.can

theorem Ctx.blk {X : Cx} {W : WX} {k : Nat} (C : Ctx X W k) {s : Shared} {H : Hp} {scope : Scope} {cenv : Env} {fp : List Addr} : Ctx (X.blk s H scope cenv fp) (fun _ _ _ _ => False) k :=
  ⟨takes0, PassesOwn.never, C.calm, C.nd, C.room⟩

/-! ### list comprehensions -/
def wipeD (loc : Loc) : List Nat → Loc
  | [] => loc
  | v :: vs => (wipeD loc vs).set v none
def lcStep (ga : GX) (tt : ET) (te : EX) (N : Nat) (d : D) (loc : Loc) (m : Mem) : R Unit := match ga d loc with
  | none => .bad
  | some l1 => match tt l1 m with
    | .ok false m1 => .ok () m1
    | .ok true m1 => (match te l1 m1 with
      | .ok y m2 => (match m2[N]? with
        | some (.lst acc) => if acc.length < sizeLine then .ok () (m2.set N (.lst (acc ++ [y]))) else .bad
        | _ => .bad)
      | _ => .bad)
    | _ => .bad
def lcD (ga : GX) (tt : ET) (te : EX) (N : Nat) : List D → Loc → Mem → R Unit
  | [], _, m => .ok () m
  | d :: ds, loc, m => (lcStep ga tt te N d loc m).bind fun _ m' => lcD ga tt te N ds loc m'
open Classical in
/-- over a list n of the memory that stands as xs -/
noncomputable def lcV (n : Nat) (xs : List D) (ga : GX) (tt : ET) (te : EX) (N : Nat) : List D → Loc → Mem → R Unit
  | [], _, m => if m[n]? = some (.lst xs) then .ok () m else .bad
  | d :: ds, loc, m => if m[n]? = some (.lst xs) then (lcStep ga tt te N d loc m).bind fun _ m' => lcV n xs ga tt te N ds loc m' else .bad
/-- the made list: a value where nothing else was made, else in the memory -/
def lcFin (o : Bool) (N : Nat) (m : Mem) : R D := if o = true then .ok (.obj N) m else match m[N]? with
  | some (.lst ys) => if (decide (m.length = N + 1) && D.unds N ys && Mem.und N (m.take N)) = true then .ok (.lst ys) (m.take N) else .ok (.obj N) m
  | _ => .bad
noncomputable def eLc (o : Bool) (fi : ES) (ga : GX) (tt : ET) (te : EX) (vs : List Nat) : EX := bnd fi fun s loc m => match s with
  | .lv n false => (match m[n]? with
    | some (.lst xs) => (lcV n xs ga tt te m.length xs (wipeD loc vs) (m ++ [.lst []])).bind fun _ m' => lcFin o m.length m'
    | _ => .bad)
  | .lv _ true => .bad
  | .st ds => (lcD ga tt te m.length ds (wipeD loc vs) (m ++ [.lst []])).bind fun _ m' => lcFin o m.length m'
section
variable {K : PySem.W.Frag} {W : WX} {ρ : Rho} {H : Hp}
theorem wipe_rel {loc : Loc} {σ : St} (rl : RL K ρ H loc σ) : ∀ vs : List Nat, RL K ρ H (wipeD loc vs) (wipe σ vs)
  | [] => rl
  | v :: vs => (wipe_rel rl vs).forget v none
theorem wipe_get {σ : St} : ∀ {vs : List Nat} {i : Nat}, i ∉ vs → (wipe σ vs)[i]? = σ[i]?
  | [], _, _ => rfl
  | v :: vs, i, h => by
    simp only [List.mem_cons, not_or] at h
    unfold wipe
    rw [List.getElem?_set_ne (fun z => h.1 z.symm)]
    exact wipe_get h.2
theorem wipe_in {σ : St} : ∀ {vs : List Nat} {i : Nat}, i ∈ vs → (wipe σ vs)[i]? = if i < σ.length then some none else none
  | v :: vs, i, h => by
    unfold wipe
    by_cases e : v = i
    · subst e
      by_cases hl : v < σ.length
      · rw [List.getElem?_set_self (by rw [wipe_length]; exact hl), if_pos hl]
      · rw [List.getElem?_eq_none (by rw [List.length_set, wipe_length]; omega), if_neg hl]
    · rw [List.getElem?_set_ne e]
      exact wipe_in (by
        rcases List.mem_cons.mp h with z | z
        · exact absurd z.symm e
        · exact z)
theorem wipe_eq {σ σ' : St} {vs ts : List Nat} (hl : σ'.length = σ.length) (h : ∀ i, i ∉ ts → σ'[i]? = (wipe σ vs)[i]?) (hs : ∀ i ∈ ts, i ∈ vs) : wipe σ' vs = wipe σ vs := by
  refine List.ext_getElem? fun i => ?_
  by_cases hi : i ∈ vs
  · rw [wipe_in hi, wipe_in hi, hl]
  · rw [wipe_get hi, h i fun z => hi (hs i z)]
end
section
variable {X : Cx} {W : WX} {elt tg iter : Expr} {ifs : List Expr} {scope : Scope} {own : List (Str × Nat)} {pos : Pos} {fi : ES} {ga : GX} {ts : List Nat} {ft : ET} {fe : EX} {k : Nat}
/-- the reading of a comprehension over data -/
theorem lc_sem {K : PySem.W.Frag} {wi : TI} (o : Bool) (si : SemJ K W (SrcR K) wi fi) {vs : List Nat} (hts : ∀ i ∈ ts, i ∈ vs) :
    SemJ K W (RV K) (tLc wi (canG K ga ts) (canR K (fun _ _ _ _ => False) RB ft) (canR K (fun _ _ _ _ => False) (RV K) fe) vs) (eLc o fi ga ft fe vs) := by
  intro ρ loc m σ H Q rm rl h
  refine si.use rm rl h fun ρ1 m1 H1 ss J l1 rm1 rl1 itr h1 => ?_
  cases ss with
  | lv n0 en =>
    cases en with
    | true => exact h1.elim
    | false =>
    dsimp only at h1
    cases hm : m1[n0]? with
    | none => rw [hm] at h1; exact h1.elim
    | some ob =>
    rw [hm] at h1
    cases ob with
    | lst ds =>
      dsimp only at h1
      intro L hL
      have hN : m1.length = ρ1.length := rm1.len.symm
      have l2 : Le ρ1.length ρ1 H1 (ρ1 ++ [some L]) (upd H1 L (.lst [])) := Le.push rm1 hL (Nat.le_refl _)
      have rm2 : RM K (ρ1 ++ [some L]) (upd H1 L (.lst [])) (m1 ++ [.lst []]) := rm1.push hL ⟨[], upd_same, .nil⟩
      have hb2 : (ρ1 ++ [some L])[ρ1.length]? = some (some L) := by simp
      refine ⟨fun i mm H2 => ∃ ρ2 m2, RM K ρ2 H2 m2 ∧ Le ρ1.length ρ1 H1 ρ2 H2 ∧ ρ2[ρ1.length]? = some (some L) ∧ mm = ds.length - i ∧ i ≤ ds.length ∧
          GPost K W (RV K) ρ1 σ H1 ((lcV n0 ds ga ft fe m1.length (ds.drop i) (wipeD loc vs) m2).bind fun _ m' => lcFin o m1.length m') Q ∧ RL K ρ2 H2 loc σ,
        ⟨ds.length, _, _, rm2, l2, hb2, by simp, Nat.zero_le _, h1, rl1.mono l2⟩, ?_⟩
      rintro i mm H2 ⟨ρ2, m2, rm2, l2, hb2, rfl, hi, h2, rl2⟩
      have hG : m2[n0]? = some (.lst ds) := by
        cases hq : ds.drop i with
        | nil => rw [hq] at h2; unfold lcV at h2; split at h2 <;> first | assumption | exact h2.elim
        | cons _ _ => rw [hq] at h2; unfold lcV at h2; split at h2 <;> first | assumption | exact h2.elim
      obtain ⟨it1, it2⟩ := itr ρ2 H2 m2 l2 rm2 ds hG
      by_cases hlt : i < ds.length
      · have hd : ds[i]? = some ds[i] := List.getElem?_eq_getElem hlt
        obtain ⟨go, yl⟩ := it1 i _ hd
        refine .inr ⟨go, fun H' => ∃ ρ' m', RM K ρ' H' m' ∧ Le ρ1.length ρ1 H1 ρ' H' ∧ ρ'[ρ1.length]? = some (some L) ∧
          GPost K W (RV K) ρ1 σ H1 ((lcV n0 ds ga ft fe m1.length (ds.drop (i + 1)) (wipeD loc vs) m').bind fun _ m' => lcFin o m1.length m') Q ∧ RL K ρ' H' loc σ,
          fun H' ⟨ρ', m', a1, a2, a3, a4, a5⟩ => ⟨ds.length - (i + 1), by omega, ρ', m', a1, a2, a3, rfl, hlt, a4, a5⟩, fun x H3 hy => ?_⟩
        obtain ⟨l3, rm3, rv3⟩ := yl x H3 hy
        rw [List.drop_eq_getElem_cons hlt] at h2
        unfold lcV at h2
        rw [if_pos hG] at h2
        cases e1 : ga ds[i] (wipeD loc vs) with
        | none => simp only [lcStep, e1, R.bind] at h2; exact h2.elim
        | some lx =>
          have rlw : RL K ρ2 H3 (wipeD loc vs) (wipe σ vs) := wipe_rel (rl2.mono l3) _
          refine ⟨ρ2, _, lx, m2, ds[i], rm3, rlw, rv3, e1, fun σ4 rl4 n4 k4 => ⟨wipe_eq (by rw [n4, wipe_length]) k4 hts, ?_⟩⟩
          · have l23 : Le ρ1.length ρ1 H1 ρ2 H3 := l2.trans (l3.less l2.len)
            cases e2 : ft lx m2 with
            | err _ _ => simp only [lcStep, e1, e2, R.bind] at h2; exact h2.elim
            | bad => simp only [lcStep, e1, e2, R.bind] at h2; exact h2.elim
            | ok b m3 =>
              refine ⟨ρ2, lx, m2, rm3, rl4, ?_⟩
              rw [e2]
              intro ρ5 H5 b' l5 rm5 eb
              subst eb
              have hb5 : ρ5[ρ1.length]? = some (some L) := by rw [l5.pre _ (List.getElem?_eq_some_iff.mp hb2).1]; exact hb2
              have l25 : Le ρ1.length ρ1 H1 ρ5 H5 := l23.trans (l5.less l2.len)
              have rl5 : RL K ρ5 H5 loc σ := (rl2.mono l3).mono l5
              cases b with
              | false =>
                simp only [lcStep, e1, e2, R.bind] at h2
                exact ⟨ρ5, m3, rm5, l25, hb5, h2, rl5⟩
              | true =>
                cases e3 : fe lx m3 with
                | err _ _ => simp only [lcStep, e1, e2, e3, R.bind] at h2; exact h2.elim
                | bad => simp only [lcStep, e1, e2, e3, R.bind] at h2; exact h2.elim
                | ok y m4 =>
                  simp only [lcStep, e1, e2, e3] at h2
                  refine ⟨ρ5, lx, m3, rm5, rl4.mono l5, ?_⟩
                  rw [e3]
                  intro ρ6 H6 v l6 rm6 rv6
                  have hb6 : ρ6[ρ1.length]? = some (some L) := by rw [l6.pre _ (List.getElem?_eq_some_iff.mp hb5).1]; exact hb5
                  have l26 : Le ρ1.length ρ1 H1 ρ6 H6 := l25.trans (l6.less l25.len)
                  cases e4 : m4[m1.length]? with
                  | none => simp only [e4, R.bind] at h2; exact h2.elim
                  | some ob =>
                    cases ob with
                    | lst acc =>
                      simp only [e4] at h2
                      by_cases hz : acc.length < sizeLine
                      · rw [if_pos hz] at h2
                        rw [hN] at e4
                        obtain ⟨us, g1, g2⟩ := rm6.lstAt hb6 e4
                        obtain ⟨l7, rm7⟩ := rm6.lstSet hb6 (g2.append (RVs.one rv6))
                        refine ⟨us, g1, by rw [← g2.length]; exact hz, ρ6, _, rm7, l26.trans (l7.less l26.len), hb6, ?_, (rl5.mono l6).mono l7⟩
                        rw [← hN]
                        exact h2
                      · rw [if_neg hz] at h2; exact h2.elim
                    | _ => simp only [e4, R.bind] at h2; exact h2.elim
      · have e : i = ds.length := by omega
        subst e
        refine .inl ⟨it2 _ (Nat.le_refl _), ?_⟩
        rw [List.drop_length] at h2
        unfold lcV at h2
        rw [if_pos hG] at h2
        simp only [R.bind] at h2
        unfold lcFin at h2
        split at h2
        · exact h2 ρ2 H2 (.ref L) l2 rm2 (.obj (by rw [hN]; exact hb2))
        · split at h2
          · rename_i ys e4
            split at h2
            · rename_i b
              simp only [Bool.and_eq_true, decide_eq_true_eq] at b
              obtain ⟨⟨b1, b2⟩, b3⟩ := b
              rw [hN] at e4 b2 b3 h2
              obtain ⟨us, g1, g2⟩ := rm2.lstAt hb2 e4
              have nL : some L ∉ ρ2.take ρ1.length := fun z => by
                obtain ⟨j, hj⟩ := List.getElem?_of_mem z
                have hj2 : j < ρ1.length := by
                  have q := (List.getElem?_eq_some_iff.mp hj).1
                  rw [List.length_take] at q
                  omega
                rw [List.getElem?_take_of_lt hj2] at hj
                have := rm2.inj _ _ _ hj hb2
                omega
              exact h2 _ H2 (.ref L) (l2.cut rfl) (rm2.cut b3) (.lst g1 nL (g2.cut b2))
            · exact h2 ρ2 H2 (.ref L) l2 rm2 (.obj (by rw [hN]; exact hb2))
          · exact h2.elim
    | _ => exact h1.elim
  | st ds =>
  intro L hL
  have hN : m1.length = ρ1.length := rm1.len.symm
  have l2 : Le ρ1.length ρ1 H1 (ρ1 ++ [some L]) (upd H1 L (.lst [])) := Le.push rm1 hL (Nat.le_refl _)
  have rm2 : RM K (ρ1 ++ [some L]) (upd H1 L (.lst [])) (m1 ++ [.lst []]) := rm1.push hL ⟨[], upd_same, .nil⟩
  have hb2 : (ρ1 ++ [some L])[ρ1.length]? = some (some L) := by simp
  refine ⟨fun i mm H2 => ∃ ρ2 m2, RM K ρ2 H2 m2 ∧ Le ρ1.length ρ1 H1 ρ2 H2 ∧ ρ2[ρ1.length]? = some (some L) ∧ mm = ds.length - i ∧ i ≤ ds.length ∧
      GPost K W (RV K) ρ1 σ H1 ((lcD ga ft fe m1.length (ds.drop i) (wipeD loc vs) m2).bind fun _ m' => lcFin o m1.length m') Q ∧ RL K ρ2 H2 loc σ,
    ⟨ds.length, _, _, rm2, l2, hb2, by simp, Nat.zero_le _, h1, rl1.mono l2⟩, ?_⟩
  rintro i mm H2 ⟨ρ2, m2, rm2, l2, hb2, rfl, hi, h2, rl2⟩
  obtain ⟨it1, it2⟩ := itr ρ2 H2 m2 l2 rm2
  by_cases hlt : i < ds.length
  · have hd : ds[i]? = some ds[i] := List.getElem?_eq_getElem hlt
    obtain ⟨go, yl⟩ := it1 i _ hd
    refine .inr ⟨go, fun H' => ∃ ρ' m', RM K ρ' H' m' ∧ Le ρ1.length ρ1 H1 ρ' H' ∧ ρ'[ρ1.length]? = some (some L) ∧
      GPost K W (RV K) ρ1 σ H1 ((lcD ga ft fe m1.length (ds.drop (i + 1)) (wipeD loc vs) m').bind fun _ m' => lcFin o m1.length m') Q ∧ RL K ρ' H' loc σ,
      fun H' ⟨ρ', m', a1, a2, a3, a4, a5⟩ => ⟨ds.length - (i + 1), by omega, ρ', m', a1, a2, a3, rfl, hlt, a4, a5⟩, fun x H3 hy => ?_⟩
    obtain ⟨l3, rm3, rv3⟩ := yl x H3 hy
    rw [List.drop_eq_getElem_cons hlt] at h2
    unfold lcD at h2
    cases e1 : ga ds[i] (wipeD loc vs) with
    | none => simp only [lcStep, e1, R.bind] at h2; exact h2.elim
    | some lx =>
      have rlw : RL K ρ2 H3 (wipeD loc vs) (wipe σ vs) := wipe_rel (rl2.mono l3) _
      refine ⟨ρ2, _, lx, m2, ds[i], rm3, rlw, rv3, e1, fun σ4 rl4 n4 k4 => ⟨wipe_eq (by rw [n4, wipe_length]) k4 hts, ?_⟩⟩
      · have l23 : Le ρ1.length ρ1 H1 ρ2 H3 := l2.trans (l3.less l2.len)
        cases e2 : ft lx m2 with
        | err _ _ => simp only [lcStep, e1, e2, R.bind] at h2; exact h2.elim
        | bad => simp only [lcStep, e1, e2, R.bind] at h2; exact h2.elim
        | ok b m3 =>
          refine ⟨ρ2, lx, m2, rm3, rl4, ?_⟩
          rw [e2]
          intro ρ5 H5 b' l5 rm5 eb
          subst eb
          have hb5 : ρ5[ρ1.length]? = some (some L) := by rw [l5.pre _ (List.getElem?_eq_some_iff.mp hb2).1]; exact hb2
          have l25 : Le ρ1.length ρ1 H1 ρ5 H5 := l23.trans (l5.less l2.len)
          have rl5 : RL K ρ5 H5 loc σ := (rl2.mono l3).mono l5
          cases b with
          | false =>
            simp only [lcStep, e1, e2, R.bind] at h2
            exact ⟨ρ5, m3, rm5, l25, hb5, h2, rl5⟩
          | true =>
            cases e3 : fe lx m3 with
            | err _ _ => simp only [lcStep, e1, e2, e3, R.bind] at h2; exact h2.elim
            | bad => simp only [lcStep, e1, e2, e3, R.bind] at h2; exact h2.elim
            | ok y m4 =>
              simp only [lcStep, e1, e2, e3] at h2
              refine ⟨ρ5, lx, m3, rm5, rl4.mono l5, ?_⟩
              rw [e3]
              intro ρ6 H6 v l6 rm6 rv6
              have hb6 : ρ6[ρ1.length]? = some (some L) := by rw [l6.pre _ (List.getElem?_eq_some_iff.mp hb5).1]; exact hb5
              have l26 : Le ρ1.length ρ1 H1 ρ6 H6 := l25.trans (l6.less l25.len)
              cases e4 : m4[m1.length]? with
              | none => simp only [e4, R.bind] at h2; exact h2.elim
              | some ob =>
                cases ob with
                | lst acc =>
                  simp only [e4] at h2
                  by_cases hz : acc.length < sizeLine
                  · rw [if_pos hz] at h2
                    rw [hN] at e4
                    obtain ⟨us, g1, g2⟩ := rm6.lstAt hb6 e4
                    obtain ⟨l7, rm7⟩ := rm6.lstSet hb6 (g2.append (RVs.one rv6))
                    refine ⟨us, g1, by rw [← g2.length]; exact hz, ρ6, _, rm7, l26.trans (l7.less l26.len), hb6, ?_, (rl5.mono l6).mono l7⟩
                    rw [← hN]
                    exact h2
                  · rw [if_neg hz] at h2; exact h2.elim
                | _ => simp only [e4, R.bind] at h2; exact h2.elim
  · have e : i = ds.length := by omega
    subst e
    refine .inl ⟨it2 _ (Nat.le_refl _), ?_⟩
    rw [List.drop_length] at h2
    simp only [lcD, R.bind] at h2
    unfold lcFin at h2
    split at h2
    · exact h2 ρ2 H2 (.ref L) l2 rm2 (.obj (by rw [hN]; exact hb2))
    · split at h2
      · rename_i ys e4
        split at h2
        · rename_i b
          simp only [Bool.and_eq_true, decide_eq_true_eq] at b
          obtain ⟨⟨b1, b2⟩, b3⟩ := b
          rw [hN] at e4 b2 b3 h2
          obtain ⟨us, g1, g2⟩ := rm2.lstAt hb2 e4
          have nL : some L ∉ ρ2.take ρ1.length := fun z => by
            obtain ⟨j, hj⟩ := List.getElem?_of_mem z
            have hj2 : j < ρ1.length := by
              have q := (List.getElem?_eq_some_iff.mp hj).1
              rw [List.length_take] at q
              omega
            rw [List.getElem?_take_of_lt hj2] at hj
            have := rm2.inj _ _ _ hj hb2
            omega
          exact h2 _ H2 (.ref L) (l2.cut rfl) (rm2.cut b3) (.lst g1 nL (g2.cut b2))
        · exact h2 ρ2 H2 (.ref L) l2 rm2 (.obj (by rw [hN]; exact hb2))
      · exact h2.elim

theorem de_lc (o : Bool) (C : Ctx X W k) (hi : DI X W tg iter fi) (ok : BlkOk X.N X.env.scope scope own)
    (hg : ∀ (s : Shared) (H : Hp) (Cc : Addr) (cl : List (Str × Addr)) (fp : List Addr), Ctx (X.blk s H scope (compEnvC scope cl Cc X.env) fp) (fun _ _ _ _ => False) k → DG (X.blk s H scope (compEnvC scope cl Cc X.env) fp) tg ga ts)
    (ht : ∀ (s : Shared) (H : Hp) (Cc : Addr) (cl : List (Str × Addr)) (fp : List Addr), Ctx (X.blk s H scope (compEnvC scope cl Cc X.env) fp) (fun _ _ _ _ => False) k → DTs (X.blk s H scope (compEnvC scope cl Cc X.env) fp) (fun _ _ _ _ => False) ifs ft)
    (he : ∀ (s : Shared) (H : Hp) (Cc : Addr) (cl : List (Str × Addr)) (fp : List Addr), Ctx (X.blk s H scope (compEnvC scope cl Cc X.env) fp) (fun _ _ _ _ => False) k → DE (X.blk s H scope (compEnvC scope cl Cc X.env) fp) (fun _ _ _ _ => False) elt fe)
    (hts : ∀ i ∈ ts, i ∈ own.map (·.2) := by decide) (hs : ∀ x, foldedSetIterable iter X.env x = pure x := by intro _; rfl) :
    DE X W (.ListComp elt [⟨tg, iter, ifs, 0⟩] scope pos) (eLc o fi ga ft fe (own.map (·.2))) := by
  obtain ⟨wi, pi, si⟩ := hi
  exact ⟨_, pe_lc (g := canG X.K ga ts) (tt := canR X.K (fun _ _ _ _ => False) RB ft) (te := canR X.K (fun _ _ _ _ => False) (RV X.K) fe) C.calm C.nd pi ok (fun s H Cc cl fp => (hg s H Cc cl fp C.blk).can) (fun s H Cc cl fp => ht s H Cc cl fp C.blk) (fun s H Cc cl fp => (he s H Cc cl fp C.blk).can) hs, lc_sem o si hts⟩
theorem ds_setLc (o : Bool) (i : Nat) {y : Str} {py spos : Pos} (C : Ctx X W k) (hy : X.N[i]? = some y) (hyl : X.env.scope.names.lookup y = some .local) (hi : DI X W tg iter fi) (ok : BlkOk X.N X.env.scope scope own)
    (hg : ∀ (s : Shared) (H : Hp) (Cc : Addr) (cl : List (Str × Addr)) (fp : List Addr), Ctx (X.blk s H scope (compEnvC scope cl Cc X.env) fp) (fun _ _ _ _ => False) k → DG (X.blk s H scope (compEnvC scope cl Cc X.env) fp) tg ga ts)
    (ht : ∀ (s : Shared) (H : Hp) (Cc : Addr) (cl : List (Str × Addr)) (fp : List Addr), Ctx (X.blk s H scope (compEnvC scope cl Cc X.env) fp) (fun _ _ _ _ => False) k → DTs (X.blk s H scope (compEnvC scope cl Cc X.env) fp) (fun _ _ _ _ => False) ifs ft)
    (he : ∀ (s : Shared) (H : Hp) (Cc : Addr) (cl : List (Str × Addr)) (fp : List Addr), Ctx (X.blk s H scope (compEnvC scope cl Cc X.env) fp) (fun _ _ _ _ => False) k → DE (X.blk s H scope (compEnvC scope cl Cc X.env) fp) (fun _ _ _ _ => False) elt fe)
    (hsw : swapsWith (.ListComp elt [⟨tg, iter, ifs, 0⟩] scope pos) (some (.Name y py)) spos.line X.env = pure true)
    (hts : ∀ i ∈ ts, i ∈ own.map (·.2) := by decide) (hs : ∀ x, foldedSetIterable iter X.env x = pure x := by intro _; rfl) :
    DS X W (.Assign [.Name y py] (.ListComp elt [⟨tg, iter, ifs, 0⟩] scope pos) spos) (sSet i (eLc o fi ga ft fe (own.map (·.2)))) := by
  obtain ⟨wi, pi, si⟩ := hi
  refine ⟨_, ps_setLc (g := canG X.K ga ts) (tt := canR X.K (fun _ _ _ _ => False) RB ft) (te := canR X.K (fun _ _ _ _ => False) (RV X.K) fe) C.calm C.nd hy hyl hsw pi ok (fun s H Cc cl fp => (hg s H Cc cl fp C.blk).can) (fun s H Cc cl fp => ht s H Cc cl fp C.blk) (fun s H Cc cl fp => (he s H Cc cl fp C.blk).can) hs, fun ρ N loc m σ H Dn hN rm rl h => ?_⟩
  exact (lc_sem o si hts).useS hN rm rl h fun ρ1 m1 H1 d x l1 rm1 rl1 rx hN1 h1 => h1 ρ1 _ H1 Le.refl rm1 (rl1.set rx i)
end

/-! ### freezing: a tracked list, dict or instance that no one changes any more -/
mutual
def D.fz (n : Nat) (z : D) : D → D
  | .obj k => if k = n then z else .obj k
  | .tup xs => .tup (D.fzs n z xs)
  | .lst xs => .lst (D.fzs n z xs)
  | .ro xs => .ro (D.fzs n z xs)
  | .dic ks vs => .dic ks (D.fzs n z vs)
  | .ins C ns vs => .ins C ns (D.fzs n z vs)
  | .exn a d ns vs => .exn a d ns (D.fzs n z vs)
  | .non => .non | .bl b => .bl b | .int i => .int i | .str x => .str x | .cls a => .cls a | .ty t => .ty t
def D.fzs (n : Nat) (z : D) : List D → List D
  | [] => []
  | d :: r => D.fz n z d :: D.fzs n z r
end
mutual
def D.has (n : Nat) : D → Bool
  | .obj k => decide (k = n)
  | .tup xs => D.hass n xs
  | .lst xs => D.hass n xs
  | .ro xs => D.hass n xs
  | .dic _ vs => D.hass n vs
  | .ins _ _ vs => D.hass n vs
  | .exn _ _ _ vs => D.hass n vs
  | .non => false | .bl _ => false | .int _ => false | .str _ => false | .cls _ => false | .ty _ => false
def D.hass (n : Nat) : List D → Bool
  | [] => false
  | d :: r => D.has n d || D.hass n r
end
def DO.fz (n : Nat) (z : D) : DO → DO
  | .lst xs => .lst (D.fzs n z xs)
  | .dic ks vs => .dic ks (D.fzs n z vs)
  | .dicT ks vs => .dicT ks (D.fzs n z vs)
  | .ins C ns vs => .ins C ns (D.fzs n z vs)
  | .dead => .dead
def DO.val : DO → Option (D × List D)
  | .lst xs => some (.lst xs, xs)
  | .dic ks vs => some (.dic ks vs, vs)
  | .ins C ns vs => some (.ins C ns vs, vs)
  | _ => none
section
variable {K : PySem.W.Frag} {W : WX} {ρ : Rho} {m : Mem} {H : Hp} {n : Nat} {b : Addr} {z : D}
theorem mem_setN {a : Addr} (h : some a ∈ ρ.set n none) : some a ∈ ρ := by
  rcases List.mem_or_eq_of_mem_set h with q | q
  · exact q
  · cases q
mutual
theorem RV.fz (hz : RV K (ρ.set n none) H z (.ref b)) (hb : ρ[n]? = some (some b)) : ∀ {d : D} {v : V}, RV K ρ H d v → RV K (ρ.set n none) H (D.fz n z d) v
  | _, _, .non => .non
  | _, _, .bl _ => .bl _
  | _, _, .int _ => .int _
  | _, _, .str _ => .str _
  | _, _, .tup f r => .tup (f.elim (fun x => .inl ⟨x.1, fun q => x.2 (mem_setN q)⟩) .inr) (RVs.fz hz hb r)
  | _, _, .lst h nn r => .lst h (fun q => nn (mem_setN q)) (RVs.fz hz hb r)
  | _, _, .ro f r => .ro (f.elim (fun x => .inl ⟨x.1, fun q => x.2 (mem_setN q)⟩) .inr) (RVs.fz hz hb r)
  | _, _, .dic h nn e r => .dic h (fun q => nn (mem_setN q)) e (RVs.fz hz hb r)
  | _, _, .ins h nn e r => .ins h (fun q => nn (mem_setN q)) e (RVs.fz hz hb r)
  | _, _, .exn h nn e r => .exn h (fun q => nn (mem_setN q)) e (RVs.fz hz hb r)
  | _, _, .obj (n := k) (a := a) h => by
    unfold D.fz
    by_cases e : k = n
    · subst e
      rw [if_pos rfl]
      rw [hb] at h
      cases h
      exact hz
    · rw [if_neg e]
      exact .obj (by rw [List.getElem?_set_ne (Ne.symm e)]; exact h)
  | _, _, .cls _ => .cls _
  | _, _, .ty _ => .ty _
theorem RVs.fz (hz : RV K (ρ.set n none) H z (.ref b)) (hb : ρ[n]? = some (some b)) : ∀ {ds : List D} {vs : List V}, RVs K ρ H ds vs → RVs K (ρ.set n none) H (D.fzs n z ds) vs
  | _, _, .nil => .nil
  | _, _, .cons r t => .cons (RV.fz hz hb r) (RVs.fz hz hb t)
end
mutual
theorem RV.drop' : ∀ {d : D} {v : V}, RV K ρ H d v → D.has n d = false → RV K (ρ.set n none) H d v
  | _, _, .non, _ => .non
  | _, _, .bl _, _ => .bl _
  | _, _, .int _, _ => .int _
  | _, _, .str _, _ => .str _
  | _, _, .tup f r, h => .tup (f.elim (fun x => .inl ⟨x.1, fun q => x.2 (mem_setN q)⟩) .inr) (RVs.drop' r (by simpa [D.has] using h))
  | _, _, .lst e nn r, h => .lst e (fun q => nn (mem_setN q)) (RVs.drop' r (by simpa [D.has] using h))
  | _, _, .ro f r, h => .ro (f.elim (fun x => .inl ⟨x.1, fun q => x.2 (mem_setN q)⟩) .inr) (RVs.drop' r (by simpa [D.has] using h))
  | _, _, .dic e nn e2 r, h => .dic e (fun q => nn (mem_setN q)) e2 (RVs.drop' r (by simpa [D.has] using h))
  | _, _, .ins e nn e2 r, h => .ins e (fun q => nn (mem_setN q)) e2 (RVs.drop' r (by simpa [D.has] using h))
  | _, _, .exn e nn e2 r, h => .exn e (fun q => nn (mem_setN q)) e2 (RVs.drop' r (by simpa [D.has] using h))
  | _, _, .obj (n := k) e, h => .obj (by
      have hk : k ≠ n := by simpa [D.has] using h
      rw [List.getElem?_set_ne (Ne.symm hk)]; exact e)
  | _, _, .cls _, _ => .cls _
  | _, _, .ty _, _ => .ty _
theorem RVs.drop' : ∀ {ds : List D} {vs : List V}, RVs K ρ H ds vs → D.hass n ds = false → RVs K (ρ.set n none) H ds vs
  | _, _, .nil, _ => .nil
  | _, _, .cons (d := d) (ds := ds) r t, h => by
    have hb : D.has n d = false ∧ D.hass n ds = false := by simpa [D.hass] using h
    exact .cons (RV.drop' r hb.1) (RVs.drop' t hb.2)
end
theorem RM.fz (rm : RM K ρ H m) (hz : RV K (ρ.set n none) H z (.ref b)) (hb : ρ[n]? = some (some b)) : RM K (ρ.set n none) H ((m.map (DO.fz n z)).set n .dead) := by
  have low : ∀ {k : Nat} {a : Addr}, (ρ.set n none)[k]? = some (some a) → k ≠ n ∧ ρ[k]? = some (some a) := fun {k a} h => by
    by_cases e : k = n
    · subst e
      rw [List.getElem?_set_self (List.getElem?_eq_some_iff.mp hb).1] at h
      cases h
    · rw [List.getElem?_set_ne (Ne.symm e)] at h
      exact ⟨e, h⟩
  refine ⟨by simp [rm.len], fun k a h => ?_, fun k k' a h h' => rm.inj k k' a (low h).2 (low h').2⟩
  obtain ⟨hk, h1⟩ := low h
  obtain ⟨o, ho, q⟩ := rm.at_ k a h1
  refine ⟨DO.fz n z o, by rw [List.getElem?_set_ne (Ne.symm hk), List.getElem?_map, ho]; rfl, ?_⟩
  cases o with
  | lst ds => obtain ⟨xs, h2, h3⟩ := q; exact ⟨xs, h2, h3.fz hz hb⟩
  | dic ks ds => obtain ⟨kvs, h2, h3, h4⟩ := q; exact ⟨kvs, h2, h3, h4.fz hz hb⟩
  | dicT ks ds => obtain ⟨kvs, h2, h3, h4⟩ := q; exact ⟨kvs, h2, h3, h4.fz hz hb⟩
  | ins C ns ds => obtain ⟨dx, fs, h2, h3, h4⟩ := q; exact ⟨dx, fs, h2, h3, h4.fz hz hb⟩
  | dead => exact q.elim
end
/-- the object in slot i is frozen, then f -/
def sFz (i : Nat) (f : SX) : SX := fun N loc m => match loc[i]? with
  | some (some (.obj n)) => if N ≤ n then (match m[n]? with
    | some o => (match o.val with
      | some (z, vs) => if D.hass n vs = false then f N (loc.map (Option.map (D.fz n z))) ((m.map (DO.fz n z)).set n .dead) else .bad
      | none => .bad)
    | none => .bad) else .bad
  | some (some _) => f N loc m
  | _ => .bad
theorem dss_fz {X : Cx} {W : WX} {sts : List Stmt} {f : SX} (i : Nat) (h : DSs X W sts f) : DSs X W sts (sFz i f) := by
  obtain ⟨t, p, s⟩ := h
  refine ⟨t, p, fun ρ N loc m σ H Dn hN rm rl h => ?_⟩
  unfold sFz at h
  split at h
  · rename_i n e
    obtain ⟨v, hv, rv⟩ := rl.2 i _ e
    cases rv with
    | @obj _ b hb =>
      split at h
      · rename_i hNn
        obtain ⟨o, ho, q⟩ := rm.at_ n b hb
        rw [ho] at h
        dsimp only at h
        split at h
        · rename_i z vs ez
          split at h
          · rename_i hn
            have nb : some b ∉ ρ.set n none := fun w => by
              obtain ⟨k, hk⟩ := List.getElem?_of_mem w
              by_cases e : k = n
              · subst e
                rw [List.getElem?_set_self (List.getElem?_eq_some_iff.mp hb).1] at hk
                cases hk
              · rw [List.getElem?_set_ne (Ne.symm e)] at hk
                exact e (rm.inj _ _ _ hk hb)
            have hz : RV X.K (ρ.set n none) H z (.ref b) := by
              cases o with
              | lst ds => cases ez; obtain ⟨xs, h2, h3⟩ := q; exact .lst h2 nb (h3.drop' hn)
              | dic ks ds => cases ez; obtain ⟨kvs, h2, h3, h4⟩ := q; exact .dic h2 nb h3 (h4.drop' hn)
              | ins C ns ds => cases ez; obtain ⟨dx, fs, h2, h3, h4⟩ := q; exact .ins h2 nb h3 (h4.drop' hn)
              | dicT _ _ => cases ez
              | dead => cases ez
            have l : Le N ρ H (ρ.set n none) H := ⟨by simp, fun k hk => List.getElem?_set_ne (by omega), fun a ha => .inl (mem_setN ha), fun _ _ h _ => h⟩
            refine s (ρ.set n none) N _ _ σ H Dn (by simpa using hN) (rm.fz hz hb) ⟨by simp [rl.1], fun j d hj => ?_⟩ (SPost.later l h)
            rw [List.getElem?_map, Option.map_eq_some_iff] at hj
            obtain ⟨od, hj1, hj2⟩ := hj
            cases od with
            | none => cases hj2
            | some d' =>
              cases hj2
              obtain ⟨u, g1, g2⟩ := rl.2 j d' hj1
              exact ⟨u, g1, RV.fz hz hb g2⟩
          · exact h.elim
        · exact h.elim
      · exact h.elim
  · exact s ρ N loc m σ H Dn hN rm rl h
  · exact h.elim

/-! ### raise -/
def DMk (X : Cx) (W : WX) (e : Expr) (f : Loc → Mem → R Ex) : Prop := ∃ t : L2.St → Hp → XK → Prop, PMk X e t ∧ ∀ (ρ : Rho) (loc : Loc) (m : Mem) (σ : St) (H : Hp) (Q : XK), RM X.K ρ H m → RL X.K ρ H loc σ →
  (match f loc m with
    | .ok ex m' => ∀ ρ' H' cls dd, Le ρ.length ρ H ρ' H' → RM X.K ρ' H' m' → ERel X.K ρ' H' ex cls dd → Q cls dd H'
    | .err ex m' => ∀ ρ' H' cls dd, Le ρ.length ρ H ρ' H' → RM X.K ρ' H' m' → ERel X.K ρ' H' ex cls dd → W cls dd σ H'
    | .bad => False) → t σ H Q
def sRaise (f : Loc → Mem → R Ex) : SX := fun _ loc m => ofR (f loc m) loc fun ex m' => .err ex loc m'
section
variable {X : Cx} {W : WX} {e : Expr} {pos : Pos} {k : Nat}
theorem ds_raise {f : Loc → Mem → R Ex} (C : Ctx X W k) (he : DMk X W e f) : DS X W (.Raise (some e) none pos) (sRaise f) := by
  obtain ⟨t, p, s⟩ := he
  refine ⟨_, ps_raise C.calm C.tk p, fun ρ N loc m σ H Dn hN rm rl h => s ρ loc m σ H _ rm rl ?_⟩
  unfold sRaise ofR at h
  cases q : f loc m with
  | ok ex m' => rw [q] at h; exact fun ρ' H' cls dd l rm' re => h ρ' σ H' cls dd (l.less hN) rm' (rl.mono l) re
  | err ex m' => rw [q] at h; exact fun ρ' H' cls dd l rm' re => h ρ' σ H' cls dd (l.less hN) rm' (rl.mono l) re
  | bad => rw [q] at h; exact h
/-- an own exception class without own __init__ -/
structure ExcT (K : PySem.W.Frag) (mg : Str → Option Value) (x : Str) (C : Addr) : Prop where
  ex : PySem.W.excIn K C [.type "ValueError", .type "Exception", .type "BaseException", .type "object"] "ValueError.__new__" = true
  g : mg x = some (.ref C)
  kp : PySem.W.keepIn K (.ref C) = true
  sb : PySem.W.subIn K (.ref C) (.type "BaseException") = some true
  ty : PySem.W.typeIn K (.ref C) = some (.type "type")
theorem dmk_text {x m : Str} {C : Addr} {j : Nat} {p p2 : Pos} (T : ExcT X.K X.mg x C) (hg : Gl X x) (hdb : (x == ("__debug__" : Str)) = false := by decide) :
    DMk X W (.Call (.Name x p) [.Constant (.str m) j p2] [] pos) (fun _ m => .ok ⟨.ref C, none⟩ m) :=
  ⟨_, pmk_own PySem.F.excBase_ValueError T.ex T.g T.kp (raises_own T.sb T.ty) hg hdb, fun ρ loc m σ H Q rm rl h => h ρ H _ none Le.refl rm ⟨rfl, rfl⟩⟩
end

/-! ### try: body, except c as n: suite -/
def canS (K : PySem.W.Frag) (W : WX) (f : SX) : TS := fun Dn σ H => ∃ ρ N loc m, N ≤ ρ.length ∧ RM K ρ H m ∧ RL K ρ H loc σ ∧ SPost K W N ρ H (f N loc m) Dn
theorem DSs.can {X : Cx} {W : WX} {sts : List Stmt} {f : SX} (h : DSs X W sts f) : PSs X sts (canS X.K W f) := by
  obtain ⟨t, p, s⟩ := h
  exact ⟨fun pins st σ H Dn I ⟨ρ, N, loc, m, hN, rm, rl, q⟩ => p.run pins st σ H Dn I (s ρ N loc m σ H Dn hN rm rl q)⟩
/-- the caught exception as a datum -/
def exnV (a : Addr) (d : Option Addr) (ex : Ex) : D := match ex.fs, d with
  | some (ns, vs), some d => .exn a d ns vs
  | _, _ => .cls a
def SR.unset (i : Nat) : SR → SR
  | .nx loc m => .nx (loc.set i none) m
  | .brk loc m => .brk (loc.set i none) m
  | .ct loc m => .ct (loc.set i none) m
  | .ret d m => .ret d m
  | _ => .bad
def sTry (i : Nat) (exm : Value → Option Bool) (fb : SX) (fs : Ex → SX) : SX := fun N loc m => match fb N loc m with
  | .err ex l m' => if i < l.length then (match exm ex.cls with
    | some true => fs ex N l m'
    | some false => .err ex l m'
    | none => .bad) else .bad
  | r => r
theorem ds_try {X : Cx} {W : WX} {k : Nat} {x n : Str} {c : Value} {i : Nat} {body suite : List Stmt} {b₀ : Stmt} {np pos pos' : Pos} {fb : SX} {fs : Ex → SX} {exm : Value → Option Bool} (fsA : Addr → Option Addr → Ex → SX) (C : Ctx X W k)
    (hs : X.stack = X.env :: X.outer) (hf : X.env.frame = some X.env.locals) (hi : X.N[i]? = some n) (hln : X.env.kindOf n = some .local) (hc : Names X x c) (hex : ∀ v b, exm v = some b → PySem.W.exmOne X.K v c = some b)
    (hb : ∀ (W' : WX) (pn : List (Addr × Obj)) (xe : Value → Shared → Prop), Ctx (X.tr pn xe) W' k → DSs (X.tr pn xe) W' body fb)
    (hsu : ∀ (a : Addr) (oe : Obj) (ex : Ex) (cls : Value) (d : Option Addr) (pn : List (Addr × Obj)), ex.cls = cls → (ex.fs = none → d = none) → Zc cls d oe → (∃ vs, oe.data = .fields vs) → DSs (X.suite a ((a, oe) :: pn)) (fun _ _ _ _ => False) (b₀ :: suite) (fsA a d ex))
    (hind : ∀ a d ex N loc m, i < loc.length → SR.unset i (fsA a d ex N (loc.set i (some (exnV a d ex))) m) = fs ex N loc m) :
    DS X W (.Try body [.ExceptHandler (some (.Name x np)) (some n) (b₀ :: suite) pos'] [] [] pos) (sTry i exm fb fs) := by
  have pt := ps_try_as (pos := pos) (pos' := pos') (np := np) (tb := fun W' => canS X.K W' fb)
    (ts := fun a cls d Dn σ H => ∃ ex : Ex, ex.cls = cls ∧ (ex.fs = none → d = none) ∧ canS X.K (fun _ _ _ _ => False) (fsA a d ex) Dn σ H) hs hf C.nd hi hln hc C.tk
    (fun W' pn xe tk hp => (hb W' pn xe ⟨tk, hp, C.calm, C.nd, C.room⟩).can)
    (fun a oe cls d pn hz hd => ⟨fun pins st σ H Dn I ⟨ex, e1, e2, q⟩ => (hsu a oe ex cls d pn e1 e2 hz hd).can.run pins st σ H Dn I q⟩)
  refine ⟨_, pt, fun ρ N loc m σ H Dn hN rm rl h => ⟨ρ, N, loc, m, hN, rm, rl, ?_⟩⟩
  unfold sTry at h
  cases q : fb N loc m with
  | nx l m' => rw [q] at h; exact h
  | ret d m' => rw [q] at h; exact h
  | brk l m' => rw [q] at h; exact h
  | ct l m' => rw [q] at h; exact h
  | bad => rw [q] at h; exact h
  | err ex l m' =>
    rw [q] at h
    dsimp only at h
    intro ρ' σ' H' cls dd le rm' rl' re
    have ec : ex.cls = cls := re.1
    by_cases hil : i < l.length
    case neg => rw [if_neg hil] at h; exact h.elim
    rw [if_pos hil] at h
    cases e : exm ex.cls with
    | none => rw [e] at h; exact h.elim
    | some b =>
      refine ⟨b, by rw [← ec]; exact hex _ _ e, fun hbt a ha => ?_, fun hbf => ?_⟩
      · subst hbt
        rw [e] at h
        dsimp only at h
        have hN' : N ≤ ρ'.length := Nat.le_trans hN le.len
        have rve : RV X.K ρ' H' (exnV a dd ex) (.ref a) := by
          obtain ⟨_, r2⟩ := re
          unfold exnV
          cases efs : ex.fs with
          | none => exact .cls a
          | some p =>
            obtain ⟨ns, vs⟩ := p
            rw [efs] at r2
            obtain ⟨d, fs, h3, h4, h5, h6, h7⟩ := r2
            subst h3
            exact .exn h4 h5 h6 h7
        refine ⟨ex, ec, fun efs => by have r2 := re.2; rw [efs] at r2; exact r2, ρ', N, l.set i (some (exnV a dd ex)), m', hN', rm', rl'.set rve i, ?_⟩
        have hh := hind a dd ex N l m' hil
        rw [← hh] at h
        have h := SPost.later le h
        cases g : fsA a dd ex N (l.set i (some (exnV a dd ex))) m' with
        | nx l2 m2 => rw [g] at h; exact fun ρ2 σ2 H2 l' rm2 rl2 => h ρ2 _ H2 l' rm2 (rl2.forget i none)
        | brk l2 m2 => rw [g] at h; exact fun ρ2 σ2 H2 l' rm2 rl2 => h ρ2 _ H2 l' rm2 (rl2.forget i none)
        | ct l2 m2 => rw [g] at h; exact fun ρ2 σ2 H2 l' rm2 rl2 => h ρ2 _ H2 l' rm2 (rl2.forget i none)
        | ret d2 m2 => rw [g] at h; exact h
        | err e2 l2 m2 => rw [g] at h; exact h.elim
        | bad => rw [g] at h; exact h.elim
      · subst hbf
        rw [e] at h
        exact h ρ' σ' H' cls dd le rm' rl' re
end DL

/-! DBuilt: built-in functions and classes, methods of lists, own operators. -/
namespace DL
open PySem PySem.Spec PyProof.Rows L2

section
variable {X : Cx} {W : WX} {x : Str} {p pos apos : Pos} {e o : Expr} {es : List Expr} {fs : EL} {fo : EX} {id T : String} {r : List V → Hp → VK → Prop} {g : List D → Mem → R D} {k : Nat}
theorem semCall {K : PySem.W.Frag} {t : TA} (sa : SemJ K W (RVs K) t fs) (ho : OC K W r g) : SemJ K W (RV K) (tCB r t) (eCall g fs) := by
  intro ρ loc m σ H Q rm rl h
  refine sa.use rm rl h fun ρ1 m1 H1 ds xs l1 rm1 rl1 rx h1 => ?_
  exact ho ρ1 m1 σ H1 Q ds xs rm1 rx h1
theorem de_callB (hr : CallR X (.builtin id) r) (ho : OC X.K W r g) (hg : Gl X x) (hm : X.mg x = none) (hv : bootBuiltins x = some (.builtin id)) (ha : DA X W (e :: es) fs) (hn : x ≠ "__name__" := by decide) (hdb : (x == ("__debug__" : Str)) = false := by decide)
    (he : starEach (e :: es) X.env = (false, eval e X.env) :: starEach es X.env := by rfl) (hpl : (backTo pos (starEach es X.env)).any (·.1) = false := by rfl) : DE X W (.Call (.Name x p) (e :: es) [] pos) (eCall g fs) := by
  obtain ⟨t, pa, sa⟩ := ha
  exact ⟨_, pe_callB hr hg hm hv pa hn hdb he hpl, semCall sa ho⟩
theorem de_callTy (hr : CallR X (.type T) r) (ho : OC X.K W r g) (hg : Gl X x) (hm : X.mg x = none) (hv : bootBuiltins x = some (.type T)) (ha : DA X W (e :: es) fs) (hn : x ≠ "__name__" := by decide) (hdb : (x == ("__debug__" : Str)) = false := by decide)
    (he : starEach (e :: es) X.env = (false, eval e X.env) :: starEach es X.env := by rfl) (hpl : (backTo pos (starEach es X.env)).any (·.1) = false := by rfl) : DE X W (.Call (.Name x p) (e :: es) [] pos) (eCall g fs) := by
  obtain ⟨t, pa, sa⟩ := ha
  exact ⟨_, pe_callTy hr hg hm hv pa hn hdb he hpl, semCall sa ho⟩
/-- a built-in function that the module has imported -/
theorem de_callG (hr : CallR X (.builtin id) r) (ho : OC X.K W r g) (hg : Gl X x) (hm : X.mg x = some (.builtin id)) (ha : DA X W (e :: es) fs) (hdb : (x == ("__debug__" : Str)) = false := by decide)
    (he : starEach (e :: es) X.env = (false, eval e X.env) :: starEach es X.env := by rfl) (hpl : (backTo pos (starEach es X.env)).any (·.1) = false := by rfl) : DE X W (.Call (.Name x p) (e :: es) [] pos) (eCall g fs) := by
  obtain ⟨t, pa, sa⟩ := ha
  refine ⟨tCB r t, ⟨fun pins s σ H Q I h => ?_⟩, semCall sa ho⟩
  refine wpAny_Call_Name_kw (ld_glob I hg hm ?_ hdb)
  exact PyProof.Rows.callWith_builtin1 (thn (pa.run pos pins s σ H _ I h) fun us s1 ⟨vs, H1, I1, r1, q1⟩ => hr pins s1 σ H1 vs us Q I1 r1 q1) he hpl

/-! ### the operations -/
def lenD (m : Mem) (d : D) : Option Nat := match d with
  | .str y => if y.length ≤ sizeLine then some y.length else none
  | .tup xs => some xs.length
  | d => (rget m d).map List.length
def fLen (ds : List D) (m : Mem) : R D := match ds with
  | [d] => (match lenD m d with
    | some n => .ok (.int n) m
    | none => .bad)
  | _ => .bad
abbrev rLen (K : PySem.W.Frag) : List V → Hp → VK → Prop := fun xs H Q => ∃ x n, xs = [x] ∧ LenV K x H n ∧ Q (.int n) H
theorem OC.len (K : PySem.W.Frag) : OC K W (rLen K) fLen := by
  intro ρ m σ H Q ds xs rm rx h
  unfold fLen at h
  split at h
  · rename_i d
    cases rx with
    | cons r t =>
      cases t
      split at h
      · rename_i n e
        unfold lenD at e
        split at e
        · cases r
          split at e
          · rename_i hl; cases e; exact ⟨_, _, rfl, ⟨hl, rfl⟩, fin rm (.int _) h⟩
          · cases e
        · cases r with
          | tup f r => cases e; exact ⟨_, _, rfl, .inr ⟨_, f.sq, r.length⟩, fin rm (.int _) h⟩
        · rw [Option.map_eq_some_iff] at e
          obtain ⟨us, e1, e2⟩ := e
          obtain ⟨a, ws, ea, h1, h2⟩ := rget_ok rm r e1
          subst ea
          exact ⟨_, _, rfl, .inl ⟨ws, h1, by rw [← e2, h2.length]⟩, fin rm (.int _) h⟩
      · exact h.elim
  · exact h.elim
def fInt (ds : List D) (m : Mem) : R D := match ds with
  | [.int i] => .ok (.int i) m
  | [.bl k] => .ok (.int (if k then 1 else 0)) m
  | _ => .bad
theorem OC.int (K : PySem.W.Frag) : OC K W (fun xs H Q => (∃ i, xs = [V.int i] ∧ Q (.int i) H) ∨ ∃ k, xs = [V.bl k] ∧ Q (.int (if k then 1 else 0)) H) fInt := by
  intro ρ m σ H Q ds xs rm rx h
  unfold fInt at h
  split at h
  · cases rx with
    | cons r t => cases t; cases r; exact .inl ⟨_, rfl, fin rm (.int _) h⟩
  · cases rx with
    | cons r t => cases t; cases r; exact .inr ⟨_, rfl, fin rm (.int _) h⟩
  · exact h.elim
def fAbs (ds : List D) (m : Mem) : R D := match ds with
  | [.int i] => .ok (.int (if i < 0 then -i else i)) m
  | _ => .bad
theorem OC.abs (K : PySem.W.Frag) : OC K W (fun xs H Q => ∃ i, xs = [V.int i] ∧ Q (.int (if i < 0 then -i else i)) H) fAbs := by
  intro ρ m σ H Q ds xs rm rx h
  unfold fAbs at h
  split at h
  · cases rx with
    | cons r t => cases t; cases r; exact ⟨_, rfl, fin rm (.int _) h⟩
  · exact h.elim
/-- two ints -/
def f2 (f : Int → Int → Int) (ds : List D) (m : Mem) : R D := match ds with
  | [.int i, .int j] => .ok (.int (f i j)) m
  | _ => .bad
def fMax2 : List D → Mem → R D := f2 fun i j => if j > i then j else i
def fMin2 : List D → Mem → R D := f2 fun i j => if j < i then j else i
theorem OC.f2 (K : PySem.W.Frag) (f : Int → Int → Int) : OC K W (fun xs H Q => ∃ i j, xs = [V.int i, V.int j] ∧ Q (.int (f i j)) H) (f2 f) := by
  intro ρ m σ H Q ds xs rm rx h
  unfold DL.f2 at h
  split at h
  · cases rx with
    | cons r t =>
      cases t with
      | cons r2 t => cases t; cases r; cases r2; exact ⟨_, _, rfl, fin rm (.int _) h⟩
  · exact h.elim
/-- ints of a list -/
def intsOf (m : Mem) (d : D) : Option (List Int) := (rget m d).bind intsD
theorem intsOf_ok {K : PySem.W.Frag} {ρ : Rho} {m : Mem} {H : Hp} {d : D} {v : V} {ns : List Int} (rm : RM K ρ H m) (r : RV K ρ H d v) (h : intsOf m d = some ns) : ∃ a, v = .ref a ∧ SqL K H a (ns.map V.int) := by
  unfold intsOf at h
  rw [Option.bind_eq_some_iff] at h
  obtain ⟨ds, e1, e2⟩ := h
  obtain ⟨a, xs, ea, h1, h2⟩ := rget_ok rm r e1
  have e := ints_of h2 (intsD_ok e2)
  subst e
  exact ⟨a, ea, h1⟩
def fSum (ds : List D) (m : Mem) : R D := match ds with
  | [d] => (match intsOf m d with
    | some ns => .ok (.int ns.sum) m
    | none => .bad)
  | _ => .bad
theorem OC.sum (K : PySem.W.Frag) : OC K W (rSum K) fSum := by
  intro ρ m σ H Q ds xs rm rx h
  unfold fSum at h
  split at h
  · cases rx with
    | cons r t =>
      cases t
      split at h
      · rename_i ns e
        obtain ⟨a, ea, hs⟩ := intsOf_ok rm r e
        subst ea
        exact ⟨a, ns, rfl, hs, fin rm (.int _) h⟩
      · exact h.elim
  · exact h.elim
def maxI : List Int → Int
  | [] => 0
  | [n] => n
  | n :: r => let y := maxI r; if y > n then y else n
def minI : List Int → Int
  | [] => 0
  | [n] => n
  | n :: r => let y := minI r; if y < n then y else n
theorem maxI_ok : ∀ {ns : List Int}, 0 < ns.length → maxI ns ∈ ns ∧ ∀ y ∈ ns, y ≤ maxI ns
  | [n], _ => by simp [maxI]
  | n :: b :: r, _ => by
    obtain ⟨h1, h2⟩ := maxI_ok (ns := b :: r) (by simp)
    have e : maxI (n :: b :: r) = if maxI (b :: r) > n then maxI (b :: r) else n := rfl
    rw [e]
    split
    · rename_i hc
      exact ⟨List.mem_cons_of_mem _ h1, fun y hy => by
        rcases List.mem_cons.mp hy with z | z
        · omega
        · exact h2 y z⟩
    · rename_i hc
      exact ⟨List.mem_cons_self, fun y hy => by
        rcases List.mem_cons.mp hy with z | z
        · omega
        · have := h2 y z; omega⟩
theorem minI_ok : ∀ {ns : List Int}, 0 < ns.length → minI ns ∈ ns ∧ ∀ y ∈ ns, minI ns ≤ y
  | [n], _ => by simp [minI]
  | n :: b :: r, _ => by
    obtain ⟨h1, h2⟩ := minI_ok (ns := b :: r) (by simp)
    have e : minI (n :: b :: r) = if minI (b :: r) < n then minI (b :: r) else n := rfl
    rw [e]
    split
    · rename_i hc
      exact ⟨List.mem_cons_of_mem _ h1, fun y hy => by
        rcases List.mem_cons.mp hy with z | z
        · omega
        · exact h2 y z⟩
    · rename_i hc
      exact ⟨List.mem_cons_self, fun y hy => by
        rcases List.mem_cons.mp hy with z | z
        · omega
        · have := h2 y z; omega⟩
def fMaxL (ds : List D) (m : Mem) : R D := match ds with
  | [d] => (match intsOf m d with
    | some ns => if 0 < ns.length then .ok (.int (maxI ns)) m else .bad
    | none => .bad)
  | _ => .bad
def fMinL (ds : List D) (m : Mem) : R D := match ds with
  | [d] => (match intsOf m d with
    | some ns => if 0 < ns.length then .ok (.int (minI ns)) m else .bad
    | none => .bad)
  | _ => .bad
theorem OC.maxL (K : PySem.W.Frag) : OC K W (rMax K) fMaxL := by
  intro ρ m σ H Q ds xs rm rx h
  unfold fMaxL at h
  split at h
  · cases rx with
    | cons r t =>
      cases t
      split at h
      · rename_i ns e
        split at h
        · rename_i hl
          obtain ⟨a, ea, hs⟩ := intsOf_ok rm r e
          subst ea
          refine ⟨a, ns, rfl, hs, hl, fun M h1 h2 => ?_⟩
          obtain ⟨g1, g2⟩ := maxI_ok hl
          have e : maxI ns = M := by have := h2 _ g1; have := g2 _ h1; omega
          rw [← e]
          exact fin rm (.int _) h
        · exact h.elim
      · exact h.elim
  · exact h.elim
theorem OC.minL (K : PySem.W.Frag) : OC K W (rMin K) fMinL := by
  intro ρ m σ H Q ds xs rm rx h
  unfold fMinL at h
  split at h
  · cases rx with
    | cons r t =>
      cases t
      split at h
      · rename_i ns e
        split at h
        · rename_i hl
          obtain ⟨a, ea, hs⟩ := intsOf_ok rm r e
          subst ea
          refine ⟨a, ns, rfl, hs, hl, fun M h1 h2 => ?_⟩
          obtain ⟨g1, g2⟩ := minI_ok hl
          have e : minI ns = M := by have := h2 _ g1; have := g2 _ h1; omega
          rw [← e]
          exact fin rm (.int _) h
        · exact h.elim
      · exact h.elim
  · exact h.elim
/-- list(x), tuple(x) of a list or a tuple -/
def seqOf (m : Mem) (d : D) : Option (List D) := match d with
  | .tup xs => some xs
  | d => rget m d
theorem seqOf_ok {K : PySem.W.Frag} {ρ : Rho} {m : Mem} {H : Hp} {d : D} {v : V} {ds : List D} (rm : RM K ρ H m) (r : RV K ρ H d v) (h : seqOf m d = some ds) : ∃ a xs, v = .ref a ∧ (SqL K H a xs ∨ SqT K H a xs) ∧ RVs K ρ H ds xs := by
  unfold seqOf at h
  split at h
  · cases r with
    | tup f r => cases h; exact ⟨_, _, rfl, .inr f.sq, r⟩
  · obtain ⟨a, xs, e, h1, h2⟩ := rget_ok rm r h
    exact ⟨a, xs, e, .inl h1, h2⟩
def fList (o : Bool) (ds : List D) (m : Mem) : R D := match ds with
  | [d] => (match seqOf m d with
    | some xs => newL o xs m
    | none => .bad)
  | _ => .bad
def fTuple (ds : List D) (m : Mem) : R D := match ds with
  | [.tup xs] => .ok (.tup xs) m
  | [d] => (match rget m d with
    | some xs => .ok (.tup xs) m
    | none => .bad)
  | _ => .bad
theorem OC.list (K : PySem.W.Frag) (o : Bool) : OC K W (fun xs H Q => ∃ p ys, xs = [V.ref p] ∧ (SqL K H p ys ∨ SqT K H p ys) ∧ ∀ l, H l = none → Q (.ref l) (upd H l (.lst ys))) (fList o) := by
  intro ρ m σ H Q ds xs rm rx h
  unfold fList at h
  split at h
  · cases rx with
    | cons r t =>
      cases t
      split at h
      · rename_i us e
        obtain ⟨a, ws, ea, h1, h2⟩ := seqOf_ok rm r e
        subst ea
        exact ⟨a, ws, rfl, h1, newL_ok rm h2 h⟩
      · exact h.elim
  · exact h.elim
theorem OC.tuple (K : PySem.W.Frag) : OC K W (fun xs H Q => ∃ p ys, xs = [V.ref p] ∧ ((SqL K H p ys ∧ ∀ l, H l = none → Q (.ref l) (upd H l (.tup ys))) ∨ (SqT K H p ys ∧ Q (.ref p) H))) fTuple := by
  intro ρ m σ H Q ds xs rm rx h
  unfold fTuple at h
  split at h
  · cases rx with
    | cons r t =>
      cases t
      cases r with
      | tup f r => exact ⟨_, _, rfl, .inr ⟨f.sq, fin rm (.tup f r) h⟩⟩
  · cases rx with
    | cons r t =>
      cases t
      split at h
      · rename_i us e
        obtain ⟨a, ws, ea, h1, h2⟩ := rget_ok rm r e
        subst ea
        refine ⟨a, ws, rfl, .inl ⟨h1, fun l hl => ?_⟩⟩
        have le : Le ρ.length ρ H ρ (upd H l (.tup ws)) := Le.fresh rm hl
        exact h ρ _ _ le (rm.fresh hl) (.tup (.inl ⟨.inl upd_same, rm.out hl⟩) (h2.mono le))
      · exact h.elim
  · exact h.elim
def fDivmod (ds : List D) (m : Mem) : R D := match ds with
  | [.int i, .int j] => if 0 < j ∧ j < 1073741824 then .ok (.tup [.int (i / j), .int (i % j)]) m else .bad
  | _ => .bad
theorem OC.divmod (K : PySem.W.Frag) : OC K W (fun xs H Q => ∃ i j, xs = [V.int i, V.int j] ∧ CDiv i j ∧ ∀ p, H p = none → Q (.ref p) (upd H p (.tup [.int (i / j), .int (i % j)]))) fDivmod := by
  intro ρ m σ H Q ds xs rm rx h
  unfold fDivmod at h
  split at h
  · rename_i i j
    cases rx with
    | cons r t =>
      cases t with
      | cons r2 t =>
        cases t; cases r; cases r2
        split at h
        · rename_i hj
          refine ⟨i, j, rfl, hj, fun l hl => ?_⟩
          have le : Le ρ.length ρ H ρ (upd H l (.tup [.int (i / j), .int (i % j)])) := Le.fresh rm hl
          exact h ρ _ _ le (rm.fresh hl) (.tup (.inl ⟨.inl upd_same, rm.out hl⟩) (.cons (.int _) (.cons (.int _) .nil)))
        · exact h.elim
  · exact h.elim
def fLcm (ds : List D) (m : Mem) : R D := match ds with
  | [.int i, .int j] => if i.natAbs < 2 ^ 60 ∧ j.natAbs < 2 ^ 60 then .ok (.int (Nat.lcm i.natAbs j.natAbs : Nat)) m else .bad
  | _ => .bad
def rLcm : List V → Hp → VK → Prop := fun xs H Q => ∃ i j, xs = [V.int i, V.int j] ∧ i.natAbs < 2 ^ 60 ∧ j.natAbs < 2 ^ 60 ∧ Q (.int (Nat.lcm i.natAbs j.natAbs : Nat)) H
theorem call_lcm : CallR X (.builtin "math.lcm") rLcm := by
  intro pins s σ H xs us Q I r h
  obtain ⟨i, j, rfl, h1, h2, q⟩ := h
  obtain ⟨u, w', rfl, ⟨t, rfl⟩, ⟨t', rfl⟩⟩ := vals2 r
  have e : (((Nat.lcm 1 i.natAbs).lcm j.natAbs : Nat) : Int) = ((Nat.lcm i.natAbs j.natAbs : Nat) : Int) := by rw [Nat.lcm_one_left]
  have hb : (Nat.lcm i.natAbs j.natAbs) < 2 ^ 120 := by
    have h3 : Nat.lcm i.natAbs j.natAbs ≤ i.natAbs * j.natAbs := by
      unfold Nat.lcm
      exact Nat.div_le_self _ _
    have h4 : i.natAbs * j.natAbs < 2 ^ 60 * 2 ^ 60 := Nat.mul_lt_mul'' h1 h2
    calc Nat.lcm i.natAbs j.natAbs ≤ _ := h3
      _ < 2 ^ 60 * 2 ^ 60 := h4
      _ = 2 ^ 120 := by decide
  refine PySem.W.mg_lcm_v (Nat.lt_of_lt_of_le h1 (by decide)) (Nat.lt_of_lt_of_le h2 (by decide)) e ?_ ⟨.int _, H, I.tok _, ⟨_, rfl⟩, q⟩
  rw [Int.natAbs_natCast]
  have h5 : (Nat.lcm i.natAbs j.natAbs).log2 < 121 := by
    by_cases z : Nat.lcm i.natAbs j.natAbs = 0
    · rw [z]; decide
    · have := (Nat.log2_lt z).mpr hb; omega
  exact Nat.lt_of_lt_of_le h5 (by decide)
theorem OC.lcm (K : PySem.W.Frag) : OC K W rLcm fLcm := by
  intro ρ m σ H Q ds xs rm rx h
  unfold fLcm at h
  split at h
  · cases rx with
    | cons r t =>
      cases t with
      | cons r2 t =>
        cases t; cases r; cases r2
        split at h
        · rename_i hj; exact ⟨_, _, rfl, hj.1, hj.2, fin rm (.int _) h⟩
        · exact h.elim
  · exact h.elim

/-! ### isinstance -/
/-- what isinstance asks of a class of the program -/
structure KC (K : PySem.W.Frag) (C : Addr) : Prop where
  cl : Cls K C
  ha : PySem.W.findIn K (.ref C) "__class__" = some (some (.builtin "object.__class__"))
  hn : PySem.W.specialIn K (.builtin "object.__class__") "__get__" = some (some (.builtin "getset_descriptor.__get__"))
  ht : PySem.W.takesIn K (.builtin "object.__class__") = some true
  hm : PySem.W.mroIn K C (.type "object") = some true
/-- a datum's type -/
def tyD (m : Mem) : D → Option Value
  | .non => some (.type "NoneType")
  | .bl _ => some (.type "bool")
  | .int _ => some (.type "int")
  | .str _ => some (.type "str")
  | .tup _ => some (.type "tuple")
  | .lst _ => some (.type "list")
  | .ro _ => some (.type "list")
  | .dic _ _ => some (.type "dict")
  | .ins C _ _ => some (.ref C)
  | .obj n => match m[n]? with
    | some (.lst _) => some (.type "list")
    | some (.dic _ _) => some (.type "dict")
    | some (.dicT _ _) => some (.type "dict")
    | some (.ins C _ _) => some (.ref C)
    | _ => none
  | _ => none
theorem tyD_ok {K : PySem.W.Frag} {ρ : Rho} {m : Mem} {H : Hp} {d : D} {v : V} {t : Value} (rm : RM K ρ H m) (r : RV K ρ H d v) (h : tyD m d = some t) (hC : ∀ C, t = .ref C → KC K C) : TyX K H v t := by
  cases r with
  | non => cases h; exact .base .non
  | bl b => cases h; exact .base (.bl b)
  | int b => cases h; exact .base (.int b)
  | str b => cases h; exact .base (.str b)
  | tup f r =>
    cases h
    rcases f with ⟨f | ⟨o, f⟩, _⟩ | ⟨o, its, n, e, c, _⟩
    · exact .base (.tup f)
    · exact .fTuple f
    · exact .kTuple e c
  | lst f n r => cases h; exact .base (.lst f)
  | ro f r =>
    cases h
    rcases f with ⟨f | ⟨o, f⟩, _⟩ | ⟨o, its, n, e, c, _⟩
    · exact .base (.lst f)
    · exact .base (.frz f)
    · exact .kList e c
  | dic f n e r => cases h; exact .base (.dK f)
  | ins f n e r =>
    cases h
    have c := hC _ rfl
    exact .base (.ins f c.cl c.ha c.hn c.ht c.hm)
  | @obj n a hn =>
    obtain ⟨o, ho, q⟩ := rm.at_ n a hn
    unfold tyD at h
    dsimp only at h
    rw [ho] at h
    cases o with
    | lst ds => cases h; obtain ⟨xs, h1, h2⟩ := q; exact .base (.lst h1)
    | dic ks ds => cases h; obtain ⟨xs, h1, h2⟩ := q; exact .base (.dK h1)
    | dicT ks ds => cases h; obtain ⟨xs, h1, h2⟩ := q; exact .base (.dT h1)
    | ins C ns ds =>
      cases h
      obtain ⟨dx, fs, h1, h2⟩ := q
      have c := hC _ rfl
      exact .base (.ins h1 c.cl c.ha c.hn c.ht c.hm)
    | dead => cases h
  | _ => cases h
/-- isinstance(x, c): kit tells the answer by the type; c the datum of the class -/
def fIsi (cd : D) (kit : Value → Option Bool) (ds : List D) (m : Mem) : R D := match ds with
  | [d, _] => (match tyD m d with
    | some t => (match kit t with
      | some b => .ok (.bl b) m
      | none => .bad)
    | none => .bad)
  | _ => .bad
theorem OC.isi {K : PySem.W.Frag} {cd : D} {c : V} {u : Value} {kit : Value → Option Bool} (hc : ClsV c u) (hk : ∀ t b, kit t = some b → PySem.W.kitOne K t u = some b ∧ ∀ C, t = .ref C → KC K C) :
    OC K W (fun xs H Q => ∀ x y, xs = [x, y] → y = c → rIsi K xs H Q) (fIsi cd kit) := by
  intro ρ m σ H Q ds xs rm rx h x y ex ey
  subst ex ey
  unfold fIsi at h
  split at h
  · rename_i d d2
    cases rx with
    | cons r t =>
      split at h
      · rename_i t e
        split at h
        · rename_i b eb
          obtain ⟨h1, h2⟩ := hk t b eb
          exact ⟨x, y, t, u, b, rfl, hc, tyD_ok rm r e h2, h1, fin rm (.bl _) h⟩
        · exact h.elim
      · exact h.elim
  · exact h.elim
end
end DL

/-! DOwn: isinstance, methods of lists, operators of own classes. -/
namespace DL
open PySem PySem.Spec PyProof.Rows L2

section
variable {X : Cx} {W : WX} {x : Str} {p pos apos : Pos} {e o c : Expr} {es : List Expr} {fs : EL} {fe fo : EX} {k j : Nat}
/-- a class by name: what its name gives -/
def ClsE (X : Cx) (c : Expr) (u : Value) : Prop := ∃ cv, PE X c (tC cv) ∧ ClsV cv u
theorem cls_ty {T : String} (hg : Gl X x) (hm : X.mg x = none) (hv : bootBuiltins x = some (.type T)) (hn : x ≠ "__name__" := by decide) (hd : (x == ("__debug__" : Str)) = false := by decide) : ClsE X (.Name x pos) (.type T) := ⟨.ty T, pe_bltn hg hm hv rfl hn hd, .ty T⟩
theorem cls_own {C : Addr} (hg : Gl X x) (hm : X.mg x = some (.ref C)) (hd : (x == ("__debug__" : Str)) = false := by decide) : ClsE X (.Name x pos) (.ref C) := ⟨.ref C, pe_glob hg hm rfl hd, .own C⟩
inductive ClsEs (X : Cx) : List Expr → List Value → Prop where
  | nil : ClsEs X [] []
  | cons {c : Expr} {cs : List Expr} {u : Value} {us : List Value} : ClsE X c u → ClsEs X cs us → (starEach (c :: cs) X.env = (false, eval c X.env) :: starEach cs X.env) → ClsEs X (c :: cs) (u :: us)
def oIsi (kit : Value → Option Bool) (d : D) (m : Mem) : R D := match tyD m d with
  | some t => (match kit t with
    | some b => .ok (.bl b) m
    | none => .bad)
  | none => .bad
theorem oIsi_ok {K : PySem.W.Frag} {kit : Value → Option Bool} {ans : Value → Bool → Prop} {ρ : Rho} {m : Mem} {σ : St} {H : Hp} {Q : VK} {d : D} {v : V} (rm : RM K ρ H m) (r : RV K ρ H d v) (hk : ∀ t b, kit t = some b → ans t b ∧ ∀ C, t = .ref C → KC K C)
    (h : GPost K W (RV K) ρ σ H (oIsi kit d m) Q) : ∃ t b, TyX K H v t ∧ ans t b ∧ GPost K W (RV K) ρ σ H (.ok (.bl b) m) Q := by
  unfold oIsi at h
  split at h
  · rename_i t e
    split at h
    · rename_i b eb
      obtain ⟨h1, h2⟩ := hk t b eb
      exact ⟨t, b, tyD_ok rm r e h2, h1, h⟩
    · exact h.elim
  · exact h.elim
theorem de_isi {u : Value} {kit : Value → Option Bool} (he : DE X W e fe) (hc : ClsE X c u) (hk : ∀ t b, kit t = some b → PySem.W.kitOne X.K t u = some b ∧ ∀ C, t = .ref C → KC X.K C) (hg : Gl X "isinstance") (hm : X.mg "isinstance" = none)
    (s1 : starEach [e, c] X.env = (false, eval e X.env) :: starEach [c] X.env := by rfl) (s2 : starEach [c] X.env = (false, eval c X.env) :: starEach [] X.env := by rfl) (hpl : (backTo pos (starEach [c] X.env)).any (·.1) = false := by rfl) :
    DE X W (.Call (.Name "isinstance" p) [e, c] [] pos) (e1 (oIsi kit) fe) := by
  obtain ⟨te, pe, se⟩ := he
  obtain ⟨cv, pc, kc⟩ := hc
  refine ⟨_, pe_callB call_isi hg hm boot_isinstance (pa_cons pe (pa_cons pc pa_nil s2) s1) (by decide) (by decide) s1 hpl, fun ρ loc m σ H Q rm rl h => ?_⟩
  refine se.use rm rl h fun ρ1 m1 H1 d v l1 rm1 rl1 rv h1 => ?_
  obtain ⟨t, b, h2, h3, h4⟩ := oIsi_ok rm1 rv hk h1
  exact ⟨v, cv, t, u, b, rfl, kc, h2, h3, fin rm1 (.bl _) h4⟩
theorem ClsEs.vals {cs : List Expr} {us : List Value} (h : ClsEs X cs us) : ∃ cvs, PA X cs (fun σ H Q => Q cvs H) ∧ Paired ClsV cvs us ∧ cvs.length = us.length := by
  induction h with
  | nil => exact ⟨[], pa_nil, .nil, rfl⟩
  | cons h1 h2 hs ih =>
    obtain ⟨cv, pc, kc⟩ := h1
    obtain ⟨cvs, pcs, kcs, hl⟩ := ih
    exact ⟨cv :: cvs, pa_cons pc pcs hs, .cons kc kcs, by simp [hl]⟩
theorem de_isiT {cs : List Expr} {us : List Value} {kit : Value → Option Bool} {kk : Nat} {tpos : Pos} (he : DE X W e fe) (hc : ClsEs X cs us) (hl : us.length ≤ 1000) (hk : ∀ t b, kit t = some b → PySem.W.kitAny X.K t us = some b ∧ ∀ C, t = .ref C → KC X.K C) (hg : Gl X "isinstance") (hm : X.mg "isinstance" = none)
    (s1 : starEach [e, .Tuple cs kk tpos] X.env = (false, eval e X.env) :: starEach [.Tuple cs kk tpos] X.env := by rfl) (s2 : starEach [.Tuple cs kk tpos] X.env = (false, eval (.Tuple cs kk tpos) X.env) :: starEach [] X.env := by rfl) (hpl : (backTo pos (starEach [.Tuple cs kk tpos] X.env)).any (·.1) = false := by rfl) :
    DE X W (.Call (.Name "isinstance" p) [e, .Tuple cs kk tpos] [] pos) (e1 (oIsi kit) fe) := by
  obtain ⟨te, pe, se⟩ := he
  obtain ⟨cvs, pcs, kcs, hl2⟩ := hc.vals
  refine ⟨_, pe_callB call_isiT hg hm boot_isinstance (pa_cons pe (pa_cons (pe_tup pcs) pa_nil s2) s1) (by decide) (by decide) s1 hpl, fun ρ loc m σ H Q rm rl h => ?_⟩
  refine se.use rm rl h fun ρ1 m1 H1 d v l1 rm1 rl1 rv h1 => ?_
  refine ⟨Nat.le_trans (by rw [hl2]; exact hl) (by rw [sizeLine_eq]; decide), fun tp htp => ?_⟩
  have le : Le ρ1.length ρ1 H1 ρ1 (upd H1 tp (.tup cvs)) := Le.fresh rm1 htp
  have rm2 : RM X.K ρ1 (upd H1 tp (.tup cvs)) m1 := rm1.fresh htp
  obtain ⟨t, b, h2, h3, h4⟩ := oIsi_ok rm2 (rv.mono le) hk (GPost.later le h1)
  exact ⟨v, tp, cvs, t, us, b, rfl, upd_same, kcs, h2, h3, fin rm2 (.bl _) h4⟩

/-! ### methods of lists -/
def LstM (f : List D → List D → Option (D × List D)) (d : D) (as : List D) (m : Mem) : R D := match d with
  | .obj n => (match m[n]? with
    | some (.lst xs) => (match f xs as with
      | some (r, ys) => .ok r (m.set n (.lst ys))
      | none => .bad)
    | _ => .bad)
  | _ => .bad
/-- a method's reading by lists -/
def LM (r : V → List V → Hp → VK → Prop) (f : List D → List D → Option (D × List D)) : Prop :=
  ∀ (K : PySem.W.Frag) (ρ : Rho) (H : Hp) (a : Addr) (ds as ys : List D) (xs vs : List V) (d : D) (Q : VK), RVs K ρ H ds xs → RVs K ρ H as vs → f ds as = some (d, ys) → H a = some (.lst xs) →
    (∀ v us, RV K ρ H d v → RVs K ρ H ys us → Q v (upd H a (.lst us))) → r (.ref a) vs H Q
/-- a datum of a built-in type with methods -/
def tyB (T : String) (m : Mem) (d : D) : Bool := match d with
  | .str _ => T == "str"
  | .int _ => T == "int"
  | .lst _ => T == "list"
  | .ro _ => T == "list"
  | .dic _ _ => T == "dict"
  | .obj n => (match m[n]? with
    | some (.lst _) => T == "list"
    | some (.dic _ _) => T == "dict"
    | some (.dicT _ _) => T == "dict"
    | _ => false)
  | _ => false
theorem tyB_ok {K : PySem.W.Frag} {ρ : Rho} {m : Mem} {H : Hp} {T : String} {d : D} {v : V} (rm : RM K ρ H m) (r : RV K ρ H d v) (h : tyB T m d = true) : tyV K T v H := by
  cases r with
  | str x => exact beq_iff_eq.mp h
  | int x => exact beq_iff_eq.mp h
  | lst f n r => exact .inl ⟨beq_iff_eq.mp h, _, .of f⟩
  | ro f r => exact .inl ⟨beq_iff_eq.mp h, _, f.sq⟩
  | dic f n e r => exact .inr (.inr (.inl ⟨beq_iff_eq.mp h, .inl ⟨_, f⟩⟩))
  | @obj n a hn =>
    obtain ⟨o, ho, q⟩ := rm.at_ n a hn
    unfold tyB at h
    dsimp only at h
    rw [ho] at h
    cases o with
    | lst ds => obtain ⟨xs, h1, h2⟩ := q; exact .inl ⟨beq_iff_eq.mp h, _, .of h1⟩
    | dic ks ds => obtain ⟨xs, h1, h2⟩ := q; exact .inr (.inr (.inl ⟨beq_iff_eq.mp h, .inl ⟨_, h1⟩⟩))
    | dicT ks ds => obtain ⟨xs, h1, h2⟩ := q; exact .inr (.inr (.inl ⟨beq_iff_eq.mp h, .inr ⟨_, h1⟩⟩))
    | _ => cases h
  | _ => cases h
/-- o.m(e, ..), a method of a built-in type -/
def eBM (T : String) (f : D → List D → Mem → R D) (a : EX) (as : EL) : EX := bnd a fun x loc m => if tyB T m x = true then bnd as (fun xs _ m => f x xs m) loc m else .bad
section
variable {T id : String} {mt : Str} {r : V → List V → Hp → VK → Prop} {f : D → List D → Mem → R D} {cpos : Pos}
theorem semBM {K : PySem.W.Frag} {to : TE} {t : TA} (so : SemJ K W (RV K) to fo) (sa : SemJ K W (RVs K) t fs) (hl : OM K W r f) : SemJ K W (RV K) (tBM K T r to t) (eBM T f fo fs) := by
  intro ρ loc m σ H Q rm rl h
  refine so.use rm rl h fun ρ1 m1 H1 d v l1 rm1 rl1 rv h1 => ?_
  split at h1
  · rename_i ht
    refine ⟨tyB_ok rm1 rv ht, ?_⟩
    refine sa.use rm1 rl1 h1 fun ρ2 m2 H2 ds us l2 rm2 rl2 ru h2 => ?_
    exact hl ρ2 m2 σ H2 Q d v ds us rm2 (rv.mono l2) ru h2
  · exact h1.elim
theorem de_bm (pa : PlainAttrs T) (slot : Slot T mt id) (hty : typeOf (.builtin id) = pure (.type "method_descriptor")) (hm : MtR X id r) (hf : OM X.K W r f) (ho : DE X W o fo) (ha : DA X W (e :: es) fs)
    (hbase : attributeBase o mt X.env (eval o X.env) = eval o X.env := by rfl)
    (hfew : ((backTo cpos (starEach (e :: es) X.env)).all (fun x => !x.1) && (backToKw cpos (keywordEach [] X.env)).all (fun x => x.1.isSome)
      && decide ((e :: es).length + ([] : List Keyword).length + (if ([] : List Keyword).isEmpty then 0 else 1) < 30)) = true := by rfl)
    (hline : (apos.endLine == cpos.line) = true := by rfl) (hs : starEach (e :: es) X.env = (false, eval e X.env) :: starEach es X.env := by rfl) (hplain : (backTo cpos (starEach es X.env)).any (·.1) = false := by rfl) :
    DE X W (.Call (.Attribute o mt apos) (e :: es) [] cpos) (eBM T f fo fs) := by
  obtain ⟨to, po, so⟩ := ho
  obtain ⟨t, pt, sa⟩ := ha
  exact ⟨_, pe_bm pa slot hty hm po pt hbase hfew hline hs hplain, semBM so sa hf⟩
theorem de_bm0 (pa : PlainAttrs T) (slot : Slot T mt id) (hty : typeOf (.builtin id) = pure (.type "method_descriptor")) (hm : MtR X id r) (hf : OM X.K W r f) (ho : DE X W o fo)
    (hbase : attributeBase o mt X.env (eval o X.env) = eval o X.env := by rfl) (hline : (apos.endLine == cpos.line) = true := by rfl) : DE X W (.Call (.Attribute o mt apos) [] [] cpos) (eBM T f fo aNil) := by
  obtain ⟨to, po, so⟩ := ho
  refine ⟨_, pe_bm0 pa slot hty hm po hbase hline, fun ρ loc m σ H Q rm rl h => ?_⟩
  refine so.use rm rl h fun ρ1 m1 H1 d v l1 rm1 rl1 rv h1 => ?_
  split at h1
  · rename_i ht
    exact ⟨tyB_ok rm1 rv ht, hf ρ1 m1 σ H1 Q d v [] [] rm1 rv .nil h1⟩
  · exact h1.elim
end
/-- methods that rewrite a list -/
theorem OM.lst {r : V → List V → Hp → VK → Prop} {f : List D → List D → Option (D × List D)} (hl : LM r f) (K : PySem.W.Frag) : OM K W r (LstM f) := by
  intro ρ m σ H Q d x ds xs rm rx rxs h
  unfold LstM at h
  split at h
  · rename_i n
    cases rx with
    | @obj _ a hn =>
      split at h
      · rename_i es em
        split at h
        · rename_i z ys ef
          obtain ⟨us, h1, h2⟩ := rm.lstAt hn em
          refine hl K ρ H a es ds ys us xs z Q h2 rxs ef h1 fun v ws rv rws => ?_
          obtain ⟨l, rm'⟩ := rm.lstSet hn rws
          exact h ρ _ v l rm' (rv.mono l)
        · exact h.elim
      · exact h.elim
  · exact h.elim
def fAppend (xs as : List D) : Option (D × List D) := match as with
  | [y] => if xs.length < sizeLine then some (.non, xs ++ [y]) else none
  | _ => none
theorem LM.append : LM rAppend fAppend := by
  intro K ρ H a ds as ys xs vs d Q r1 r2 e ha q
  unfold fAppend at e
  split at e
  · cases r2 with
    | cons r t =>
      cases t
      split at e
      · rename_i hl
        cases e
        exact ⟨a, xs, _, rfl, rfl, ha, by rw [← r1.length]; exact hl, q _ _ .non (r1.append (.cons r .nil))⟩
      · cases e
  · cases e
def fPop (xs as : List D) : Option (D × List D) := match as with
  | [] => (match xs[xs.length - 1]? with
    | some y => some (y, xs.dropLast)
    | none => none)
  | _ => none
theorem RVs.dropLast {K : PySem.W.Frag} {ρ : Rho} {H : Hp} {ds : List D} {vs : List V} (h : RVs K ρ H ds vs) : RVs K ρ H ds.dropLast vs.dropLast := by
  rw [List.dropLast_eq_take, List.dropLast_eq_take, h.length]
  exact h.take _
theorem LM.pop : LM rPop fPop := by
  intro K ρ H a ds as ys xs vs d Q r1 r2 e ha q
  unfold fPop at e
  split at e
  · cases r2
    split at e
    · rename_i y ey
      cases e
      obtain ⟨v, hv, rv⟩ := r1.get ey
      rw [r1.length] at hv
      exact ⟨a, xs, v, rfl, rfl, ha, hv, q _ _ rv r1.dropLast⟩
    · cases e
  · cases e
def fPopAt (xs as : List D) : Option (D × List D) := match as with
  | [.int i] => if -(2 ^ 63) ≤ i ∧ i < 2 ^ 63 then (match seqIndex? i xs.length with
    | some k => (match xs[k]? with
      | some y => some (y, xs.eraseIdx k)
      | none => none)
    | none => none) else none
  | _ => none
theorem LM.popAt : LM rPopAt fPopAt := by
  intro K ρ H a ds as ys xs vs d Q r1 r2 e ha q
  unfold fPopAt at e
  split at e
  · cases r2 with
    | cons r t =>
      cases t
      cases r
      split at e
      · rename_i hi
        split at e
        · rename_i k ek
          split at e
          · rename_i y ey
            cases e
            obtain ⟨v, hv, rv⟩ := r1.get ey
            exact ⟨a, xs, _, k, v, rfl, rfl, ha, hi.1, hi.2, by rw [← r1.length]; exact ek, hv, q _ _ rv (r1.erase k)⟩
          · cases e
        · cases e
      · cases e
  · cases e
def fInsert (xs as : List D) : Option (D × List D) := match as with
  | [.int i, y] => if xs.length < sizeLine ∧ 0 ≤ i ∧ i < 2 ^ 63 then some (.non, xs.take i.toNat ++ [y] ++ xs.drop i.toNat) else none
  | _ => none
theorem LM.insert : LM (fun x vs H Q => ∃ (l : Addr) (xs : List V) (i : Int) (y : V), x = .ref l ∧ vs = [.int i, y] ∧ H l = some (.lst xs) ∧ xs.length < sizeLine ∧ 0 ≤ i ∧ i < 2 ^ 63 ∧
    Q .non (upd H l (.lst (xs.take i.toNat ++ [y] ++ xs.drop i.toNat)))) fInsert := by
  intro K ρ H a ds as ys xs vs d Q r1 r2 e ha q
  unfold fInsert at e
  split at e
  · cases r2 with
    | cons r t =>
      cases t with
      | cons r' t =>
        cases t
        cases r
        split at e
        · rename_i hi
          cases e
          exact ⟨a, xs, _, _, rfl, rfl, ha, by rw [← r1.length]; exact hi.1, hi.2.1, hi.2.2, q _ _ .non (((r1.take _).append (.cons r' .nil)).append (r1.drop _))⟩
        · cases e
  · cases e
def fReverse (xs as : List D) : Option (D × List D) := match as with
  | [] => some (.non, xs.reverse)
  | _ => none
theorem LM.reverse : LM rReverse fReverse := by
  intro K ρ H a ds as ys xs vs d Q r1 r2 e ha q
  unfold fReverse at e
  split at e
  · cases r2
    cases e
    exact ⟨a, xs, rfl, rfl, ha, q _ _ .non r1.reverse⟩
  · cases e
def fClear (xs as : List D) : Option (D × List D) := match as with
  | [] => some (.non, [])
  | _ => none
theorem LM.clear : LM rClear fClear := by
  intro K ρ H a ds as ys xs vs d Q r1 r2 e ha q
  unfold fClear at e
  split at e
  · cases r2
    cases e
    exact ⟨a, xs, rfl, rfl, ha, q _ _ .non .nil⟩
  · cases e
/-- xs.extend(ys), ys a list made here -/
def oExtend (d : D) (as : List D) (m : Mem) : R D := match d, as with
  | .obj n, [e] => (match m[n]?, lget m e with
    | some (.lst xs), some ys => if xs.length + ys.length ≤ sizeLine then .ok .non (m.set n (.lst (xs ++ ys))) else .bad
    | _, _ => .bad)
  | _, _ => .bad
theorem OM.extend (K : PySem.W.Frag) : OM K W rExtend oExtend := by
  intro ρ m σ H Q d x ds xs rm rx rxs h
  unfold oExtend at h
  split at h
  · rename_i n e
    cases rx with
    | @obj _ a hn =>
      cases rxs with
      | cons r t =>
        cases t
        split at h
        · rename_i us ys em el
          split at h
          · rename_i hz
            obtain ⟨ws, h1, h2⟩ := rm.lstAt hn em
            obtain ⟨b, zs, eb, h3, h4⟩ := lget_ok rm r el
            subst eb
            obtain ⟨l, rm'⟩ := rm.lstSet hn (h2.append h4)
            exact ⟨a, b, ws, zs, rfl, rfl, h1, h3, by rw [← h2.length, ← h4.length]; exact hz, h ρ _ _ l rm' .non⟩
          · exact h.elim
        · exact h.elim
  · exact h.elim

/-! ### instances called, compared, added -/
def eCallO (C : Addr) (n : Nat) (g : List D → Mem → R D) (a : EX) (as : EL) : EX := bnd a fun y loc m => if (insOf m y).isSome = true then bnd as (fun xs _ m => match insOf m y with
  | some (C', _, _) => if C' = C then callD n g (y :: xs) m else .bad
  | none => .bad) loc m else .bad
theorem de_callO {Cc : Addr} {ps : List Str} {g : List D → Mem → R D} (C : Ctx X W k) (F : MethOk X.prog X.w X.K X.mg X.base j Cc "__call__" ps g) (hj : j ≤ k) (hf : DE X W o fo) (ha : DA X W (e :: es) fs)
    (ht : eval (.Call o (e :: es) [] pos) X.env = (do callWith pos (← eval o X.env) [] (backTo pos (starEach (e :: es) X.env)) (backToKw pos (keywordEach [] X.env))) := by rfl)
    (he : starEach (e :: es) X.env = (false, eval e X.env) :: starEach es X.env := by rfl) (hpl : (backTo pos (starEach es X.env)).any (·.1) = false := by rfl) : DE X W (.Call o (e :: es) [] pos) (eCallO Cc ps.length g fo fs) := by
  obtain ⟨f, fd, hm, h1, h2, hb, F⟩ := F
  obtain ⟨to, po, so⟩ := hf
  obtain ⟨t, pa, sa⟩ := ha
  refine ⟨fun σ H Q => to σ H fun y H1 => ∃ a, y = V.ref a ∧ t σ H1 fun vs H2 => (∃ dx fs, H2 a = some (.ins Cc dx fs)) ∧ spD X.K ps.length g (V.ref a :: vs) H2 Q (WE W σ), ⟨fun pins s σ H Q I h => ?_⟩, fun ρ loc m σ H Q rm rl h => ?_⟩
  · refine Call_ (thn (po.run pins s σ H _ I h) fun u s1 ⟨y, H1, I1, ry, a, ey, q⟩ => ?_) ht
    subst ey
    obtain rfl : u = Value.ref a := ry
    refine StX.callO_with (thn (pa.run pos pins s1 σ H1 _ I1 q) fun us s2 ⟨vs, H2, I2, r, ⟨dx, fs, hi⟩, q2⟩ => ?_) he hpl
    obtain ⟨ox, od, J, hd⟩ := StX.insC_at (X := X) I2 (.inr ⟨dx, fs, hi⟩)
    refine ⟨⟨Cc, ox, od, J, hd⟩, wpAny_call (PySem.W.kco_code I2.kIn J hd hm.at_ h1 h2 ?_)⟩
    have hl : (Value.ref a :: us).length = ps.length := by
      have e := q2.1
      have e2 := r.length
      simp only [List.length_cons] at e ⊢
      omega
    have b := hb s2 (.ref a :: us) I2.kIn (by rw [List.append_nil]; exact hl)
    rw [List.append_nil] at b
    refine codeAny_mono (F.run X.A X.stack s2 H2 ⟨.ref a :: us, []⟩ (.ref a :: us) (.ref a :: vs) Q (WE W σ) (C.room.mono hj) I2.env0 b (.cons rfl r) q2) fun r s' hq => ?_
    cases r with
    | error e => exact passAt C.tk σ pins H2 s2 e s' I2 hq
    | ok fl =>
      cases fl with
      | ret u => exact I2.after hq
      | next => exact False.elim hq
      | brk => exact False.elim hq
      | cont => exact False.elim hq
  · refine so.use rm rl h fun ρ1 m1 H1 d v l1 rm1 rl1 rv h1 => ?_
    split at h1
    case isFalse => exact h1.elim
    rename_i hs
    have ref : ∃ a, v = .ref a := by
      obtain ⟨⟨C', ns, vs'⟩, ei⟩ := Option.isSome_iff_exists.mp hs
      obtain ⟨a, _, _, ev, _⟩ := insOf_ok rm1 rv ei
      exact ⟨a, ev⟩
    obtain ⟨a, ea⟩ := ref
    subst ea
    refine ⟨a, rfl, ?_⟩
    refine sa.use rm1 rl1 h1 fun ρ2 m2 H2 ds us l2 rm2 rl2 ru h2 => ?_
    split at h2
    · rename_i C' ns vs' ei
      obtain ⟨a', dx, fs', ev, ea, en, er⟩ := insOf_ok rm2 (rv.mono l2) ei
      cases ev
      split at h2
      · rename_i hc
        subst hc
        exact ⟨⟨dx, fs', ea⟩, spD_of rm2 (.cons (rv.mono l2) ru) h2⟩
      · exact h2.elim
    · exact h2.elim

/-- nothing is raised -/
def quiet (r : R D) : R D := match r with
  | .ok d m => .ok d m
  | _ => .bad
theorem passQ {X : Cx} {σ : St} : PassesAt (L2.CX X.prog X.w) X σ (fun _ _ _ => False) := fun _ _ _ _ _ _ c => by
  obtain ⟨_, _, _, _, _, _, _, _, _, _, _, _, z⟩ := c
  exact z.elim
theorem quiet_ok {K : PySem.W.Frag} {ρ : Rho} {m : Mem} {σ : St} {H : Hp} {Q : VK} {n : Nat} {g : List D → Mem → R D} {ds : List D} {vs : List V} (rm : RM K ρ H m) (rv : RVs K ρ H ds vs) (h : GPost K W (RV K) ρ σ H (quiet (callD n g ds m)) Q) : spD K n g vs H Q (fun _ _ _ => False) := by
  unfold callD at h
  split at h
  · rename_i hl
    refine ⟨by rw [← rv.length]; exact hl, ρ, ds, m, rm, rv, ?_⟩
    cases q : g ds m with
    | ok d m' => rw [q] at h; exact h
    | err e m' => rw [q] at h; exact h.elim
    | bad => rw [q] at h; exact h.elim
  · exact h.elim
/-- what the call of a method by values gives -/
theorem run_meth {Cc : Addr} {mt : Str} {f : Addr} {fd : FuncData} {ps : List Str} {g : List D → Mem → R D} {pins : List (Addr × Obj)} {σ : St} {H : Hp} {s : Shared} {Q : VK} {us : List Value} {vs : List V} (hr : Room k X.A) (hb : Binds X.K fd ps [])
    (F : FnOk X.prog X.w X.K X.mg X.base (L2.CX X.prog X.w) k f fd ps (spD X.K ps.length g)) (I : Inv X pins σ H s) (r : Vals vs us) (h : spD X.K ps.length g vs H Q (fun _ _ _ => False)) :
    wpAny (model X.prog X.w) X.A (call (.ref f) us) (EP X pins σ Q) X.xe s := run_fnS (E := fun _ _ _ _ => False) F hr hb passQ I r h
def oOwn (C : Addr) (n : Nat) (g : List D → Mem → R D) (d e : D) (m : Mem) : R D := match insOf m d, insOf m e with
  | some (C1, _, _), some (C2, _, _) => if C1 = C ∧ C2 = C then quiet (callD n g [d, e] m) else .bad
  | _, _ => .bad
def rOwn (K : PySem.W.Frag) (C : Addr) (n : Nat) (g : List D → Mem → R D) : R2 := fun x y H Q => ∃ a b dx dy fs gs, x = .ref a ∧ y = .ref b ∧ H a = some (.ins C dx fs) ∧ H b = some (.ins C dy gs) ∧ spD K n g [x, y] H Q (fun _ _ _ => False)
theorem O2.own {K : PySem.W.Frag} {C : Addr} {n : Nat} {g : List D → Mem → R D} : O2 K W (rOwn K C n g) (oOwn C n g) := by
  intro ρ m σ H Q d e x y rm rx ry h
  unfold oOwn at h
  split at h
  · rename_i C1 n1 v1 C2 n2 v2 e1 e2
    split at h
    · rename_i hc
      obtain ⟨h1, h2⟩ := hc
      subst h1 h2
      obtain ⟨a, dx, fs, ea, ha, _⟩ := insOf_ok rm rx e1
      obtain ⟨b, dy, gs, eb, hb, _⟩ := insOf_ok rm ry e2
      exact ⟨a, b, dx, dy, fs, gs, ea, eb, ha, hb, quiet_ok rm (.cons rx (.cons ry .nil)) h⟩
    · exact h.elim
  · exact h.elim
theorem back_of {pins : List (Addr × Obj)} {σ : St} {Q : VK} {v : Value} {s : Shared} (h : EP X pins σ Q v s) : PySem.W.CmpBack (EP X pins σ Q) v s := by
  obtain ⟨x, H, I, r, q⟩ := id h
  cases v with
  | notImplemented =>
    cases x with
    | int i => obtain ⟨t, z⟩ := r; cases z
    | str i => obtain ⟨t, z⟩ := r; cases z
    | byt i => obtain ⟨t, z⟩ := r; cases z
    | flt i => obtain ⟨t, z⟩ := r; cases z
    | _ => cases r
  | _ => exact h
theorem op_ownEq {Cc : Addr} {ps : List Str} {g : List D → Mem → R D} (F : MethOk X.prog X.w X.K X.mg X.base j Cc "__eq__" ps g) (hr : Room k X.A) (hj : j ≤ k) : OpR X (compareOp .Eq) (rOwn X.K Cc ps.length g) := by
  obtain ⟨f, fd, hm, h1, h2, hb, F⟩ := F
  intro pins s σ H x y v u Q I rx ry h
  obtain ⟨a, b, dx, dy, fs, gs, rfl, rfl, ha, hb', h⟩ := h
  cases rx
  cases ry
  obtain ⟨mA, J, _⟩ := ins_get I.hok ha
  obtain ⟨mB, J', _⟩ := ins_get I.hok hb'
  obtain ⟨od, J, _⟩ := J.look
  obtain ⟨od', J', _⟩ := J'.look
  obtain ⟨mf, hF⟩ := I.fr
  show wpAny (model X.prog X.w) X.A (richCompare .Eq (.ref a) (.ref b)) (EP X pins σ Q) X.xe s
  refine PySem.W.cmp_K (op := .Eq) (tb := .ref Cc) hr.units0 hF I.ok.mod.kin J J'.type (by simp [PySem.W.notFirst]) hm.at_ h1 ?_
  exact thn (run_meth (Cc := Cc) (mt := "__eq__") (hr.mono hj) hb F I (vs := [.ref a, .ref b]) (.cons rfl (.cons rfl .nil)) h) fun v s' q => back_of q
theorem op_ownAdd {Cc : Addr} {ps : List Str} {g : List D → Mem → R D} (sf : PySem.W.selfFirst X.K Cc = true) (F : MethOk X.prog X.w X.K X.mg X.base j Cc "__add__" ps g) (hr : Room k X.A) (hj : j ≤ k) : OpR X (binaryOp .Add) (rOwn X.K Cc ps.length g) := by
  obtain ⟨f, fd, hm, h1, h2, hb, F⟩ := F
  intro pins s σ H x y v u Q I rx ry h
  obtain ⟨a, b, dx, dy, fs, gs, rfl, rfl, ha, hb', h⟩ := h
  cases rx
  cases ry
  obtain ⟨mA, J, _⟩ := ins_get I.hok ha
  obtain ⟨mB, J', _⟩ := ins_get I.hok hb'
  obtain ⟨od, J, _⟩ := J.look
  obtain ⟨od', J', _⟩ := J'.look
  obtain ⟨mf, hF⟩ := I.fr
  refine PySem.W.binop_K (op := .Add) hF I.ok.mod.kin J J'.type sf hm.at_ h1 ?_
  exact thn (run_meth (Cc := Cc) (mt := "__add__") (hr.mono hj) hb F I (vs := [.ref a, .ref b]) (.cons rfl (.cons rfl .nil)) h) fun v s' q => back_of q

/-! ### isinstance of a caught exception -/
def oIsE (a : Addr) (c : D) (b : Bool) (d : D) (m : Mem) : R D := match d with
  | .cls a' => if a' = a then .ok (.bl b) m else .bad
  | .exn a' _ _ _ => if a' = a then .ok (.bl b) m else .bad
  | _ => .bad
theorem de_isE {u : Value} {a Dc : Addr} {b : Bool} {oe : Obj} {pn : List (Addr × Obj)} (E : ExcC X.K Dc) (hz : Zc (.ref Dc) none oe) (hfl : ∃ vs, oe.data = .fields vs) (he : DE (X.suite a ((a, oe) :: pn)) W e fe) (hc : ClsE (X.suite a ((a, oe) :: pn)) c u)
    (hk : PySem.W.kitOne X.K (.ref Dc) u = some b) (hg : Gl X "isinstance") (hm : X.mg "isinstance" = none)
    (s1 : starEach [e, c] X.env = (false, eval e X.env) :: starEach [c] X.env := by rfl) (s2 : starEach [c] X.env = (false, eval c X.env) :: starEach [] X.env := by rfl) (hpl : (backTo pos (starEach [c] X.env)).any (·.1) = false := by rfl) :
    DE (X.suite a ((a, oe) :: pn)) W (.Call (.Name "isinstance" p) [e, c] [] pos) (e1 (oIsE a .non b) fe) := by
  obtain ⟨te, pe, se⟩ := he
  obtain ⟨cv, pc, kc⟩ := hc
  refine ⟨_, pe_callB (X := X.suite a ((a, oe) :: pn)) (call_isE (pn := pn) E hz hfl) hg hm boot_isinstance (pa_cons pe (pa_cons pc pa_nil s2) s1) (by decide) (by decide) s1 hpl, fun ρ loc m σ H Q rm rl h => ?_⟩
  refine se.use rm rl h fun ρ1 m1 H1 d v l1 rm1 rl1 rv h1 => ?_
  have go : v = .ref a → GPost X.K W (RV X.K) ρ1 σ H1 (.ok (.bl b) m1) Q → rIsE X.K Dc a [v, cv] H1 Q := fun ev h => by
    subst ev
    exact ⟨cv, u, b, rfl, fun w rw => kc.eq rw, hk, fin rm1 (.bl _) h⟩
  unfold oIsE at h1
  split at h1
  · split at h1
    · rename_i ea; subst ea; cases rv; exact go rfl h1
    · exact h1.elim
  · split at h1
    · rename_i ea; subst ea; cases rv; exact go rfl h1
    · exact h1.elim
  · exact h1.elim
end
end DL

/-! DMore: list(range(n)), displays of dicts. -/
namespace DL
open PySem PySem.Spec PyProof.Rows L2

def fListR (o : Bool) (ds : List D) (m : Mem) : R D := match ds with
  | [.int j] => if SmallR j ∧ j ≤ 2 ^ 24 then newL o (rangeD 0 1 j.toNat) m else .bad
  | [.int i, .int j] => if SmallR i ∧ SmallR j ∧ j - i ≤ 2 ^ 24 then newL o (rangeD i 1 (j - i).toNat) m else .bad
  | _ => .bad
section
variable {X : Cx} {W : WX} {a b : Expr} {fa fb : EX} {k : Nat}
theorem rgV_rel {K : PySem.W.Frag} {ρ : Rho} {H : Hp} (lo hi : Int) : RVs K ρ H (rangeD lo 1 (hi - lo).toNat) (rgV lo hi) := by
  unfold rangeD rgV
  generalize List.range (hi - lo).toNat = l
  induction l with
  | nil => exact .nil
  | cons i r ih =>
    rw [List.map_cons, List.map_cons]
    refine .cons ?_ ih
    rw [Int.mul_one]
    exact .int _
theorem de_listR1 (o : Bool) {p p2 pos pos2 : Pos} (C : Ctx X W k) (hg : Gl X "list") (hm : X.mg "list" = none) (hg2 : Gl X "range") (hm2 : X.mg "range" = none) (ha : DE X W a fa)
    (na : starEach [.Call (.Name "range" p2) [a] [] pos2] X.env = (false, eval (.Call (.Name "range" p2) [a] [] pos2) X.env) :: starEach [] X.env := by rfl)
    (nb : starEach [a] X.env = (false, eval a X.env) :: starEach [] X.env := by rfl) :
    DE X W (.Call (.Name "list" p) [.Call (.Name "range" p2) [a] [] pos2] [] pos) (e1 (fun d m => fListR o [d] m) fa) := by
  obtain ⟨t, pa, sa⟩ := ha
  refine ⟨_, pe_listRg C.calm hg hm (prg_1 hg2 hm2 pa nb) na, fun ρ loc m σ H Q rm rl h => ?_⟩
  refine sa.use rm rl h fun ρ1 m1 H1 d x l1 rm1 rl1 rx h1 => ?_
  simp only [fListR] at h1
  cases rx with
  | int j =>
    simp only at h1
    split at h1
    · rename_i hj
      obtain ⟨⟨j1, j2⟩, j3⟩ := hj
      refine ⟨j, rfl, ⟨by decide, by decide, j1, j2, ?_⟩, ?_⟩
      · have : j ≤ 16777216 := j3
        have e : (2 : Nat) ^ 24 = 16777216 := rfl
        rw [e]; omega
      · have e : rangeD 0 1 j.toNat = rangeD 0 1 (j - 0).toNat := by rw [Int.sub_zero]
        rw [e] at h1
        exact newL_ok rm1 (rgV_rel 0 j) h1
    · exact h1.elim
  | _ => exact h1.elim

/-! ### displays -/
def keyD : D → Option Key
  | .int i => some (.inl i)
  | .str x => some (.inr x)
  | _ => none
theorem keyD_ok {K : PySem.W.Frag} {ρ : Rho} {H : Hp} {d : D} {v : V} {q : Key} (r : RV K ρ H d v) (h : keyD d = some q) : v = kV q := by
  cases r with
  | int i => cases h; rfl
  | str x => cases h; rfl
  | _ => cases h
def newD (o : Bool) (ks : List Key) (vs : List D) (m : Mem) : R D := if o = true then .ok (.obj m.length) (m ++ [.dic ks vs]) else .ok (.dic ks vs) m
theorem de_dnew (o : Bool) {pos : Pos} : DE X W (.Dict [] [] pos) (fun _ m => newD o [] [] m) := by
  refine ⟨_, pe_dnewK, fun ρ loc m σ H Q rm rl h p hp => ?_⟩
  cases o with
  | false => exact h ρ _ _ (Le.fresh rm hp) (rm.fresh hp) (.dic (kvs := []) upd_same (rm.out hp) rfl .nil)
  | true => exact h (ρ ++ [some p]) _ _ (Le.push rm hp (Nat.le_refl _)) (rm.push hp ⟨[], upd_same, rfl, .nil⟩) (.obj (by rw [← rm.len]; simp))
end
section
variable {X : Cx} {W : WX}
/-- the pairs of a display -/
structure DP1 (X : Cx) (W : WX) (pos : Pos) (keys : List (Option Expr)) (values : List Expr) (f : Loc → Mem → R (List (D × D))) : Prop where
  ex : ∃ trs, PPs X pos keys values trs ∧ ∀ (ρ : Rho) (loc : Loc) (m : Mem) (σ : St) (H : Hp) (Q : List (V × V) → Hp → Prop), RM X.K ρ H m → RL X.K ρ H loc σ →
    GPost X.K W (fun ρ' H' (ds : List (D × D)) (vs : List (V × V)) => RVs X.K ρ' H' (ds.map (·.1)) (vs.map (·.1)) ∧ RVs X.K ρ' H' (ds.map (·.2)) (vs.map (·.2))) ρ σ H (f loc m) Q → tPairs trs σ H Q
def pNil : Loc → Mem → R (List (D × D)) := fun _ m => .ok [] m
def pCons (k v : EX) (r : Loc → Mem → R (List (D × D))) : Loc → Mem → R (List (D × D)) := bnd k fun x => bnd v fun y => bnd r fun ps _ m => .ok ((x, y) :: ps) m
theorem dp1_nil {pos : Pos} : DP1 X W pos [] [] pNil := ⟨⟨[], pps_nil, fun ρ loc m σ H Q rm rl h => h ρ H [] Le.refl rm ⟨.nil, .nil⟩⟩⟩
theorem dp1_cons {pos : Pos} {k v : Expr} {ks : List (Option Expr)} {vs : List Expr} {fk fv : EX} {fr : Loc → Mem → R (List (D × D))} (hk : DE X W k fk) (hv : DE X W v fv) (hr : DP1 X W pos ks vs fr) : DP1 X W pos (some k :: ks) (v :: vs) (pCons fk fv fr) := by
  obtain ⟨tk, pk, sk⟩ := hk
  obtain ⟨tv, pv, sv⟩ := hv
  obtain ⟨trs, pr, sr⟩ := hr.ex
  refine ⟨⟨(tk, tv) :: trs, pps_cons pk pv pr, fun ρ loc m σ H Q rm rl h => ?_⟩⟩
  refine sk.use rm rl h fun ρ1 m1 H1 d x l1 rm1 rl1 rx h1 => ?_
  refine sv.use rm1 rl1 h1 fun ρ2 m2 H2 e y l2 rm2 rl2 ry h2 => ?_
  have sr' : SemJ X.K W (fun ρ' H' (ds : List (D × D)) (vs : List (V × V)) => RVs X.K ρ' H' (ds.map (·.1)) (vs.map (·.1)) ∧ RVs X.K ρ' H' (ds.map (·.2)) (vs.map (·.2))) (fun σ H Q => tPairs trs σ H Q) fr := fun ρ loc m σ H Q rm rl h => sr ρ loc m σ H Q rm rl h
  refine sr'.use rm2 rl2 h2 fun ρ3 m3 H3 ds vs l3 rm3 rl3 rs h3 => ?_
  exact h3 ρ3 H3 _ Le.refl rm3 ⟨.cons ((rx.mono l2).mono l3) rs.1, .cons (ry.mono l3) rs.2⟩
def keysD : List (D × D) → Option (List Key)
  | [] => some []
  | p :: r => match keyD p.1, keysD r with
    | some q, some qs => some (q :: qs)
    | _, _ => none
def dicFin (o : Bool) (N : Nat) (m : Mem) (ks : List Key) (vs : List D) : R D := if o = true then .ok (.obj N) (m.set N (.dic ks vs)) else
  if (decide (m.length = N + 1) && D.unds N vs && Mem.und N (m.take N)) = true then .ok (.dic ks vs) (m.take N) else .bad
def eDisp (o : Bool) (f : Loc → Mem → R (List (D × D))) : EX := fun loc m => (f loc (m ++ [.dic [] []])).bind fun ps m' => match keysD ps, m'[m.length]? with
  | some ks, some (.dic [] []) => if ks.Nodup ∧ ks.length ≤ 15 then dicFin o m.length m' ks (ps.map (·.2)) else .bad
  | _, _ => .bad
theorem merge_nodup {α : Type} [DecidableEq α] : ∀ (kvs acc : List (Key × V)), (acc.map (·.1) ++ kvs.map (·.1)).Nodup → mergeK acc kvs = acc ++ kvs
  | [], acc, _ => by simp [mergeK]
  | p :: r, acc, h => by
    have hn : valV acc p.1 = none := by
      have h1 := valV_any p.1 acc
      cases q : valV acc p.1 with
      | none => rfl
      | some v =>
        rw [q] at h1
        obtain ⟨kv, hk, e⟩ := List.any_eq_true.mp h1
        have e := of_decide_eq_true e
        rw [List.nodup_append] at h
        exact absurd e (h.2.2 _ (List.mem_map_of_mem (f := (·.1)) hk) _ (by simp))
    show mergeK (putK acc p.1 p.2) r = _
    rw [putK_new _ hn, merge_nodup (α := α) r (acc ++ [(p.1, p.2)]) (by simpa using h)]
    simp
theorem keysD_ok {K : PySem.W.Frag} {ρ : Rho} {H : Hp} : ∀ {ps : List (D × D)} {vs : List (V × V)} {ks : List Key}, RVs K ρ H (ps.map (·.1)) (vs.map (·.1)) → keysD ps = some ks →
    ∃ kvs : List (Key × V), vs = kvs.map (fun kv => (kV kv.1, kv.2)) ∧ kvs.map (·.1) = ks
  | [], [], ks, _, h => by cases h; exact ⟨[], rfl, rfl⟩
  | [], _ :: _, _, r, _ => by cases r
  | _ :: _, [], _, r, _ => by cases r
  | p :: ps, v :: vs, ks, r, h => by
    rw [List.map_cons, List.map_cons] at r
    cases r with
    | cons r1 r2 =>
      unfold keysD at h
      split at h
      · rename_i q qs h1 h2
        cases h
        obtain ⟨kvs, e1, e2⟩ := keysD_ok r2 h2
        refine ⟨(q, v.2) :: kvs, ?_, by simp [e2]⟩
        rw [List.map_cons, ← e1, ← keyD_ok r1 h1]
      · cases h
theorem RM.dicAt {K : PySem.W.Frag} {ρ : Rho} {H : Hp} {m : Mem} (rm : RM K ρ H m) {n : Nat} {a : Addr} {ks : List Key} {ds : List D} (hn : ρ[n]? = some (some a)) (e : m[n]? = some (.dic ks ds)) : ∃ kvs, H a = some (.dK kvs) ∧ kvs.map (·.1) = ks ∧ RVs K ρ H ds (kvs.map (·.2)) := by
  obtain ⟨o, h1, h2⟩ := rm.at_ n a hn
  rw [e] at h1
  cases h1
  exact h2
theorem RM.dicSet {K : PySem.W.Frag} {ρ : Rho} {H : Hp} {m : Mem} (rm : RM K ρ H m) {n : Nat} {a : Addr} {ks : List Key} {ds : List D} {kvs : List (Key × V)} (hn : ρ[n]? = some (some a)) (ek : kvs.map (·.1) = ks) (r : RVs K ρ H ds (kvs.map (·.2))) :
    Le ρ.length ρ H ρ (upd H a (.dK kvs)) ∧ RM K ρ (upd H a (.dK kvs)) (m.set n (.dic ks ds)) :=
  ⟨Le.write hn, rm.write hn ⟨kvs, upd_same, ek, r.mono (Le.write hn)⟩⟩
theorem de_disp (o : Bool) {pos : Pos} {keys : List (Option Expr)} {values : List Expr} {f : Loc → Mem → R (List (D × D))} (h : DP1 X W pos keys values f) (hall : keys.all (·.isSome) = true := by rfl) (hl : keys.length = values.length := by rfl) (h0 : keys ≠ [] := by simp)
    (h15 : keys.length ≤ 15 := by decide) : DE X W (.Dict keys values pos) (eDisp o f) := by
  obtain ⟨trs, pp, sp⟩ := h.ex
  refine ⟨_, pe_disp pp hall hl h0 h15, fun ρ loc m σ H Q rm rl h p hp => ?_⟩
  have l2 : Le ρ.length ρ H (ρ ++ [some p]) (upd H p (.dK [])) := Le.push rm hp (Nat.le_refl _)
  have rm2 : RM X.K (ρ ++ [some p]) (upd H p (.dK [])) (m ++ [.dic [] []]) := rm.push hp ⟨[], upd_same, rfl, .nil⟩
  have hb2 : (ρ ++ [some p])[ρ.length]? = some (some p) := by simp
  refine sp _ loc _ σ _ _ rm2 (rl.mono l2) ?_
  unfold eDisp at h
  cases q : f loc (m ++ [.dic [] []]) with
  | bad => rw [q] at h; exact h.elim
  | err e m' =>
    rw [q] at h
    exact fun ρ' H' cls dd l rm' re => h ρ' H' cls dd (l2.trans (l.less l2.len)) rm' re
  | ok ps m' =>
    rw [q] at h
    intro ρ3 H3 vs l3 rm3 rs
    have l23 : Le ρ.length ρ H ρ3 H3 := l2.trans (l3.less l2.len)
    have hb3 : ρ3[ρ.length]? = some (some p) := by rw [l3.pre _ (List.getElem?_eq_some_iff.mp hb2).1]; exact hb2
    simp only [R.bind] at h
    split at h
    · rename_i ks hks hm
      rw [← rm.len] at hm
      obtain ⟨kvs0, hk0, ek0, _⟩ := rm3.dicAt hb3 hm
      cases kvs0 with
      | cons _ _ => simp at ek0
      | nil =>
      split at h
      · rename_i hn
        obtain ⟨kvs, e1, e2⟩ := keysD_ok rs.1 hks
        have ev : kvs.map (·.2) = vs.map (·.2) := by rw [e1, List.map_map]; rfl
        have hlen : kvs.length = ks.length := by rw [← e2, List.length_map]
        refine ⟨hk0, kvs, e1, by rw [hlen]; exact hn.2, ?_⟩
        rw [merge_nodup (α := Nat) kvs [] (by simpa [e2] using hn.1), List.nil_append]
        obtain ⟨l4, rm4⟩ := rm3.dicSet hb3 e2 (ds := ps.map (·.2)) (by rw [ev]; exact rs.2)
        unfold dicFin at h
        rw [← rm.len] at h
        cases o with
        | true =>
          exact h ρ3 _ _ (l23.trans (l4.less l23.len)) rm4 (.obj hb3)
        | false =>
          rw [if_neg (by decide)] at h
          split at h
          · rename_i hc
            rw [Bool.and_eq_true, Bool.and_eq_true] at hc
            obtain ⟨⟨c1, c2⟩, c3⟩ := hc
            have c1 := of_decide_eq_true c1
            have hl3 : ρ3.length = ρ.length + 1 := by rw [rm3.len, c1]
            have l5 : Le ρ.length ρ H ρ3 (upd H3 p (.dK kvs)) := l23.trans (l4.less l23.len)
            have rv : RVs X.K ρ3 (upd H3 p (.dK kvs)) (ps.map (·.2)) (kvs.map (·.2)) := by
              rw [ev]; exact rs.2.mono l4
            have em : (m'.set ρ.length (.dic ks (ps.map (·.2)))).take ρ.length = m'.take ρ.length := by
              rw [List.take_set_of_le (Nat.le_refl _)]
            have rm5 := rm4.cut (N := ρ.length) (by rw [em]; exact c3)
            rw [em] at rm5
            refine h (ρ3.take ρ.length) _ _ (l5.cut rfl) rm5 (.dic upd_same ?_ e2 (rv.cut c2))
            intro z
            obtain ⟨j, hj⟩ := List.getElem?_of_mem z
            rw [List.getElem?_take] at hj
            split at hj
            · rename_i hlt
              have := rm3.inj j ρ.length p hj hb3
              omega
            · cases hj
          · exact h.elim
      · exact h.elim
    · exact h.elim
end
end DL

/-! DKit: isinstance by built-in types, names of built-ins. -/
namespace DL
open PySem PySem.Spec PyProof.Rows L2
def tyNames : List String := ["NoneType", "bool", "int", "str", "tuple", "list", "dict"]
/-- isinstance of a datum of a built-in type -/
def kitT (T : List String) (t : Value) : Option Bool := match t with
  | .type s => if s ∈ tyNames then some (decide (s ∈ T) || (decide ("int" ∈ T) && decide (s = "bool"))) else none
  | _ => none
section
variable {K : PySem.W.Frag}
theorem kit_cases {T : List String} {t : Value} {b : Bool} (h : kitT T t = some b) : ∃ s, t = .type s ∧ s ∈ tyNames ∧ b = (decide (s ∈ T) || (decide ("int" ∈ T) && decide (s = "bool"))) := by
  unfold kitT at h
  split at h
  · rename_i s
    split at h
    · rename_i hs
      exact ⟨s, rfl, hs, (Option.some.inj h).symm⟩
    · cases h
  · cases h
theorem ty_cases {P : String → Prop} (h : P "NoneType" ∧ P "bool" ∧ P "int" ∧ P "str" ∧ P "tuple" ∧ P "list" ∧ P "dict") : ∀ s, s ∈ tyNames → P s := by
  intro s hs
  simp only [tyNames, List.mem_cons, List.not_mem_nil, or_false] at hs
  obtain ⟨h1, h2, h3, h4, h5, h6, h7⟩ := h
  rcases hs with e | e | e | e | e | e | e <;> rw [e] <;> assumption
theorem kit_one {u : Value} {T : List String} (h : ∀ s, s ∈ tyNames → PySem.W.kitOne K (.type s) u = some (decide (s ∈ T) || (decide ("int" ∈ T) && decide (s = "bool")))) (t : Value) (b : Bool) (e : kitT T t = some b) :
    PySem.W.kitOne K t u = some b ∧ ∀ C, t = .ref C → KC K C := by
  obtain ⟨s, e1, hs, e2⟩ := kit_cases e
  subst e1 e2
  exact ⟨h s hs, fun C z => by cases z⟩
theorem kit_int : ∀ t b, kitT ["int"] t = some b → PySem.W.kitOne K t (.type "int") = some b ∧ ∀ C, t = .ref C → KC K C :=
  kit_one (ty_cases ⟨by with_unfolding_all rfl, by with_unfolding_all rfl, by with_unfolding_all rfl, by with_unfolding_all rfl, by with_unfolding_all rfl, by with_unfolding_all rfl, by with_unfolding_all rfl⟩)
theorem kit_bool : ∀ t b, kitT ["bool"] t = some b → PySem.W.kitOne K t (.type "bool") = some b ∧ ∀ C, t = .ref C → KC K C :=
  kit_one (ty_cases ⟨by with_unfolding_all rfl, by with_unfolding_all rfl, by with_unfolding_all rfl, by with_unfolding_all rfl, by with_unfolding_all rfl, by with_unfolding_all rfl, by with_unfolding_all rfl⟩)
theorem kit_str : ∀ t b, kitT ["str"] t = some b → PySem.W.kitOne K t (.type "str") = some b ∧ ∀ C, t = .ref C → KC K C :=
  kit_one (ty_cases ⟨by with_unfolding_all rfl, by with_unfolding_all rfl, by with_unfolding_all rfl, by with_unfolding_all rfl, by with_unfolding_all rfl, by with_unfolding_all rfl, by with_unfolding_all rfl⟩)
theorem kit_tuple : ∀ t b, kitT ["tuple"] t = some b → PySem.W.kitOne K t (.type "tuple") = some b ∧ ∀ C, t = .ref C → KC K C :=
  kit_one (ty_cases ⟨by with_unfolding_all rfl, by with_unfolding_all rfl, by with_unfolding_all rfl, by with_unfolding_all rfl, by with_unfolding_all rfl, by with_unfolding_all rfl, by with_unfolding_all rfl⟩)
theorem kit_list : ∀ t b, kitT ["list"] t = some b → PySem.W.kitOne K t (.type "list") = some b ∧ ∀ C, t = .ref C → KC K C :=
  kit_one (ty_cases ⟨by with_unfolding_all rfl, by with_unfolding_all rfl, by with_unfolding_all rfl, by with_unfolding_all rfl, by with_unfolding_all rfl, by with_unfolding_all rfl, by with_unfolding_all rfl⟩)
theorem kit_dict : ∀ t b, kitT ["dict"] t = some b → PySem.W.kitOne K t (.type "dict") = some b ∧ ∀ C, t = .ref C → KC K C :=
  kit_one (ty_cases ⟨by with_unfolding_all rfl, by with_unfolding_all rfl, by with_unfolding_all rfl, by with_unfolding_all rfl, by with_unfolding_all rfl, by with_unfolding_all rfl, by with_unfolding_all rfl⟩)
theorem kit_two {u v : Value} {T : List String} (h : ∀ s, s ∈ tyNames → PySem.W.kitAny K (.type s) [u, v] = some (decide (s ∈ T) || (decide ("int" ∈ T) && decide (s = "bool")))) (t : Value) (b : Bool) (e : kitT T t = some b) :
    PySem.W.kitAny K t [u, v] = some b ∧ ∀ C, t = .ref C → KC K C := by
  obtain ⟨s, e1, hs, e2⟩ := kit_cases e
  subst e1 e2
  exact ⟨h s hs, fun C z => by cases z⟩
theorem kit_list_tuple : ∀ t b, kitT ["list", "tuple"] t = some b → PySem.W.kitAny K t [.type "list", .type "tuple"] = some b ∧ ∀ C, t = .ref C → KC K C :=
  kit_two (ty_cases ⟨by with_unfolding_all rfl, by with_unfolding_all rfl, by with_unfolding_all rfl, by with_unfolding_all rfl, by with_unfolding_all rfl, by with_unfolding_all rfl, by with_unfolding_all rfl⟩)
def kitC (C : Addr) (t : Value) : Option Bool := if t = .ref C then some true else none
theorem kit_cls {C : Addr} (c : KC K C) : ∀ t b, kitC C t = some b → PySem.W.kitOne K t (.ref C) = some b ∧ ∀ C, t = .ref C → KC K C := fun t b e => by
  unfold kitC at e
  split at e
  · rename_i h
    subst h
    cases e
    refine ⟨?_, fun C' z => by cases z; exact c⟩
    unfold PySem.W.kitOne
    rw [if_pos (by simp)]
  · cases e
end
theorem bb_len : bootBuiltins "len" = some (.builtin "len") := by decide +kernel
theorem bb_abs : bootBuiltins "abs" = some (.builtin "abs") := by decide +kernel
theorem bb_max : bootBuiltins "max" = some (.builtin "max") := by decide +kernel
theorem bb_min : bootBuiltins "min" = some (.builtin "min") := by decide +kernel
theorem bb_sum : bootBuiltins "sum" = some (.builtin "sum") := by decide +kernel
theorem bb_divmod : bootBuiltins "divmod" = some (.builtin "divmod") := by decide +kernel
theorem bb_int : bootBuiltins "int" = some (.type "int") := by decide +kernel
theorem bb_bool : bootBuiltins "bool" = some (.type "bool") := by decide +kernel
theorem bb_str : bootBuiltins "str" = some (.type "str") := by decide +kernel
theorem bb_list : bootBuiltins "list" = some (.type "list") := by decide +kernel
theorem bb_tuple : bootBuiltins "tuple" = some (.type "tuple") := by decide +kernel
theorem bb_dict : bootBuiltins "dict" = some (.type "dict") := by decide +kernel
section
variable {X : Cx}
theorem cr_len : CallR X (.builtin "len") (rLen X.K) := call_len
end
/-- turns enough for a while -/
def FU : Nat := 1000000
abbrev oLt : D → D → Mem → R D := oCmpI fun i j => decide (i < j)
abbrev oLe : D → D → Mem → R D := oCmpI fun i j => decide (i ≤ j)
abbrev oGt : D → D → Mem → R D := oCmpI fun i j => decide (j < i)
abbrev oGe : D → D → Mem → R D := oCmpI fun i j => decide (j ≤ i)
/-- a def of the text under its name -/
def FunAt (K : PySem.W.Frag) (mg : Str → Option Value) (x : Str) (ps : List Str) (st : Stmt) : Prop :=
  ∃ (f : Addr) (fd : FuncData), mg x = some (.ref f) ∧ PySem.W.keepIn K (.ref f) = true ∧ Binds K fd ps [] ∧ Fun K x x st f fd
def MethAt (K : PySem.W.Frag) (C : Addr) (x qual : Str) (ps : List Str) (st : Stmt) : Prop :=
  ∃ (f : Addr) (fd : FuncData), Meth K C x f ∧ PySem.W.isFn K (.ref f) = true ∧ PySem.W.fnIn K f = true ∧ Binds K fd ps [] ∧ Fun K x qual st f fd
def MakeAt (K : PySem.W.Frag) (mg : Str → Option Value) (x : Str) (C : Addr) (qual : Str) (ps : List Str) (st : Stmt) : Prop :=
  ∃ (f : Addr) (fd : FuncData), mg x = some (.ref C) ∧ Mk K C f ∧ Binds K fd ps [] ∧ Fun K "__init__" qual st f fd
section
variable {P : Program} {w : World} {K : PySem.W.Frag} {mg : Str → Option Value} {base : Heap} {k : Nat} {x qual : Str} {ps N : List Str} {st : Stmt} {C : Addr} {b : SX}
theorem def_ok (F : FunAt K mg x ps st) (S : FnScope N ps (defScope st))
    (hb : ∀ (f : Addr) (cdv : Value) (A : Around) (outer : List Env) (s : Shared) (H : Hp) (E : XK), Ctx (cxOf (L2.CX P w) P w K mg base N x (defScope st) f cdv A outer s H E) (fun cls d _ H => E cls d H) k →
      DSs (cxOf (L2.CX P w) P w K mg base N x (defScope st) f cdv A outer s H E) (fun cls d _ H => E cls d H) (defBody st) b) :
    DefOk P w K mg base (k + 1) x ps (runD N.length b) := by
  obtain ⟨f, fd, h1, h2, h3, h4⟩ := F
  exact ⟨f, fd, h1, h2, h3, fn_D h4 S (hb f)⟩
theorem meth_ok (F : MethAt K C x qual ps st) (S : FnScope N ps (defScope st))
    (hb : ∀ (f : Addr) (cdv : Value) (A : Around) (outer : List Env) (s : Shared) (H : Hp) (E : XK), Ctx (cxOf (L2.CX P w) P w K mg base N qual (defScope st) f cdv A outer s H E) (fun cls d _ H => E cls d H) k →
      DSs (cxOf (L2.CX P w) P w K mg base N qual (defScope st) f cdv A outer s H E) (fun cls d _ H => E cls d H) (defBody st) b) :
    MethOk P w K mg base (k + 1) C x ps (runD N.length b) := by
  obtain ⟨f, fd, h1, h2, h3, h4, h5⟩ := F
  exact ⟨f, fd, h1, h2, h3, h4, fn_D h5 S (hb f)⟩
theorem make_ok (F : MakeAt K mg x C qual ps st) (S : FnScope N ps (defScope st))
    (hb : ∀ (f : Addr) (cdv : Value) (A : Around) (outer : List Env) (s : Shared) (H : Hp) (E : XK), Ctx (cxOf (L2.CX P w) P w K mg base N qual (defScope st) f cdv A outer s H E) (fun cls d _ H => E cls d H) k →
      DSs (cxOf (L2.CX P w) P w K mg base N qual (defScope st) f cdv A outer s H E) (fun cls d _ H => E cls d H) (defBody st) b) :
    MakeOk P w K mg base (k + 1) x C ps (runD N.length b) := by
  obtain ⟨f, fd, h1, h2, h3, h4⟩ := F
  exact ⟨f, fd, h1, h2, h3, fn_D h4 S (hb f)⟩
end
end DL

/-! DHead: what the head gives; the end of a law over data. -/
namespace DL
open PySem PySem.Spec PyProof.Rows L2
section
variable {K : PySem.W.Frag} {h : Heap} {mg : Str → Option Value} {x m qual : Str} {ps : List Str} {st : Stmt} {f C A B N : Addr} {oc kV doc pm cdv ct : Value} {od an : Option Addr} {osl : Array (Option Value)}
theorem fn_mk (l : K.lookup f = some ⟨oc, od, .func (PySem.W.fnOf x qual (defArgs st) (defBody st) (defScope st) .none kV doc pm an cdv ct), osl⟩) (c : PySem.W.codeIn K cdv qual = true) (k : PySem.W.keepIn K (.ref f) = true) : ∃ fd, Fun K x qual st f fd := ⟨_, fun_mk l c k⟩
theorem funAt_mk (X : K.In h) (G : h.Ns mainGlobals mg) (hb : ∀ (kV doc pm : Value) (an : Option Addr) (cdv ct : Value) (us : List Value), us.length = ps.length → bindArgs (PySem.W.fnOf x x (defArgs st) (defBody st) (defScope st) .none kV doc pm an cdv ct) ⟨us, []⟩ = pure (ps.zip us))
    (a : PySem.W.nsIn K mainGlobals x = some (some (.ref f))) (l : K.lookup f = some ⟨oc, od, .func (PySem.W.fnOf x x (defArgs st) (defBody st) (defScope st) .none kV doc pm an cdv ct), osl⟩) (c : PySem.W.codeIn K cdv x = true) (k : PySem.W.keepIn K (.ref f) = true) : FunAt K mg x ps st :=
  ⟨f, _, PySem.W.mg_of X G a, k, (fun_mk l c k).binds hb, fun_mk l c k⟩
theorem methAt_mk (hb : ∀ (kV doc pm : Value) (an : Option Addr) (cdv ct : Value) (us : List Value), us.length = ps.length → bindArgs (PySem.W.fnOf x qual (defArgs st) (defBody st) (defScope st) .none kV doc pm an cdv ct) ⟨us, []⟩ = pure (ps.zip us))
    (a : PySem.W.findIn K (.ref C) x = some (some (.ref f))) (i : PySem.W.isFn K (.ref f) = true) (l : K.lookup f = some ⟨oc, od, .func (PySem.W.fnOf x qual (defArgs st) (defBody st) (defScope st) .none kV doc pm an cdv ct), osl⟩) (c : PySem.W.codeIn K cdv qual = true) (k : PySem.W.keepIn K (.ref f) = true) (n : PySem.W.fnIn K f = true) : MethAt K C x qual ps st :=
  ⟨f, _, ⟨a, i, k⟩, i, n, (fun_mk l c k).binds hb, fun_mk l c k⟩
theorem makeAt_mk (g : mg x = some (.ref C)) (hb : ∀ (kV doc pm : Value) (an : Option Addr) (cdv ct : Value) (us : List Value), us.length = ps.length → bindArgs (PySem.W.fnOf "__init__" qual (defArgs st) (defBody st) (defScope st) .none kV doc pm an cdv ct) ⟨us, []⟩ = pure (ps.zip us))
    (a : PySem.W.findIn K (.ref C) "__init__" = some (some (.ref f))) (i : PySem.W.isFn K (.ref f) = true) (l : K.lookup f = some ⟨oc, od, .func (PySem.W.fnOf "__init__" qual (defArgs st) (defBody st) (defScope st) .none kV doc pm an cdv ct), osl⟩) (c : PySem.W.codeIn K cdv qual = true) (k : PySem.W.keepIn K (.ref f) = true)
    (mk : PySem.W.makesIn K C = true) (kc : PySem.W.keepIn K (.ref C) = true) : MakeAt K mg x C qual ps st :=
  ⟨f, _, g, ⟨mk, a, i, kc⟩, (fun_mk l c k).binds hb, fun_mk l c k⟩
theorem name_mk (X : K.In h) (G : h.Ns mainGlobals mg) {v : Value} (a : PySem.W.nsIn K mainGlobals x = some (some v)) : mg x = some v := PySem.W.mg_of X G a
theorem gone_mk (X : K.In h) (G : h.Ns mainGlobals mg) (a : PySem.W.nsIn K mainGlobals x = some none) : mg x = none := PySem.W.mg_none_of X G a
theorem at_mk (X : K.In h) (G : h.Ns mainGlobals mg) (a : PySem.W.nsIn K mainGlobals x = some (some (.ref C))) : mg x = some (.ref C) := PySem.W.mg_of X G a
theorem cls_mk (pg : PySem.W.plainGet K C Str.empty = true) (hd : PySem.W.hasDictIn K C = true) (po : PySem.W.plainOver K C = true) (sa : PySem.W.findIn K (.ref C) "__setattr__" = some (some (.builtin "object.__setattr__"))) : Cls K C := ⟨pg, hd, po, sa⟩
theorem kc_mk (cl : Cls K C) (ha : PySem.W.findIn K (.ref C) "__class__" = some (some (.builtin "object.__class__"))) (hn : PySem.W.specialIn K (.builtin "object.__class__") "__get__" = some (some (.builtin "getset_descriptor.__get__"))) (ht : PySem.W.takesIn K (.builtin "object.__class__") = some true)
    (hm : PySem.W.mroIn K C (.type "object") = some true) : KC K C := ⟨cl, ha, hn, ht, hm⟩
theorem na_mk (n : PySem.W.findIn K (.ref C) x = some none) : NoAttr K C x := n
theorem exm_mk (h1 : PySem.W.subIn K (.ref B) (.type "BaseException") = some true) (h2 : PySem.W.isClsIn K B = true) (h3 : PySem.W.typeIn K (.ref B) = some (.type "type")) (h4 : PySem.W.subIn K (.ref A) (.ref B) = some true) : PySem.W.exmOne K (.ref A) (.ref B) = some true := by
  have e1 : (PySem.W.subIn K (.ref B) (.type "BaseException") == some true) = true := by rw [h1] <;> rfl
  have e2 : ((PySem.W.clsIn K B).isSome && PySem.W.typeIn K (.ref B) == some (.type "type")) = true := by
    have h2' : (PySem.W.clsIn K B).isSome = true := h2
    rw [h2', h3] <;> rfl
  unfold PySem.W.exmOne
  rw [if_pos e1]
  unfold PySem.W.kitCls
  dsimp only
  rw [if_pos e2]
  exact h4
theorem kit_self : PySem.W.kitOne K (.ref A) (.ref A) = some true := by
  unfold PySem.W.kitOne
  rw [if_pos (by simp)]
theorem excT_mk (g : mg x = some (.ref C)) (kp : PySem.W.keepIn K (.ref C) = true) (sb : PySem.W.subIn K (.ref C) (.type "BaseException") = some true) (ty : PySem.W.typeIn K (.ref C) = some (.type "type"))
    (ex : PySem.W.excIn K C [.type "ValueError", .type "Exception", .type "BaseException", .type "object"] "ValueError.__new__" = true) : ExcT K mg x C := ⟨ex, g, kp, sb, ty⟩
theorem excC_mk (hg : PySem.W.findIn K (.ref C) "__getattribute__" = some (some (.builtin "BaseException.__getattribute__"))) (hk : PySem.W.findIn K (.ref C) "__getattr__" = some none) (hs : PySem.W.subIn K (.ref C) (.type "BaseException") = some true) (hd : PySem.W.hasDictIn K C = true)
    (ha : PySem.W.findIn K (.ref C) "__class__" = some (some (.builtin "object.__class__"))) (hn : PySem.W.specialIn K (.builtin "object.__class__") "__get__" = some (some (.builtin "getset_descriptor.__get__"))) (ht : PySem.W.takesIn K (.builtin "object.__class__") = some true)
    (hm : PySem.W.mroIn K C (.type "object") = some true) : ExcC K C := ⟨hg, hk, hs, hd, ha, hn, ht, hm⟩
end
section
variable {K : PySem.W.Frag} {h : Heap} {mg : Str → Option Value} {x m qual : Str} {ps : List Str} {st : Stmt} {f C A B N : Addr} {oc kV doc pm cdv ct : Value} {od an : Option Addr} {osl : Array (Option Value)} {R : Prop}
theorem name_then (x : Str) (X : K.In h) (G : h.Ns mainGlobals mg) (a : PySem.W.nsIn K mainGlobals x = some (some (.ref C))) (r : mg x = some (.ref C) → R) : R := r (PySem.W.mg_of X G a)
theorem cls_then (_ : K.In h) (_ : mg x = some (.ref C)) (pg : PySem.W.plainGet K C Str.empty = true) (hd : PySem.W.hasDictIn K C = true) (po : PySem.W.plainOver K C = true) (sa : PySem.W.findIn K (.ref C) "__setattr__" = some (some (.builtin "object.__setattr__"))) (r : Cls K C → R) : R := r ⟨pg, hd, po, sa⟩
theorem kc_then (cl : Cls K C) (ha : PySem.W.findIn K (.ref C) "__class__" = some (some (.builtin "object.__class__"))) (hn : PySem.W.specialIn K (.builtin "object.__class__") "__get__" = some (some (.builtin "getset_descriptor.__get__"))) (ht : PySem.W.takesIn K (.builtin "object.__class__") = some true)
    (hm : PySem.W.mroIn K C (.type "object") = some true) (r : KC K C → R) : R := r ⟨cl, ha, hn, ht, hm⟩
theorem sf_then (_ : Cls K C) (a : PySem.W.selfFirst K C = true) (r : PySem.W.selfFirst K C = true → R) : R := r a
theorem na_then (x : Str) (_ : Cls K C) (a : PySem.W.findIn K (.ref C) x = some none) (r : NoAttr K C x → R) : R := r a
theorem excT_then (_ : K.In h) (g : mg x = some (.ref C)) (kp : PySem.W.keepIn K (.ref C) = true) (sb : PySem.W.subIn K (.ref C) (.type "BaseException") = some true) (ty : PySem.W.typeIn K (.ref C) = some (.type "type"))
    (ex : PySem.W.excIn K C [.type "ValueError", .type "Exception", .type "BaseException", .type "object"] "ValueError.__new__" = true) (r : ExcT K mg x C → R) : R := r ⟨ex, g, kp, sb, ty⟩
theorem excC_then (_ : K.In h) (_ : mg x = some (.ref C)) (hg : PySem.W.findIn K (.ref C) "__getattribute__" = some (some (.builtin "BaseException.__getattribute__"))) (hk : PySem.W.findIn K (.ref C) "__getattr__" = some none) (hs : PySem.W.subIn K (.ref C) (.type "BaseException") = some true) (hd : PySem.W.hasDictIn K C = true)
    (ha : PySem.W.findIn K (.ref C) "__class__" = some (some (.builtin "object.__class__"))) (hn : PySem.W.specialIn K (.builtin "object.__class__") "__get__" = some (some (.builtin "getset_descriptor.__get__"))) (ht : PySem.W.takesIn K (.builtin "object.__class__") = some true)
    (hm : PySem.W.mroIn K C (.type "object") = some true) (r : ExcC K C → R) : R := r ⟨hg, hk, hs, hd, ha, hn, ht, hm⟩
theorem exm_then {y : Str} (_ : K.In h) (_ : mg x = some (.ref A)) (_ : mg y = some (.ref B)) (h1 : PySem.W.subIn K (.ref B) (.type "BaseException") = some true) (h2 : PySem.W.isClsIn K B = true) (h3 : PySem.W.typeIn K (.ref B) = some (.type "type")) (h4 : PySem.W.subIn K (.ref A) (.ref B) = some true)
    (r : PySem.W.exmOne K (.ref A) (.ref B) = some true → R) : R := r (exm_mk h1 h2 h3 h4)
theorem fun_then (x : Str) (ps : List Str) (st : Stmt) (X : K.In h) (G : h.Ns mainGlobals mg) (hb : ∀ (kV doc pm : Value) (an : Option Addr) (cdv ct : Value) (us : List Value), us.length = ps.length → bindArgs (PySem.W.fnOf x x (defArgs st) (defBody st) (defScope st) .none kV doc pm an cdv ct) ⟨us, []⟩ = pure (ps.zip us))
    (a : PySem.W.nsIn K mainGlobals x = some (some (.ref f))) (l : K.lookup f = some ⟨oc, od, .func (PySem.W.fnOf x x (defArgs st) (defBody st) (defScope st) .none kV doc pm an cdv ct), osl⟩) (c : PySem.W.codeIn K cdv x = true) (k : PySem.W.keepIn K (.ref f) = true) (r : FunAt K mg x ps st → R) : R := r (funAt_mk X G hb a l c k)
theorem meth_then (x qual : Str) (ps : List Str) (st : Stmt) (_ : Cls K C) (hb : ∀ (kV doc pm : Value) (an : Option Addr) (cdv ct : Value) (us : List Value), us.length = ps.length → bindArgs (PySem.W.fnOf x qual (defArgs st) (defBody st) (defScope st) .none kV doc pm an cdv ct) ⟨us, []⟩ = pure (ps.zip us))
    (a : PySem.W.findIn K (.ref C) x = some (some (.ref f))) (i : PySem.W.isFn K (.ref f) = true) (l : K.lookup f = some ⟨oc, od, .func (PySem.W.fnOf x qual (defArgs st) (defBody st) (defScope st) .none kV doc pm an cdv ct), osl⟩) (c : PySem.W.codeIn K cdv qual = true) (k : PySem.W.keepIn K (.ref f) = true) (n : PySem.W.fnIn K f = true)
    (r : MethAt K C x qual ps st → R) : R := r (methAt_mk hb a i l c k n)
theorem make_then (qual : Str) (ps : List Str) (st : Stmt) (_ : K.In h) (g : mg x = some (.ref C)) (hb : ∀ (kV doc pm : Value) (an : Option Addr) (cdv ct : Value) (us : List Value), us.length = ps.length → bindArgs (PySem.W.fnOf "__init__" qual (defArgs st) (defBody st) (defScope st) .none kV doc pm an cdv ct) ⟨us, []⟩ = pure (ps.zip us))
    (a : PySem.W.findIn K (.ref C) "__init__" = some (some (.ref f))) (i : PySem.W.isFn K (.ref f) = true) (l : K.lookup f = some ⟨oc, od, .func (PySem.W.fnOf "__init__" qual (defArgs st) (defBody st) (defScope st) .none kV doc pm an cdv ct), osl⟩) (c : PySem.W.codeIn K cdv qual = true) (k : PySem.W.keepIn K (.ref f) = true)
    (mk : PySem.W.makesIn K C = true) (kc : PySem.W.keepIn K (.ref C) = true) (r : MakeAt K mg x C qual ps st → R) : R := r (makeAt_mk g hb a i l c k mk kc)
/-- the law's own def -/
theorem top_then {fa : Addr} (x : Str) (ps : List Str) (st : Stmt) (X : K.In h) (G : h.Ns mainGlobals mg) (hfa : mg x = some (.ref fa)) (hb : ∀ (kV doc pm : Value) (an : Option Addr) (cdv ct : Value), ∀ (s : Shared) (u : Value), BindsTo s (PySem.W.fnOf x x (defArgs st) (defBody st) (defScope st) .none kV doc pm an cdv ct) ⟨[u], []⟩ [("script", u)])
    (a : PySem.W.nsIn K mainGlobals x = some (some (.ref f))) (l : K.lookup f = some ⟨oc, od, .func (PySem.W.fnOf x x (defArgs st) (defBody st) (defScope st) .none kV doc pm an cdv ct), osl⟩) (c : PySem.W.codeIn K cdv x = true) (k : PySem.W.keepIn K (.ref f) = true)
    (r : ∀ fd : FuncData, Fun K x x st fa fd → (∀ (s : Shared) (u : Value), BindsTo s fd ⟨[u], []⟩ [("script", u)]) → R) : R := by
  have e := hfa.symm.trans (PySem.W.mg_of X G a)
  cases e
  exact r _ (fun_mk l c k) (hb _ _ _ _ _ _)
end
theorem ints_rel {K : PySem.W.Frag} {ρ : Rho} {H : Hp} : ∀ ns : List Int, RVs K ρ H (ns.map D.int) (ns.map V.int)
  | [] => .nil
  | _ :: r => .cons (.int _) (ints_rel r)
/-- THE END: a law by its mirror -/
theorem walk_D {l : PySem.W.OpenLaw} {n k : Nat} {q : Program} {loose : List Str} {XP : (Str → Option Value) → Heap → Prop} {YP : World → Heap → Prop} {d : DefRec} {K : Params → PySem.W.Frag} {x : Str}
    (hn : l.most = some n) (hn2 : n ≤ sizeLine) (hdf : d.params.defaults = []) (hr : Room k callerA)
    (hY : ∀ (w : World) (h : Heap), YP w h → (K w.params).In h)
    (F : ∀ (w : World) (mg : Str → Option Value) (fa : Addr) (h : Heap), (K w.params).In h → h.Ns mainGlobals mg → mg d.name = some (.ref fa) →
      ∃ (fd : FuncData) (g : List D → Mem → R D), (∀ (s : Shared) (u : Value), BindsTo s fd ⟨[u], []⟩ [(x, u)]) ∧
        (∀ base : Heap, FnOk l.prog w (K w.params) mg base (L2.CX l.prog w) k fa fd [x] (spD (K w.params) 1 g)) ∧
        ∀ ns : List Int, ns.length ≤ n → (∀ z ∈ ns, Builtin.Int.intBits z ≤ 1048576) → ∃ m, g [.ro (ns.map D.int)] [] = .ok (.bl true) m) :
    PySem.W.WalkO q loose XP YP l.row.toRowW d [] (fun f vs => PySem.call f vs) := by
  refine Att.attach_callB hn hdf fun w s₀ s₁ mg mb fa o pm cd doc a vs ns G Y ho hd hcd hmg hobj hints hlen hbits hg => ?_
  have KX := hY w _ Y
  obtain ⟨fd, g, hb, hF, hsp⟩ := F w mg fa _ KX G.T.g hmg
  refine law_call (sp := spD (K w.params) 1 g) (CX := L2.CX l.prog w) KX G.T.g G.T.b G.T.builtins G.T.nolimit hg hobj hints (Nat.le_trans hlen hn2) hr (fun base _ _ => hF base) hb (fun H hO hS => ?_) fun H e s' => ?_
  · obtain ⟨m, e⟩ := hsp ns hlen hbits
    refine ⟨rfl, [], [.ro (ns.map D.int)], [], ⟨rfl, fun n a h => by simp at h, fun n n' a h => by simp at h⟩, .cons (.ro (hS.elim (fun z => .inl ⟨z, by simp⟩) .inr) (ints_rel ns)) .nil, ?_⟩
    rw [e]
    intro ρ' H' v l rm rv
    cases rv
    rfl
  · rintro ⟨_, _, _, _, _, _, _, _, _, _, _, _, h⟩
    exact h
end DL

/-! DEval: rules to run mirrors by simp. -/
namespace DL
open PySem PySem.Spec PyProof.Rows L2
/-- keeps simp out of what comes later -/
inductive Tag {α : Type} (a : α) : Type where
  | mk
/-- r, then k -/
def R.bd {α β : Type} (r : R α) (k : α → Mem → R β) (_ : Tag k) : R β := r.bind k
def R.os {α : Type} (r : R α) (loc : Loc) (k : α → Mem → SR) (_ : Tag k) : SR := ofR r loc k
def SR.seq (r : SR) (g : Loc → Mem → SR) (_ : Tag g) : SR := match r with
  | .nx l m' => g l m'
  | r => r
section
variable {α β : Type} {a : α} {m m' : Mem} {loc : Loc} {N : Nat}
@[simp] theorem rbind_ok (k : α → Mem → R β) {t : Tag k} : (R.ok a m).bd k t = k a m := id rfl
@[simp] theorem rbind_err (e : Ex) (k : α → Mem → R β) {t : Tag k} : (R.err e m : R α).bd k t = .err e m := id rfl
@[simp] theorem rbind_bad (k : α → Mem → R β) {t : Tag k} : (R.bad : R α).bd k t = .bad := id rfl
@[simp] theorem ev_bnd (f : Loc → Mem → R α) (k : α → Loc → Mem → R β) : bnd f k loc m = (f loc m).bd (fun a m' => k a loc m') .mk := id rfl
@[simp] theorem ofR_ok (k : α → Mem → SR) {t : Tag k} : (R.ok a m).os loc k t = k a m := id rfl
@[simp] theorem ofR_err (e : Ex) (k : α → Mem → SR) {t : Tag k} : (R.err e m : R α).os loc k t = .err e loc m := id rfl
@[simp] theorem ev_var0 {d : D} {r : Loc} : eVar 0 (some d :: r) m = .ok d m := id rfl
@[simp] theorem ev_varS {i : Nat} {o : Option D} {r : Loc} : eVar (i + 1) (o :: r) m = eVar i r m := by
  unfold eVar; rw [List.getElem?_cons_succ]
@[simp] theorem ev_c {d : D} : eC d loc m = .ok d m := id rfl
@[simp] theorem ev_e1 (f : D → Mem → R D) (x : EX) : e1 f x loc m = (x loc m).bd (fun d m => f d m) .mk := id rfl
@[simp] theorem ev_e2 (f : D → D → Mem → R D) (x y : EX) : e2 f x y loc m = (x loc m).bd (fun d m => (y loc m).bd (fun e m => f d e m) .mk) .mk := id rfl
@[simp] theorem ev_call (f : List D → Mem → R D) (as : EL) : eCall f as loc m = (as loc m).bd (fun xs m => f xs m) .mk := id rfl
@[simp] theorem ev_aNil : aNil loc m = .ok [] m := id rfl
@[simp] theorem ev_aCons (x : EX) (as : EL) : aCons x as loc m = (x loc m).bd (fun d m => (as loc m).bd (fun xs m => .ok (d :: xs) m) .mk) .mk := id rfl
@[simp] theorem ev_tup (as : EL) : eTup as loc m = (as loc m).bd (fun xs m => newT xs m) .mk := id rfl
@[simp] theorem ev_lst (o : Bool) (as : EL) : eLst o as loc m = (as loc m).bd (fun xs m => newLs o xs m) .mk := id rfl
@[simp] theorem ev_if (c : ET) (x y : EX) : eIf c x y loc m = (c loc m).bd (fun b m => (if b = true then x else y) loc m) .mk := id rfl
def andK (d : D) (r : R D) (m : Mem) (_ : Tag r) : R D := match d with
  | .bl true => r
  | .bl false => .ok (.bl false) m
  | _ => .bad
def orK (d : D) (r : R D) (m : Mem) (_ : Tag r) : R D := match d with
  | .bl false => r
  | .bl true => .ok (.bl true) m
  | _ => .bad
def notK (d : D) (m : Mem) : R D := match d with
  | .bl b => .ok (.bl (!b)) m
  | _ => .bad
@[simp] theorem andK_bl {b : Bool} {r : R D} {t : Tag r} : andK (.bl b) r m t = if b = true then r else .ok (.bl false) m := by cases b <;> rfl
@[simp] theorem orK_bl {b : Bool} {r : R D} {t : Tag r} : orK (.bl b) r m t = if b = true then .ok (.bl true) m else r := by cases b <;> rfl
@[simp] theorem notK_bl {b : Bool} : notK (.bl b) m = .ok (.bl (!b)) m := id rfl
@[simp] theorem ev_and (x y : EX) : eAnd x y loc m = (x loc m).bd (fun d m => andK d (y loc m) m .mk) .mk := by
  unfold eAnd bnd R.bd
  congr 1; funext d m
  cases d with
  | bl b => cases b <;> rfl
  | _ => rfl
@[simp] theorem ev_or (x y : EX) : eOr x y loc m = (x loc m).bd (fun d m => orK d (y loc m) m .mk) .mk := by
  unfold eOr bnd R.bd
  congr 1; funext d m
  cases d with
  | bl b => cases b <;> rfl
  | _ => rfl
@[simp] theorem ev_not (x : EX) : eNot x loc m = (x loc m).bd (fun d m => notK d m) .mk := id rfl
@[simp] theorem tru_bl {b : Bool} : tru (.bl b) m = .ok b m := id rfl
@[simp] theorem ev_tTru (x : EX) : tTru x loc m = (x loc m).bd (fun d m => tru d m) .mk := id rfl
@[simp] theorem ev_tAnd (x y : ET) : tAnd' x y loc m = (x loc m).bd (fun b m => (if b = true then y else fun _ m => .ok false m) loc m) .mk := id rfl
@[simp] theorem ev_tOr (x y : ET) : tOr' x y loc m = (x loc m).bd (fun b m => (if b = true then (fun _ m => .ok true m) else y) loc m) .mk := id rfl
@[simp] theorem ev_tNot (x : ET) : tNot' x loc m = (x loc m).bd (fun b m => .ok (!b) m) .mk := id rfl
def isBl : D → Mem → R Bool := fun d m => match d with
  | .bl b => .ok b m
  | _ => .bad
@[simp] theorem ev_tBl (x : EX) : tBl x loc m = (x loc m).bd isBl .mk := id rfl
@[simp] theorem isBl_bl {b : Bool} : isBl (.bl b) m = .ok b m := id rfl
@[simp] theorem ev_sSeq (f g : SX) : sSeq f g N loc m = (f N loc m).seq (g N) .mk := id rfl
@[simp] theorem seq_nx (g : Loc → Mem → SR) {t : Tag g} : (SR.nx loc m).seq g t = g loc m := id rfl
@[simp] theorem seq_ret {d : D} (g : Loc → Mem → SR) {t : Tag g} : (SR.ret d m).seq g t = .ret d m := id rfl
@[simp] theorem seq_brk (g : Loc → Mem → SR) {t : Tag g} : (SR.brk loc m).seq g t = .brk loc m := id rfl
@[simp] theorem seq_ct (g : Loc → Mem → SR) {t : Tag g} : (SR.ct loc m).seq g t = .ct loc m := id rfl
@[simp] theorem seq_err (e : Ex) (g : Loc → Mem → SR) {t : Tag g} : (SR.err e loc m).seq g t = .err e loc m := id rfl
@[simp] theorem seq_bad (g : Loc → Mem → SR) {t : Tag g} : SR.bad.seq g t = .bad := id rfl
def optS (o : Option Mem) (loc : Loc) : SR := match o with
  | some m2 => .nx loc m2
  | none => .bad
@[simp] theorem optS_some : optS (some m) loc = .nx loc m := id rfl
@[simp] theorem ev_sNil : sNil N loc m = .nx loc m := id rfl
@[simp] theorem ev_sBrk : sBrk N loc m = .brk loc m := id rfl
@[simp] theorem ev_sCt : sCt N loc m = .ct loc m := id rfl
@[simp] theorem ev_sRetN : sRetN N loc m = .ret .non m := id rfl
@[simp] theorem ev_sSet (i : Nat) (f : EX) : sSet i f N loc m = (f loc m).os loc (fun d m' => .nx (loc.set i (some d)) m') .mk := id rfl
@[simp] theorem ev_sRet (f : EX) : sRet f N loc m = (f loc m).os loc (fun d m' => .ret d m') .mk := id rfl
@[simp] theorem ev_sIf (c : ET) (f g : SX) : sIf c f g N loc m = (c loc m).os loc (fun k m' => if k = true then f N loc m' else g N loc m') .mk := id rfl
@[simp] theorem ev_sDrop (f : EX) : sDrop f N loc m = (f loc m).os loc (fun _ m' => .nx loc m') .mk := id rfl
@[simp] theorem ev_sFor (fi : ES) (ga : GX) (b : SX) : sFor fi ga b N loc m = (fi loc m).os loc (fun s m' => forS ga b s loc m') .mk := id rfl
@[simp] theorem ev_sSub (f fo fi : EX) (st : D → D → D → Mem → Option Mem) : sSub f fo fi st N loc m = ((f loc m).bd (fun d m => (fo loc m).bd (fun o m => (fi loc m).bd (fun i m => .ok (d, o, i) m) .mk) .mk) .mk).os loc (fun p m' => optS (st p.2.1 p.2.2 p.1 m') loc) .mk := id rfl
@[simp] theorem callD_eq {n : Nat} {g : List D → Mem → R D} {xs : List D} (h : xs.length = n) : callD n g xs m = g xs m := by simp [callD, h]
theorem trunc_same {d : D} (h : m.length = N) : trunc N (.ok d m) = .ok d m := by
  unfold trunc
  dsimp only
  rw [← h, List.take_length]
  split <;> rfl
theorem trunc_cut {d : D} (h1 : d.und N = true) (h2 : Mem.und N (m.take N) = true) : trunc N (.ok d m) = .ok d (m.take N) := by
  unfold trunc
  dsimp only
  rw [if_pos (by rw [h1, h2]; rfl)]
@[simp] theorem ofSR_ret {d : D} : ofSR (.ret d m) = .ok d m := id rfl
@[simp] theorem ofSR_nx : ofSR (.nx loc m) = .ok .non m := id rfl
@[simp] theorem oAdd_int {o : Bool} {i j : Int} : oAdd o (.int i) (.int j) m = .ok (.int (i + j)) m := id rfl
@[simp] theorem oSub_int {i j : Int} : oSub (.int i) (.int j) m = .ok (.int (i - j)) m := id rfl
theorem oMul_int {i j : Int} (h : MulOk i j) : oMul (.int i) (.int j) m = .ok (.int (i * j)) m := if_pos h
theorem oFdiv_int {i j : Int} (h : CDivW i j) : oFdiv (.int i) (.int j) m = .ok (.int (i / j)) m := if_pos h
theorem oMod_int {i j : Int} (h : 0 < j) : oMod (.int i) (.int j) m = .ok (.int (i % j)) m := if_pos h
@[simp] theorem oCmp_int {p : Int → Int → Bool} {i j : Int} : oCmpI p (.int i) (.int j) m = .ok (.bl (p i j)) m := id rfl
@[simp] theorem oIsN_eq {d : D} : oIsN d .non m = .ok (.bl (isNonD d)) m := id rfl
@[simp] theorem oNotN_eq {d : D} : oNotN d .non m = .ok (.bl (!isNonD d)) m := id rfl
@[simp] theorem isNon_non : isNonD .non = true := id rfl
@[simp] theorem isNon_int {i : Int} : isNonD (.int i) = false := id rfl
@[simp] theorem isNon_tup {xs : List D} : isNonD (.tup xs) = false := id rfl
@[simp] theorem isNon_lst {xs : List D} : isNonD (.lst xs) = false := id rfl
@[simp] theorem fInt_int {i : Int} : fInt [.int i] m = .ok (.int i) m := id rfl
theorem mulOk_r {i j : Int} (h : -(2 ^ 64) < j ∧ j < 2 ^ 64) : MulOk i j := .inl (.inr h)
theorem mulOk_l {i j : Int} (h : -(2 ^ 64) < i ∧ i < 2 ^ 64) : MulOk i j := .inl (.inl h)
theorem oIx_obj {n : Nat} {i : Int} {xs : List D} {v : D} (h : m[n]? = some (.lst xs)) (hv : atI xs i = some v) : oIx (.obj n) (.int i) m = .ok v m := by
  simp [oIx, rget, lget, h, hv]
theorem oIx_lst {i : Int} {xs : List D} {v : D} (hv : atI xs i = some v) : oIx (.lst xs) (.int i) m = .ok v m := by
  simp [oIx, rget, lget, hv]
theorem oIx_tup {i : Int} {xs : List D} {v : D} (hv : atI xs i = some v) : oIx (.tup xs) (.int i) m = .ok v m := by
  simp [oIx, hv]
theorem oIx_ro {i : Int} {xs : List D} {v : D} (hv : atI xs i = some v) : oIx (.ro xs) (.int i) m = .ok v m := by
  simp [oIx, rget, hv]
theorem setL_ok {n j : Nat} {k : Int} {xs : List D} {d : D} (h : m[n]? = some (.lst xs)) (hj : ixN xs.length k = some j) : setL (.obj n) (.int k) d m = some (m.set n (.lst (xs.set j d))) := by
  simp [setL, h, hj]
theorem set_get {n : Nat} {x y : DO} (h : m[n]? = some x) : (m.set n y)[n]? = some y := by
  rw [List.getElem?_set_self (List.getElem?_eq_some_iff.mp h).1]
theorem trunc_app {d : D} {x : Mem} (h : m.length = N) (h1 : d.und N = true) (h2 : Mem.und N m = true) : trunc N (.ok d (m ++ x)) = .ok d m := by
  have e : (m ++ x).take N = m := by rw [← h, List.take_left']; rfl
  rw [trunc_cut h1 (by rw [e]; exact h2), e]
/-- no place is named that does not stand -/
def Und (m : Mem) : Prop := Mem.und m.length m = true
theorem und_all {N : Nat} {m : Mem} : Mem.und N m = true ↔ ∀ o ∈ m, DO.und N o = true := by unfold Mem.und; rw [List.all_eq_true]
mutual
theorem und_mono {N N' : Nat} (l : N ≤ N') : ∀ d : D, d.und N = true → d.und N' = true
  | .non, _ => by simp [D.und]
  | .bl _, _ => by simp [D.und]
  | .int _, _ => by simp [D.und]
  | .str _, _ => by simp [D.und]
  | .tup xs, h => by simp only [D.und] at h ⊢; exact unds_mono l xs h
  | .lst xs, h => by simp only [D.und] at h ⊢; exact unds_mono l xs h
  | .ro xs, h => by simp only [D.und] at h ⊢; exact unds_mono l xs h
  | .dic _ xs, h => by simp only [D.und] at h ⊢; exact unds_mono l xs h
  | .ins _ _ xs, h => by simp only [D.und] at h ⊢; exact unds_mono l xs h
  | .exn _ _ _ xs, h => by simp only [D.und] at h ⊢; exact unds_mono l xs h
  | .obj n, h => by simp only [D.und, decide_eq_true_eq] at h ⊢; omega
  | .cls _, _ => by simp [D.und]
  | .ty _, _ => by simp [D.und]
theorem unds_mono {N N' : Nat} (l : N ≤ N') : ∀ ds : List D, D.unds N ds = true → D.unds N' ds = true
  | [], _ => by simp [D.unds]
  | d :: r, h => by
    simp only [D.unds, Bool.and_eq_true] at h ⊢
    exact ⟨und_mono l d h.1, unds_mono l r h.2⟩
end
theorem unds_all {N : Nat} : ∀ {ds : List D}, D.unds N ds = true ↔ ∀ d ∈ ds, d.und N = true
  | [] => by simp [D.unds]
  | d :: r => by simp [D.unds, unds_all (ds := r)]
theorem undO_mono {N N' : Nat} (l : N ≤ N') (o : DO) (h : DO.und N o = true) : DO.und N' o = true := by
  cases o <;> first | exact unds_mono l _ h | rfl
theorem Und.set {n : Nat} {o : DO} (h : Und m) (ho : o.und m.length = true) : Und (m.set n o) := by
  unfold Und at h ⊢
  rw [List.length_set]
  rw [und_all] at h ⊢
  intro x hx
  rcases List.mem_or_eq_of_mem_set hx with z | z
  · exact h x z
  · subst z; exact ho
theorem Und.push {o : DO} (h : Und m) (ho : o.und (m.length + 1) = true) : Und (m ++ [o]) := by
  unfold Und at h ⊢
  rw [List.length_append, List.length_singleton]
  rw [und_all] at h ⊢
  intro x hx
  rcases List.mem_append.mp hx with z | z
  · exact undO_mono (Nat.le_succ _) x (h x z)
  · rw [List.mem_singleton.mp z]; exact ho
theorem Und.nil : Und [] := rfl
/-! ### loops -/
theorem forD_run {ga : GX} {body : SX} {I : Nat → Loc → Mem → Prop} {B : Loc → Mem → Prop} {T : D → Mem → Prop} : ∀ (ds : List D) (k : Nat) (loc : Loc) (m : Mem),
    (∀ i d l m, ds[i]? = some d → I (k + i) l m → ∃ l1, ga d l = some l1 ∧ ((∃ l2 m2, (body m.length l1 m = .nx l2 m2 ∨ body m.length l1 m = .ct l2 m2) ∧ I (k + i + 1) l2 m2) ∨ (∃ l2 m2, body m.length l1 m = .brk l2 m2 ∧ B l2 m2) ∨ ∃ d m2, body m.length l1 m = .ret d m2 ∧ T d m2)) →
    I k loc m → (∃ l2 m2, forD ga body ds loc m = .nx l2 m2 ∧ (I (k + ds.length) l2 m2 ∨ B l2 m2)) ∨ ∃ d m2, forD ga body ds loc m = .ret d m2 ∧ T d m2
  | [], k, loc, m, _, h => .inl ⟨loc, m, rfl, .inl (by simpa using h)⟩
  | d :: ds, k, loc, m, st, h => by
    have st' : ∀ i d l m, ds[i]? = some d → I (k + 1 + i) l m → ∃ l1, ga d l = some l1 ∧ ((∃ l2 m2, (body m.length l1 m = .nx l2 m2 ∨ body m.length l1 m = .ct l2 m2) ∧ I (k + 1 + i + 1) l2 m2) ∨ (∃ l2 m2, body m.length l1 m = .brk l2 m2 ∧ B l2 m2) ∨ ∃ d m2, body m.length l1 m = .ret d m2 ∧ T d m2) := fun i d' l m hd hi => by
      have := st (i + 1) d' l m (by simpa using hd) (by rw [show k + (i + 1) = k + 1 + i by omega]; exact hi)
      rwa [show k + (i + 1) = k + 1 + i by omega] at this
    obtain ⟨l1, e1, q⟩ := st 0 d loc m rfl h
    rcases q with ⟨l2, m2, eb, hi⟩ | ⟨l2, m2, eb, hb⟩ | ⟨r, m2, eb, ht⟩
    · have ih := forD_run ds (k + 1) l2 m2 st' hi
      have e : forD ga body (d :: ds) loc m = forD ga body ds l2 m2 := by
        rcases eb with eb | eb <;> simp [forD, e1, eb]
      rw [e, show k + (d :: ds).length = k + 1 + ds.length by simp; omega]
      exact ih
    · exact .inl ⟨l2, m2, by simp [forD, e1, eb], .inr hb⟩
    · exact .inr ⟨r, m2, by simp [forD, e1, eb], ht⟩
/-- a loop that goes to its end -/
theorem forD_all {ga : GX} {body : SX} {I : Nat → Loc → Mem → Prop} (ds : List D) {loc : Loc} {m : Mem}
    (st : ∀ i d l m, ds[i]? = some d → I i l m → ∃ l1 l2 m2, ga d l = some l1 ∧ (body m.length l1 m = .nx l2 m2 ∨ body m.length l1 m = .ct l2 m2) ∧ I (i + 1) l2 m2) (h : I 0 loc m) : ∃ l2 m2, forD ga body ds loc m = .nx l2 m2 ∧ I ds.length l2 m2 := by
  rcases forD_run (I := I) (B := fun _ _ => False) (T := fun _ _ => False) ds 0 loc m (fun i d l m hd hi => by
    rw [Nat.zero_add] at hi ⊢
    obtain ⟨l1, l2, m2, a, b, c⟩ := st i d l m hd hi
    exact ⟨l1, a, .inl ⟨l2, m2, b, c⟩⟩) h with ⟨l2, m2, e, q | q⟩ | ⟨_, _, _, q⟩
  · exact ⟨l2, m2, e, by rwa [Nat.zero_add] at q⟩
  · exact q.elim
  · exact q.elim
theorem forV_all {ga : GX} {body : SX} {n : Nat} {en : Bool} {xs : List D} {I : Nat → Loc → Mem → Prop} : ∀ (r : Nat) (loc : Loc) (m : Mem), r ≤ xs.length →
    (∀ i l m, i < xs.length → I i l m → m[n]? = some (.lst xs) ∧ ∃ d l1 l2 m2, xs[i]? = some d ∧ ga (wrapI en i d) l = some l1 ∧ (body m.length l1 m = .nx l2 m2 ∨ body m.length l1 m = .ct l2 m2) ∧ I (i + 1) l2 m2) →
    (∀ l m, I xs.length l m → m[n]? = some (.lst xs)) → I (xs.length - r) loc m → ∃ l2 m2, forV ga body n en xs.length r loc m = .nx l2 m2 ∧ I xs.length l2 m2
  | 0, loc, m, _, _, he, h => by
    rw [Nat.sub_zero] at h
    exact ⟨loc, m, by simp [forV, he _ _ h], h⟩
  | r + 1, loc, m, hr, st, he, h => by
    obtain ⟨hm, d, l1, l2, m2, e0, e1, eb, hi⟩ := st _ _ _ (by omega) h
    have ih := forV_all r l2 m2 (by omega) st he (by rw [show xs.length - r = xs.length - (r + 1) + 1 by omega]; exact hi)
    have e : forV ga body n en xs.length (r + 1) loc m = forV ga body n en xs.length r l2 m2 := by
      rcases eb with eb | eb <;> simp [forV, hm, e0, e1, eb]
    rw [e]; exact ih
theorem lcD_run {ga : GX} {tt : ET} {te : EX} {loc : Loc} {N : Nat} {I : Nat → List D → Mem → Prop} : ∀ (ds : List D) (k : Nat) (acc : List D) (m : Mem), m.length = N → acc.length + ds.length ≤ sizeLine →
    (∀ i d acc m, ds[i]? = some d → m.length = N → I (k + i) acc m → ∃ l1, ga d loc = some l1 ∧ ∃ b m1, tt l1 (m ++ [.lst acc]) = .ok b (m1 ++ [.lst acc]) ∧ m1.length = N ∧
      ((b = false ∧ I (k + i + 1) acc m1) ∨ (b = true ∧ ∃ y m2, te l1 (m1 ++ [.lst acc]) = .ok y (m2 ++ [.lst acc]) ∧ m2.length = N ∧ I (k + i + 1) (acc ++ [y]) m2))) →
    I k acc m → ∃ acc' m', lcD ga tt te N ds loc (m ++ [.lst acc]) = .ok () (m' ++ [.lst acc']) ∧ m'.length = N ∧ I (k + ds.length) acc' m'
  | [], k, acc, m, hN, _, _, h => ⟨acc, m, rfl, hN, by simpa using h⟩
  | d :: ds, k, acc, m, hN, hz, st, h => by
    have st' : ∀ i d acc m, ds[i]? = some d → m.length = N → I (k + 1 + i) acc m → ∃ l1, ga d loc = some l1 ∧ ∃ b m1, tt l1 (m ++ [.lst acc]) = .ok b (m1 ++ [.lst acc]) ∧ m1.length = N ∧
      ((b = false ∧ I (k + 1 + i + 1) acc m1) ∨ (b = true ∧ ∃ y m2, te l1 (m1 ++ [.lst acc]) = .ok y (m2 ++ [.lst acc]) ∧ m2.length = N ∧ I (k + 1 + i + 1) (acc ++ [y]) m2)) := fun i d' acc m hd hl hi => by
      have := st (i + 1) d' acc m (by simpa using hd) hl (by rw [show k + (i + 1) = k + 1 + i by omega]; exact hi)
      rwa [show k + (i + 1) = k + 1 + i by omega] at this
    rw [List.length_cons] at hz
    obtain ⟨l1, e1, b, m1, e2, hl1, q⟩ := st 0 d acc m rfl hN h
    rw [show k + (d :: ds).length = k + 1 + ds.length by simp; omega]
    rcases q with ⟨eb, hi⟩ | ⟨eb, y, m2, e3, hl2, hi⟩
    · subst eb
      obtain ⟨acc', m', e, r⟩ := lcD_run ds (k + 1) acc m1 hl1 (by omega) st' hi
      exact ⟨acc', m', by simp [lcD, lcStep, e1, e2, R.bind, e], r⟩
    · subst eb
      obtain ⟨acc', m', e, r⟩ := lcD_run ds (k + 1) (acc ++ [y]) m2 hl2 (by simp; omega) st' hi
      refine ⟨acc', m', ?_, r⟩
      have hlt : acc.length < sizeLine := by omega
      have eg : (m2 ++ [DO.lst acc])[N]? = some (.lst acc) := by rw [← hl2]; simp
      have es : (m2 ++ [DO.lst acc]).set N (.lst (acc ++ [y])) = m2 ++ [DO.lst (acc ++ [y])] := by rw [← hl2]; simp
      simp [lcD, lcStep, e1, e2, e3, R.bind, eg, hlt, es, e]
/-- the whole comprehension, its list a value -/
theorem eLc_run {fi : ES} {ga : GX} {tt : ET} {te : EX} {vs : List Nat} {loc : Loc} {m m0 : Mem} {ds : List D} (I : Nat → List D → Mem → Prop) (hf : fi loc m0 = .ok (.st ds) m) (hz : ds.length ≤ sizeLine)
    (st : ∀ i d acc m1, ds[i]? = some d → m1.length = m.length → I i acc m1 → ∃ l1, ga d (wipeD loc vs) = some l1 ∧ ∃ b m2, tt l1 (m1 ++ [.lst acc]) = .ok b (m2 ++ [.lst acc]) ∧ m2.length = m.length ∧
      ((b = false ∧ I (i + 1) acc m2) ∨ (b = true ∧ ∃ y m3, te l1 (m2 ++ [.lst acc]) = .ok y (m3 ++ [.lst acc]) ∧ m3.length = m.length ∧ I (i + 1) (acc ++ [y]) m3)))
    (hu : ∀ acc m1, m1.length = m.length → I ds.length acc m1 → D.unds m.length acc = true ∧ Mem.und m.length m1 = true) (h : I 0 [] m) :
    ∃ acc m1, eLc false fi ga tt te vs loc m0 = .ok (.lst acc) m1 ∧ m1.length = m.length ∧ I ds.length acc m1 := by
  obtain ⟨acc, m1, e, hl, hi⟩ := lcD_run (I := I) (N := m.length) (ga := ga) (tt := tt) (te := te) (loc := wipeD loc vs) ds 0 [] m rfl (by simpa using hz) (fun i d acc m1 hd hl hi => by
    rw [Nat.zero_add] at hi ⊢
    exact st i d acc m1 hd hl hi) h
  rw [Nat.zero_add] at hi
  obtain ⟨u1, u2⟩ := hu acc m1 hl hi
  refine ⟨acc, m1, ?_, hl, hi⟩
  have e0 : eLc false fi ga tt te vs loc m0 = (lcD ga tt te m.length ds (wipeD loc vs) (m ++ [.lst []])).bind fun _ m' => lcFin false m.length m' := by
    simp [eLc, bnd, hf, R.bind]
  rw [e0, e]
  have eg : (m1 ++ [DO.lst acc])[m.length]? = some (.lst acc) := by rw [← hl]; simp
  have et : (m1 ++ [DO.lst acc]).take m.length = m1 := by rw [← hl, List.take_left']; rfl
  simp [R.bind, lcFin, eg, hl, u1, u2, et]
mutual
theorem fz_und {N n : Nat} {z : D} (l : N ≤ n) : ∀ d : D, d.und N = true → D.fz n z d = d
  | .non, _ => by simp [D.fz]
  | .bl _, _ => by simp [D.fz]
  | .int _, _ => by simp [D.fz]
  | .str _, _ => by simp [D.fz]
  | .tup xs, h => by simp only [D.und] at h; simp only [D.fz, fzs_und l xs h]
  | .lst xs, h => by simp only [D.und] at h; simp only [D.fz, fzs_und l xs h]
  | .ro xs, h => by simp only [D.und] at h; simp only [D.fz, fzs_und l xs h]
  | .dic _ xs, h => by simp only [D.und] at h; simp only [D.fz, fzs_und l xs h]
  | .ins _ _ xs, h => by simp only [D.und] at h; simp only [D.fz, fzs_und l xs h]
  | .exn _ _ _ xs, h => by simp only [D.und] at h; simp only [D.fz, fzs_und l xs h]
  | .obj k, h => by
    simp only [D.und, decide_eq_true_eq] at h
    simp only [D.fz]
    rw [if_neg (by omega)]
  | .cls _, _ => by simp [D.fz]
  | .ty _, _ => by simp [D.fz]
theorem fzs_und {N n : Nat} {z : D} (l : N ≤ n) : ∀ ds : List D, D.unds N ds = true → D.fzs n z ds = ds
  | [], _ => rfl
  | d :: r, h => by
    simp only [D.unds, Bool.and_eq_true] at h
    simp only [D.fzs, fz_und l d h.1, fzs_und l r h.2]
end
mutual
theorem has_und {N n : Nat} (l : N ≤ n) : ∀ d : D, d.und N = true → D.has n d = false
  | .non, _ => by simp [D.has]
  | .bl _, _ => by simp [D.has]
  | .int _, _ => by simp [D.has]
  | .str _, _ => by simp [D.has]
  | .tup xs, h => by simp only [D.und] at h; simp only [D.has, hass_und l xs h]
  | .lst xs, h => by simp only [D.und] at h; simp only [D.has, hass_und l xs h]
  | .ro xs, h => by simp only [D.und] at h; simp only [D.has, hass_und l xs h]
  | .dic _ xs, h => by simp only [D.und] at h; simp only [D.has, hass_und l xs h]
  | .ins _ _ xs, h => by simp only [D.und] at h; simp only [D.has, hass_und l xs h]
  | .exn _ _ _ xs, h => by simp only [D.und] at h; simp only [D.has, hass_und l xs h]
  | .obj k, h => by
    simp only [D.und, decide_eq_true_eq] at h
    simp only [D.has, decide_eq_false_iff_not]
    omega
  | .cls _, _ => by simp [D.has]
  | .ty _, _ => by simp [D.has]
theorem hass_und {N n : Nat} (l : N ≤ n) : ∀ ds : List D, D.unds N ds = true → D.hass n ds = false
  | [], _ => rfl
  | d :: r, h => by
    simp only [D.unds, Bool.and_eq_true] at h
    simp only [D.hass, has_und l d h.1, hass_und l r h.2, Bool.or_self]
end
theorem fzO_und {N n : Nat} {z : D} (l : N ≤ n) (o : DO) (h : DO.und N o = true) : DO.fz n z o = o := by
  cases o <;> simp only [DO.und] at h <;> simp only [DO.fz] <;> first | rw [fzs_und l _ h] | rfl
theorem fzM_und {N n : Nat} {z : D} (l : N ≤ n) {m : Mem} (h : Mem.und N m = true) : m.map (DO.fz n z) = m := by
  rw [und_all] at h
  conv => rhs; rw [← List.map_id m]
  exact List.map_congr_left fun o ho => fzO_und l o (h o ho)
/-- the last list is frozen -/
theorem sFz_last {i n : Nat} {f : SX} {xs : List D} (hl : m.length = n) (hN : N ≤ n) (hi : loc[i]? = some (some (.obj n))) (hu : Mem.und n m = true) (hx : D.unds n xs = true) :
    sFz i f N loc (m ++ [.lst xs]) = f N (loc.map (Option.map (D.fz n (.lst xs)))) (m ++ [.dead]) := by
  have eg : (m ++ [DO.lst xs])[n]? = some (.lst xs) := by rw [← hl]; simp
  unfold sFz
  rw [hi]
  dsimp only
  rw [if_pos hN, eg]
  simp only [DO.val, hass_und (Nat.le_refl n) xs hx, if_true]
  congr 1
  rw [List.map_append, fzM_und (Nat.le_refl n) hu, ← hl]
  simp
theorem get_app {x : DO} {n : Nat} (h : m.length = n) : (m ++ [x])[n]? = some x := by rw [← h]; simp
theorem set_app {x y : DO} {n : Nat} (h : m.length = n) : (m ++ [x]).set n y = m ++ [y] := by rw [← h]; simp
theorem get_left {x : Mem} {k : Nat} {o : DO} (h : m[k]? = some o) : (m ++ x)[k]? = some o := by
  rw [List.getElem?_append_left (List.getElem?_eq_some_iff.mp h).1]; exact h
theorem set_left {x : Mem} {k : Nat} {o y : DO} (h : m[k]? = some o) : (m ++ x).set k y = m.set k y ++ x := by
  rw [List.set_append_left _ _ (List.getElem?_eq_some_iff.mp h).1]
def ifB (T : String) (m : Mem) (x : D) (r : R D) (_ : Tag r) : R D := if tyB T m x = true then r else .bad
@[simp] theorem ev_bm (T : String) (f : D → List D → Mem → R D) (x : EX) (as : EL) : eBM T f x as loc m = (x loc m).bd (fun d m => ifB T m d ((as loc m).bd (fun xs m => f d xs m) .mk) .mk) .mk := id rfl
theorem ifB_obj {n : Nat} {xs : List D} {r : R D} {t : Tag r} (h : m[n]? = some (.lst xs)) : ifB "list" m (.obj n) r t = r := by
  simp [ifB, tyB, h]
theorem append_obj {n : Nat} {xs : List D} {y : D} (h : m[n]? = some (.lst xs)) (hz : xs.length < sizeLine) : LstM fAppend (.obj n) [y] m = .ok .non (m.set n (.lst (xs ++ [y]))) := by
  simp [LstM, fAppend, h, hz]
@[simp] theorem newL_obj {xs : List D} : newL true xs m = .ok (.obj m.length) (m ++ [.lst xs]) := id rfl
theorem newLs_obj {xs : List D} (h : xs.length ≤ sizeLine) : newLs true xs m = .ok (.obj m.length) (m ++ [.lst xs]) := by
  unfold newLs; rw [if_pos h]; rfl
theorem newLs_lst {xs : List D} (h : xs.length ≤ sizeLine) : newLs false xs m = .ok (.lst xs) m := by
  unfold newLs; rw [if_pos h]; rfl
theorem newT_tup {xs : List D} (h : xs.length ≤ sizeLine) : newT xs m = .ok (.tup xs) m := by
  unfold newT; rw [if_pos h]
@[simp] theorem ev_args {α : Type} (g : List D → Mem → R α) (fs : EL) : eArgs g fs loc m = (fs loc m).bd (fun ds m => g ds m) .mk := id rfl
@[simp] theorem iterD_lst {xs : List D} : iterD (.lst xs) m = .ok (.st xs) m := id rfl
@[simp] theorem iterD_tup {xs : List D} : iterD (.tup xs) m = .ok (.st xs) m := id rfl
@[simp] theorem iterD_ro {xs : List D} : iterD (.ro xs) m = .ok (.st xs) m := id rfl
theorem iterD_obj {n : Nat} {xs : List D} (h : m[n]? = some (.lst xs)) : iterD (.obj n) m = .ok (.lv n false) m := by simp [iterD, h]
theorem range1_ok {j : Int} (h : SmallR j) : range1 [.int j] m = .ok (.st (rangeD 0 1 j.toNat)) m := if_pos h
theorem range2_ok {i j : Int} (h : SmallR i) (h2 : SmallR j) : range2 [.int i, .int j] m = .ok (.st (rangeD i 1 (j - i).toNat)) m := if_pos ⟨h, h2⟩
theorem rangeN_ok {i j : Int} (h : SmallR i) (h2 : SmallR j) : rangeN [.int i, .int j, .int (-1)] m = .ok (.st (rangeD i (-1) (i - j).toNat)) m := if_pos ⟨h, h2, rfl⟩
theorem rangeD_at {lo c : Int} {n i : Nat} {d : D} (h : (rangeD lo c n)[i]? = some d) : i < n ∧ d = .int (lo + (i : Int) * c) := rangeD_get h
@[simp] theorem rangeD_length {lo c : Int} {n : Nat} : (rangeD lo c n).length = n := by simp [rangeD]
theorem fz_pure {n : Nat} {z d : D} (h : d.und 0 = true) : D.fz n z d = d := fz_und (Nat.zero_le _) d h
@[simp] theorem fz_self {n : Nat} {z : D} : D.fz n z (.obj n) = z := by simp [D.fz]
theorem fz_ne {n k : Nat} {z : D} (h : k ≠ n) : D.fz n z (.obj k) = .obj k := by simp [D.fz, h]
@[simp] theorem und_lst {N : Nat} {xs : List D} : (D.lst xs).und N = D.unds N xs := by simp [D.und]
@[simp] theorem und_tup {N : Nat} {xs : List D} : (D.tup xs).und N = D.unds N xs := by simp [D.und]
@[simp] theorem und_ro {N : Nat} {xs : List D} : (D.ro xs).und N = D.unds N xs := by simp [D.und]
@[simp] theorem und_ins {N : Nat} {C : Addr} {ns : List Str} {xs : List D} : (D.ins C ns xs).und N = D.unds N xs := by simp [D.und]
@[simp] theorem und_int {N : Nat} {i : Int} : (D.int i).und N = true := by simp [D.und]
@[simp] theorem und_bl {N : Nat} {i : Bool} : (D.bl i).und N = true := by simp [D.und]
@[simp] theorem und_str {N : Nat} {i : Str} : (D.str i).und N = true := by simp [D.und]
@[simp] theorem und_non {N : Nat} : D.non.und N = true := by simp [D.und]
@[simp] theorem unds_nil {N : Nat} : D.unds N [] = true := by simp [D.unds]
@[simp] theorem unds_cons {N : Nat} {d : D} {r : List D} : D.unds N (d :: r) = (d.und N && D.unds N r) := by simp [D.unds]
@[simp] theorem unds_append {N : Nat} : ∀ {r s : List D}, D.unds N (r ++ s) = (D.unds N r && D.unds N s)
  | [], s => by simp
  | d :: r, s => by simp [unds_append (r := r), Bool.and_assoc]
@[simp] theorem unds_replicate {N n : Nat} {d : D} (h : d.und N = true) : D.unds N (List.replicate n d) = true := by
  rw [unds_all]; intro e he; rw [List.eq_of_mem_replicate he]; exact h
theorem unds_map {α : Type} {N : Nat} {f : α → D} (h : ∀ a, (f a).und N = true) (xs : List α) : D.unds N (xs.map f) = true := by
  rw [unds_all]; intro d hd; obtain ⟨a, _, rfl⟩ := List.mem_map.mp hd; exact h a
/-- a list with others behind it is frozen -/
theorem sFz_mid {i n : Nat} {f : SX} {xs : List D} {x : Mem} (hl : m.length = n) (hN : N ≤ n) (hi : loc[i]? = some (some (.obj n))) (hu : Mem.und n m = true) (hx : D.unds n xs = true) (hx2 : Mem.und n x = true) :
    sFz i f N loc (m ++ .lst xs :: x) = f N (loc.map (Option.map (D.fz n (.lst xs)))) (m ++ .dead :: x) := by
  have eg : (m ++ DO.lst xs :: x)[n]? = some (.lst xs) := by rw [← hl]; simp
  unfold sFz
  rw [hi]
  dsimp only
  rw [if_pos hN, eg]
  simp only [DO.val, hass_und (Nat.le_refl n) xs hx, if_true]
  congr 1
  rw [List.map_append, fzM_und (Nat.le_refl n) hu, List.map_cons, fzM_und (Nat.le_refl n) hx2, ← hl]
  simp
@[simp] theorem fList_lst {xs : List D} : fList true [.lst xs] m = .ok (.obj m.length) (m ++ [.lst xs]) := id rfl
@[simp] theorem fList_lst' {xs : List D} : fList false [.lst xs] m = .ok (.lst xs) m := id rfl
def asI (d : D) (m : Mem) : R (Option Int) := match d with
  | .int i => .ok (some i) m
  | _ => .bad
@[simp] theorem asI_int {i : Int} : asI (.int i) m = .ok (some i) m := id rfl
@[simp] theorem ev_pSome (x : EX) : pSome x loc m = (x loc m).bd asI .mk := id rfl
@[simp] theorem ev_pNone : pNone loc m = .ok none m := id rfl
@[simp] theorem ev_sl (o : Bool) (x : EX) (l u : EP') : eSl o x l u loc m = (x loc m).bd (fun d m => (l loc m).bd (fun lo m => (u loc m).bd (fun hi m => oSl o d lo hi m) .mk) .mk) .mk := id rfl
theorem cut_drop {xs : List D} {k : Nat} (h : k ≤ xs.length) : cutD xs (some (k : Int)) none = xs.drop k := by
  unfold cutD
  rw [HT.sIx_nat, HT.sIx_none, Nat.min_eq_left h, List.take_of_length_le (by simp)]
theorem cut_take {xs : List D} {k : Nat} (h : k ≤ xs.length) : cutD xs none (some (k : Int)) = xs.take k := by
  unfold cutD
  rw [HT.sIx_nat, HT.sIx_none, Nat.min_eq_left h, List.drop_zero, Nat.sub_zero]
theorem oSl_lst {o : Bool} {xs : List D} {lo hi : Option Int} : oSl o (.lst xs) lo hi m = newL o (cutD xs lo hi) m := by simp [oSl, rget, lget]
theorem newL_lst {xs : List D} : newL false xs m = .ok (.lst xs) m := id rfl
def optL (o : Option Loc) (m : Mem) : SR := match o with
  | some l => .nx l m
  | none => .bad
@[simp] theorem optL_some : optL (some loc) m = .nx loc m := id rfl
@[simp] theorem ev_sAsg (f : EX) (ga : GX) : sAsg f ga N loc m = (f loc m).os loc (fun d m' => optL (ga d loc) m') .mk := id rfl
@[simp] theorem ev_sFldS (C : Addr) (x : Str) (fe fo : EX) : sFldS C x fe fo N loc m = ((fe loc m).bd (fun d m => (fo loc m).bd (fun o m => .ok (d, o) m) .mk) .mk).os loc (fun p m' => optS (setF C x p.2 p.1 m') loc) .mk := id rfl
theorem setF_app {C : Addr} {x : Str} {ns : List Str} {vs : List D} {d : D} {n : Nat} (h : m.length = n) (hn : ns.length < 1000) : setF C x (.obj n) d (m ++ [.ins C ns vs]) = some (m ++ [.ins C (putD x d ns vs).1 (putD x d ns vs).2]) := by
  have eg : (m ++ [DO.ins C ns vs])[n]? = some (.ins C ns vs) := by rw [← h]; simp
  simp only [setF, eg, hn, and_self, if_true]
  rw [set_app h]
@[simp] theorem fTuple_lst {xs : List D} : fTuple [.lst xs] m = .ok (.tup xs) m := id rfl
theorem fTuple_obj {n : Nat} {xs : List D} (h : m[n]? = some (.lst xs)) : fTuple [.obj n] m = .ok (.tup xs) m := by simp [fTuple, rget, lget, h]
@[simp] theorem ev_sRaise (f : DL.Loc → Mem → R Ex) : sRaise f N loc m = (f loc m).os loc (fun ex m' => .err ex loc m') .mk := id rfl
@[simp] theorem ofSR_err {e : Ex} : ofSR (.err e loc m) = .err e m := id rfl
theorem trunc_err {e : Ex} {x : Mem} (h : m.length = N) (h1 : e.fs = none) (h2 : Mem.und N m = true) : trunc N (.err e (m ++ x)) = .err e m := by
  have e2 : (m ++ x).take N = m := by rw [← h, List.take_left']; rfl
  unfold trunc
  dsimp only
  rw [e2, if_pos (by simp [Ex.und, h1, h2])]
end
end DL

/-! DEq: == of encoded data. -/
namespace DL
open PySem PySem.Spec PyProof.Rows L2
/-- g writes an α as a datum, f as plain data of depth k at most -/
structure Enc {α : Type} [DecidableEq α] (g : α → D) (f : α → PyData) (k : Nat) : Prop where
  py : ∀ a, pyOf (g a) = some (f a)
  eq : ∀ a b, PyData.eqv (f a) (f b) = decide (a = b)
  lay : ∀ a, (f a).canLay0 = true
  dep : ∀ a, (f a).depth ≤ k
section
variable {α β : Type} [DecidableEq α] [DecidableEq β] {g : α → D} {f : α → PyData} {k : Nat} {m : Mem}
theorem Enc.pys (E : Enc g f k) : ∀ xs : List α, pysOf (xs.map g) = some (xs.map f)
  | [] => rfl
  | a :: r => by simp [pysOf, E.py, E.pys r]
theorem Enc.eqs (E : Enc g f k) : ∀ xs ys : List α, PyData.eqvAll (xs.map f) (ys.map f) = decide (xs = ys)
  | [], [] => by simp [PyData.eqvAll]
  | [], _ :: _ => by simp [PyData.eqvAll]
  | _ :: _, [] => by simp [PyData.eqvAll]
  | a :: r, b :: s => by simp [PyData.eqvAll, E.eq, E.eqs r s]
theorem Enc.lays (E : Enc g f k) : ∀ xs : List α, PyData.canLayAll0 (xs.map f) = true
  | [] => by simp [PyData.canLayAll0]
  | a :: r => by simp [PyData.canLayAll0, E.lay, E.lays r]
theorem Enc.deps (E : Enc g f k) : ∀ xs : List α, PyData.depthAll (xs.map f) ≤ k
  | [] => by simp [PyData.depthAll]
  | a :: r => by
    have h1 := E.dep a
    have h2 := E.deps r
    simp only [List.map_cons, PyData.depthAll]
    omega
theorem Enc.int : Enc D.int PyData.int 0 := ⟨fun _ => rfl, fun a b => by simp only [PyData.eqv]; exact Bool.eq_iff_iff.mpr (by simp), fun a => by simp [PyData.canLay0], fun a => by simp [PyData.depth]⟩
theorem Enc.bl : Enc D.bl PyData.bool 0 := ⟨fun _ => rfl, fun a b => by simp only [PyData.eqv]; exact Bool.eq_iff_iff.mpr (by simp), fun a => by simp [PyData.canLay0], fun a => by simp [PyData.depth]⟩
/-- None or a datum; a datum is not None -/
theorem Enc.opt (E : Enc g f k) (hn : ∀ a, PyData.eqv .none (f a) = false ∧ PyData.eqv (f a) .none = false) : Enc (fun o : Option α => o.elim D.non g) (fun o => o.elim PyData.none f) k where
  py := fun a => by cases a <;> simp [pyOf, E.py]
  eq := fun a b => by cases a <;> cases b <;> simp [PyData.eqv, E.eq, hn]
  lay := fun a => by cases a <;> simp [PyData.canLay0, E.lay]
  dep := fun a => by cases a <;> simp [PyData.depth, E.dep]
theorem Enc.lst (E : Enc g f k) : Enc (fun xs : List α => D.lst (xs.map g)) (fun xs => PyData.list (xs.map f)) (k + 1) where
  py := fun a => by simp [pyOf, E.pys]
  eq := fun a b => by simp [PyData.eqv, E.eqs]
  lay := fun a => by simp [PyData.canLay0, E.lays]
  dep := fun a => by have := E.deps a; simp only [PyData.depth]; omega
theorem Enc.tup (E : Enc g f k) : Enc (fun xs : List α => D.tup (xs.map g)) (fun xs => PyData.tuple (xs.map f)) (k + 1) where
  py := fun a => by simp [pyOf, E.pys]
  eq := fun a b => by simp [PyData.eqv, E.eqs]
  lay := fun a => by simp [PyData.canLay0, E.lays]
  dep := fun a => by have := E.deps a; simp only [PyData.depth]; omega
theorem Enc.pair {g2 : β → D} {f2 : β → PyData} (E : Enc g f k) (E2 : Enc g2 f2 k) : Enc (fun p : α × β => D.tup [g p.1, g2 p.2]) (fun p => PyData.tuple [f p.1, f2 p.2]) (k + 1) where
  py := fun a => by simp [pyOf, pysOf, E.py, E2.py]
  eq := fun a b => by
    simp only [PyData.eqv, PyData.eqvAll, E.eq, E2.eq, Bool.and_true]
    rw [← Bool.decide_and]
    exact decide_eq_decide.mpr ⟨fun h => Prod.ext h.1 h.2, fun h => by rw [h]; exact ⟨rfl, rfl⟩⟩
  lay := fun a => by simp [PyData.canLay0, PyData.canLayAll0, E.lay, E2.lay]
  dep := fun a => by
    have h1 := E.dep a.1
    have h2 := E2.dep a.2
    simp only [PyData.depth, PyData.depthAll]; omega
theorem Enc.toPy (E : Enc g f k) (a : α) (m : Mem) : toPy m (g a) = some (f a) := by
  have h := E.py a
  unfold DL.toPy
  split
  · rename_i n e
    rw [e] at h; cases h
  · exact h
theorem Enc.shaped (E : Enc g f k) (hk : k ≤ 64) (a : α) : SeqAt.shaped (f a) = true := by
  unfold SeqAt.shaped
  have := E.dep a
  rw [E.lay, decide_eq_true (by omega)]; rfl
theorem Enc.oEq (E : Enc g f k) (hk : k ≤ 64) (a b : α) : oEq (g a) (g b) m = .ok (.bl (decide (a = b))) m := by
  unfold DL.oEq
  rw [E.toPy a m, E.toPy b m]
  simp only [E.shaped hk, and_self, if_true, E.eq]
theorem Enc.oNe (E : Enc g f k) (hk : k ≤ 64) (a b : α) : oNe (g a) (g b) m = .ok (.bl (!decide (a = b))) m := by
  unfold DL.oNe
  rw [E.toPy a m, E.toPy b m]
  simp only [E.shaped hk, and_self, if_true, E.eq]
/-- a list of the memory against a list -/
theorem Enc.oNe_obj (E : Enc g f k) (hk : k ≤ 63) {n : Nat} {xs ys : List α} (h : m[n]? = some (.lst (xs.map g))) : DL.oNe (.obj n) (.lst (ys.map g)) m = .ok (.bl (!decide (xs = ys))) m := by
  have e1 : DL.toPy m (.obj n) = some (.list (xs.map f)) := by simp [DL.toPy, h, E.pys]
  have e2 := E.lst.toPy ys m
  have s1 := E.lst.shaped (by omega) xs
  have s2 := E.lst.shaped (by omega) ys
  have q := E.lst.eq xs ys
  unfold DL.oNe
  rw [e1, e2]
  simp only [s1, s2, and_self, if_true, q]
end
@[simp] theorem oEq_int {i j : Int} {m : Mem} : oEq (.int i) (.int j) m = .ok (.bl (decide (i = j))) m := Enc.int.oEq (by decide) i j
@[simp] theorem oNe_int {i j : Int} {m : Mem} : oNe (.int i) (.int j) m = .ok (.bl (!decide (i = j))) m := Enc.int.oNe (by decide) i j
@[simp] theorem oEq_bl {i j : Bool} {m : Mem} : oEq (.bl i) (.bl j) m = .ok (.bl (decide (i = j))) m := Enc.bl.oEq (by decide) i j
@[simp] theorem oNe_bl {i j : Bool} {m : Mem} : oNe (.bl i) (.bl j) m = .ok (.bl (!decide (i = j))) m := Enc.bl.oNe (by decide) i j
end DL

/-! M23: courses as functions: least periods, least starts, first place where one exceeds the other. -/
namespace M23
abbrev Fn := Nat → Option Int
/-- at n the function goes on with the step p -/
def Cond (v : Fn) (p n : Nat) : Prop := (v n = none ∧ v (n + p) = none) ∨ ∃ x d : Int, v n = some x ∧ v (n + p) = some (x + d) ∧ v (n + 2 * p) = some (x + 2 * d)
def Lin (v : Fn) (s p : Nat) : Prop := 0 < p ∧ ∀ n, s ≤ n → Cond v p n
theorem Lin.later {v : Fn} {s s' p : Nat} (h : Lin v s p) (l : s ≤ s') : Lin v s' p := ⟨h.1, fun n hn => h.2 n (Nat.le_trans l hn)⟩
theorem Lin.nones {v : Fn} {s p : Nat} (h : Lin v s p) {n : Nat} (hn : s ≤ n) (e : v n = none) : ∀ k, v (n + k * p) = none
  | 0 => by simpa using e
  | k + 1 => by
    have ih := Lin.nones h hn e k
    rcases h.2 (n + k * p) (by omega) with ⟨_, q⟩ | ⟨x, d, q, _⟩
    · rw [Nat.add_mul, Nat.one_mul, ← Nat.add_assoc]; exact q
    · rw [ih] at q; cases q
theorem Lin.somes {v : Fn} {s p : Nat} (h : Lin v s p) {n : Nat} (hn : s ≤ n) {x : Int} (e : v n = some x) : ∃ d : Int, ∀ k : Nat, v (n + k * p) = some (x + k * d) := by
  rcases h.2 n hn with ⟨q, _⟩ | ⟨x', d, q1, q2, _⟩
  · rw [e] at q; cases q
  · rw [e] at q1
    cases q1
    have go : ∀ k : Nat, v (n + k * p) = some (x + (k : Int) * d) ∧ v (n + k * p + p) = some (x + (k : Int) * d + d) := by
      intro k
      induction k with
      | zero => simpa using ⟨e, q2⟩
      | succ k ih =>
        obtain ⟨i1, i2⟩ := ih
        have e1 : n + (k + 1) * p = n + k * p + p := by rw [Nat.add_mul, Nat.one_mul, Nat.add_assoc]
        have e2 : x + ((k + 1 : Nat) : Int) * d = x + k * d + d := by
          rw [Int.natCast_add, Int.add_mul]; simp; omega
        rw [e1, e2]
        refine ⟨i2, ?_⟩
        rcases h.2 (n + k * p) (by omega) with ⟨q, _⟩ | ⟨y, f, q1, q2, q3⟩
        · rw [i1] at q; cases q
        · rw [i1] at q1
          cases q1
          rw [i2] at q2
          have ef : f = d := by
            have := Option.some.inj q2
            omega
          subst ef
          have e3 : n + k * p + p + p = n + k * p + 2 * p := by omega
          rw [e3, q3]
          congr 1; omega
    exact ⟨d, fun k => (go k).1⟩
theorem Lin.mul {v : Fn} {s p : Nat} (h : Lin v s p) {k : Nat} (hk : 0 < k) : Lin v s (k * p) := by
  refine ⟨Nat.mul_pos hk h.1, fun n hn => ?_⟩
  cases e : v n with
  | none => exact .inl ⟨e, h.nones hn e k⟩
  | some x =>
    obtain ⟨d, hd⟩ := h.somes hn e
    refine .inr ⟨x, k * d, e, hd k, ?_⟩
    have := hd (2 * k)
    rw [Nat.mul_assoc] at this
    rw [this, Int.natCast_mul, Int.mul_assoc]; rfl
theorem Lin.dvd {v : Fn} {s p q : Nat} (h : Lin v s p) (d : p ∣ q) (hq : 0 < q) : Lin v s q := by
  obtain ⟨k, e⟩ := d
  subst e
  rw [Nat.mul_comm]
  refine h.mul ?_
  rcases Nat.eq_zero_or_pos k with z | z
  · subst z; simp at hq
  · exact z
/-- an eventual step g is a step from s on -/
theorem Lin.down {v : Fn} {s s' p g : Nat} (h : Lin v s p) (h' : Lin v s' g) : Lin v s g := by
  refine ⟨h'.1, fun n hn => ?_⟩
  have hp := h.1
  have big : ∀ k, s' ≤ k → s' ≤ n + k * p := fun k hk => by
    have : k * 1 ≤ k * p := Nat.mul_le_mul_left k hp
    omega
  cases e : v n with
  | none =>
    refine .inl ⟨e, ?_⟩
    have e1 := h.nones hn e s'
    rcases h'.2 _ (big s' (Nat.le_refl _)) with ⟨_, q⟩ | ⟨x, d, q, _⟩
    · cases e2 : v (n + g) with
      | none => rfl
      | some y =>
        obtain ⟨d, hd⟩ := h.somes (by omega : s ≤ n + g) e2
        have := hd s'
        rw [show n + g + s' * p = n + s' * p + g by omega, q] at this
        cases this
    · rw [e1] at q; cases q
  | some x =>
    obtain ⟨d, hd⟩ := h.somes hn e
    have one : ∀ k : Nat, s' ≤ k → ∃ f : Int, v (n + g + k * p) = some (x + (k : Int) * d + f) ∧ v (n + 2 * g + k * p) = some (x + (k : Int) * d + 2 * f) := fun k hk => by
      rcases h'.2 _ (big k hk) with ⟨q, _⟩ | ⟨y, f, q1, q2, q3⟩
      · rw [hd k] at q; cases q
      · rw [hd k] at q1
        cases q1
        exact ⟨f, by rw [← q2]; congr 1; omega, by rw [← q3]; congr 1; omega⟩
    obtain ⟨f1, a1, b1⟩ := one s' (Nat.le_refl _)
    obtain ⟨f2, a2, b2⟩ := one (s' + 1) (Nat.le_succ _)
    cases e1 : v (n + g) with
    | none => rw [h.nones (by omega) e1 s'] at a1; cases a1
    | some y =>
      cases e2 : v (n + 2 * g) with
      | none => rw [h.nones (by omega) e2 s'] at b1; cases b1
      | some z =>
        obtain ⟨dy, hy⟩ := h.somes (by omega) e1
        obtain ⟨dz, hz⟩ := h.somes (by omega) e2
        have c1 := Option.some.inj ((hy s').symm.trans a1)
        have c2 := Option.some.inj ((hy (s' + 1)).symm.trans a2)
        have c3 := Option.some.inj ((hz s').symm.trans b1)
        have c4 := Option.some.inj ((hz (s' + 1)).symm.trans b2)
        rw [Int.natCast_add, Int.add_mul, Int.add_mul] at c2 c4
        have k1 : ((1 : Nat) : Int) = 1 := rfl
        rw [k1, Int.one_mul, Int.one_mul] at c2 c4
        have k2 : dz = 2 * dy - d := by omega
        have k3 : (s' : Int) * dz = 2 * ((s' : Int) * dy) - (s' : Int) * d := by
          rw [k2, Int.mul_sub, Int.mul_left_comm]
        generalize (s' : Int) * dy = A at *
        generalize (s' : Int) * dz = B at *
        generalize (s' : Int) * d = E at *
        refine .inr ⟨x, y - x, e, by rw [e1]; congr 1; omega, by rw [e2]; congr 1; omega⟩
theorem cross {v : Fn} {p q m : Nat} {a b y : Int} (h1 : ∀ k : Nat, v (m + k * p) = some (y + (k : Int) * a)) (h2 : ∀ k : Nat, v (m + k * q) = some (y + (k : Int) * b)) : (q : Int) * a = (p : Int) * b := by
  have e1 := h1 q
  have e2 := h2 p
  rw [Nat.mul_comm q p, e2] at e1
  have := Option.some.inj e1
  omega
theorem step_down {v : Fn} {s p q n : Nat} {x d f : Int} (h : Lin v s p) (h' : Lin v s q) (lt : q < p) (hn : s ≤ n) (hd : ∀ k : Nat, v (n + k * p) = some (x + (k : Int) * d)) (hf : ∀ k : Nat, v (n + k * q) = some (x + (k : Int) * f)) :
    (∀ k : Nat, v (n + (p - q) + k * p) = some (x + d - f + (k : Int) * d)) ∧ ∀ k : Nat, v (n + (p - q) + k * q) = some (x + d - f + (k : Int) * f) := by
  have hq := h'.1
  have vp : v (n + p) = some (x + d) := by have := hd 1; rw [Nat.one_mul] at this; rw [this]; congr 1; omega
  have vq : v (n + q) = some (x + f) := by have := hf 1; rw [Nat.one_mul] at this; rw [this]; congr 1; omega
  have c0 := cross hd hf
  -- from n + q
  obtain ⟨d3, hd3⟩ := h.somes (by omega : s ≤ n + q) vq
  have hf3 : ∀ k : Nat, v (n + q + k * q) = some (x + f + (k : Int) * f) := fun k => by
    have := hf (k + 1)
    rw [show n + (k + 1) * q = n + q + k * q by rw [Nat.add_mul]; omega] at this
    rw [this]
    congr 1
    rw [Int.natCast_add, Int.add_mul]
    have k1 : ((1 : Nat) : Int) = 1 := rfl
    rw [k1, Int.one_mul]
    omega
  have c3 := cross hd3 hf3
  have qd : ∀ a b : Int, (q : Int) * a = (q : Int) * b → a = b := fun a b e => Int.eq_of_mul_eq_mul_left (by omega) e
  have ed3 : d3 = d := qd _ _ (by rw [c3, c0])
  subst ed3
  have vpq : v (n + q + p) = some (x + f + d3) := by have := hd3 1; rw [Nat.one_mul] at this; rw [this]; congr 1; omega
  -- at m
  have em : ∃ w, v (n + (p - q)) = some w := by
    cases e2 : v (n + (p - q)) with
    | some w => exact ⟨w, rfl⟩
    | none =>
      have := h'.nones (by omega : s ≤ n + (p - q)) e2 1
      rw [show n + (p - q) + 1 * q = n + p by omega, vp] at this
      cases this
  obtain ⟨w, ew⟩ := em
  obtain ⟨d1, hd1⟩ := h.somes (by omega : s ≤ n + (p - q)) ew
  obtain ⟨f1, hf1⟩ := h'.somes (by omega : s ≤ n + (p - q)) ew
  have c1 := cross hd1 hf1
  have w1 : w + f1 = x + d3 := by
    have := hf1 1
    rw [show n + (p - q) + 1 * q = n + p by omega, vp] at this
    have := Option.some.inj this
    omega
  have w2 : w + 2 * f1 = x + f + d3 := by
    have := hf1 2
    rw [show n + (p - q) + 2 * q = n + q + p by omega, vpq] at this
    have := Option.some.inj this
    omega
  have ef : f1 = f := by omega
  subst ef
  have ed : d1 = d3 := qd _ _ (by rw [c1, c0])
  subst ed
  have e3 : w = x + d1 - f1 := by omega
  subst e3
  exact ⟨hd1, hf1⟩
/-- steps p, q: also p - q -/
theorem Lin.sub {v : Fn} {s p q : Nat} (h : Lin v s p) (h' : Lin v s q) (lt : q < p) : Lin v s (p - q) := by
  refine ⟨by omega, fun n hn => ?_⟩
  cases e : v n with
  | none =>
    refine .inl ⟨e, ?_⟩
    have e1 : v (n + p) = none := by have := h.nones hn e 1; rwa [Nat.one_mul] at this
    cases e2 : v (n + (p - q)) with
    | none => rfl
    | some y =>
      obtain ⟨d, hd⟩ := h'.somes (by omega : s ≤ n + (p - q)) e2
      have := hd 1
      rw [show n + (p - q) + 1 * q = n + p by omega, e1] at this
      cases this
  | some x =>
    obtain ⟨d, hd⟩ := h.somes hn e
    obtain ⟨f, hf⟩ := h'.somes hn e
    obtain ⟨a1, a2⟩ := step_down h h' lt hn hd hf
    obtain ⟨b1, b2⟩ := step_down h h' lt (by omega : s ≤ n + (p - q)) a1 a2
    have r1 := a1 0
    have r2 := b1 0
    rw [Nat.zero_mul, Nat.add_zero] at r1 r2
    refine .inr ⟨x, d - f, e, by rw [r1]; congr 1; simp; omega, ?_⟩
    rw [show n + 2 * (p - q) = n + (p - q) + (p - q) by omega, r2]
    congr 1; simp; omega
theorem Lin.gcd {v : Fn} {s : Nat} : ∀ (N p q : Nat), p + q ≤ N → Lin v s p → Lin v s q → Lin v s (Nat.gcd p q) := by
  intro N
  induction N with
  | zero => intro p q hN h h'; have := h.1; omega
  | succ N ih =>
    intro p q hN h h'
    have hp := h.1
    have hq := h'.1
    rcases Nat.lt_trichotomy p q with lt | e | lt
    · have := ih p (q - p) (by omega) h (h'.sub h lt)
      rwa [Nat.gcd_sub_self_right (Nat.le_of_lt lt)] at this
    · subst e; rw [Nat.gcd_self]; exact h
    · have := ih (p - q) q (by omega) (h.sub h' lt) h'
      rwa [Nat.gcd_sub_self_left (Nat.le_of_lt lt)] at this
/-- a step from s on and an eventual step: their gcd from s on -/
theorem Lin.meet {v : Fn} {s s' p q : Nat} (h : Lin v s p) (h' : Lin v s' q) : Lin v s (Nat.gcd p q) :=
  h.down (Lin.gcd (p + q) p q (Nat.le_refl _) (h.later (Nat.le_max_left s s')) (h'.later (Nat.le_max_right s s')))
/-- the least form: its start, its period -/
structure IsLeast (v : Fn) (s p : Nat) : Prop where
  lin : Lin v s p
  per : ∀ s' p', Lin v s' p' → p ≤ p'
  start : ∀ s', Lin v s' p → s ≤ s'
theorem IsLeast.uniq {v : Fn} {s p s' p' : Nat} (a : IsLeast v s p) (b : IsLeast v s' p') : s = s' ∧ p = p' := by
  have e : p = p' := Nat.le_antisymm (a.per _ _ b.lin) (b.per _ _ a.lin)
  subst e
  exact ⟨Nat.le_antisymm (a.start _ b.lin) (b.start _ a.lin), rfl⟩
/-- the least divisor that is a step is the least step -/
theorem least_of {v : Fn} {s p q : Nat} (h : Lin v s p) (hq : Lin v s q) (hm : ∀ r, r ∣ p → Lin v s r → q ≤ r) : ∀ s' p', Lin v s' p' → q ≤ p' := fun s' p' h' => by
  have g := h.meet h'
  exact Nat.le_trans (hm _ (Nat.gcd_dvd_left _ _) g) (Nat.le_of_dvd h'.1 (Nat.gcd_dvd_right _ _))
theorem start_of {v : Fn} {s p : Nat} (h : s = 0 ∨ ¬ Cond v p (s - 1)) : ∀ s', Lin v s' p → s ≤ s' := fun s' h' => by
  rcases h with h | h
  · omega
  · refine Nat.le_of_not_lt fun lt => h (h'.2 _ (by omega))
end M23

/-! M18: sets of numbers as predicates: periods, starts, least forms. -/
namespace M18
abbrev Pr := Nat → Bool
def chi (p : Pr) : M23.Fn := fun n => if p n = true then some 0 else none
/-- from s on the set repeats with q -/
def Per (p : Pr) (s q : Nat) : Prop := 0 < q ∧ ∀ n, s ≤ n → p (n + q) = p n
variable {p p' : Pr} {s s' q q' g r k n : Nat}
theorem Per.later (h : Per p s q) (l : s ≤ s') : Per p s' q := ⟨h.1, fun n hn => h.2 n (Nat.le_trans l hn)⟩
theorem Per.mul (h : Per p s q) (hn : s ≤ n) : ∀ k, p (n + k * q) = p n
  | 0 => by simp
  | k + 1 => by
    rw [show n + (k + 1) * q = n + k * q + q by rw [Nat.succ_mul]; omega, h.2 _ (by omega)]
    exact Per.mul h hn k
theorem lin_iff : M23.Lin (chi p) s q ↔ Per p s q := by
  constructor
  · intro h
    refine ⟨h.1, fun n hn => ?_⟩
    rcases h.2 n hn with ⟨a, b⟩ | ⟨x, d, a, b, _⟩
    · unfold chi at a b
      split at a
      · cases a
      · split at b
        · cases b
        · rename_i h1 h2
          cases e1 : p n <;> cases e2 : p (n + q) <;> simp_all
    · unfold chi at a b
      split at a
      · split at b
        · rename_i h1 h2
          rw [h1, h2]
        · cases b
      · cases a
  · intro h
    refine ⟨h.1, fun n hn => ?_⟩
    have h1 := h.2 n hn
    have h2 := Per.mul h hn 2
    cases e : p n with
    | false => exact .inl ⟨by simp [chi, e], by simp [chi, h1, e]⟩
    | true => exact .inr ⟨0, 0, by simp [chi, e], by simp [chi, h1, e], by simp [chi, h2, e]⟩
/-- the least form's start and period -/
structure Lst (p : Pr) (s q : Nat) : Prop where
  per : Per p s q
  few : ∀ s' q', Per p s' q' → q ≤ q'
  low : ∀ s', Per p s' q → s ≤ s'
theorem Lst.uniq (a : Lst p s q) (b : Lst p s' q') : s = s' ∧ q = q' := by
  have e : q = q' := Nat.le_antisymm (a.few _ _ b.per) (b.few _ _ a.per)
  subst e
  exact ⟨Nat.le_antisymm (a.low _ b.per) (b.low _ a.per), rfl⟩
theorem few_of (h : Per p s q) (hg : Per p s g) (hm : ∀ r, r ∣ q → Per p s r → g ≤ r) : ∀ s' q', Per p s' q' → g ≤ q' := fun s' q' h' =>
  M23.least_of (lin_iff.mpr h) (lin_iff.mpr hg) (fun r d l => hm r d (lin_iff.mp l)) s' q' (lin_iff.mpr h')
theorem low_of (h : s = 0 ∨ p (s - 1 + q) ≠ p (s - 1)) : ∀ s', Per p s' q → s ≤ s' := fun s' h' => by
  rcases h with h | h
  · omega
  · exact Nat.le_of_not_lt fun lt => h (h'.2 _ (by omega))
theorem Per.down (h : Per p (s + 1) q) (e : p (s + q) = p s) : Per p s q := ⟨h.1, fun n hn => by
  by_cases l : n = s
  · subst l; exact e
  · exact h.2 n (by omega)⟩
/-- one round is enough -/
theorem per_of (h : Per p s q) (hr : 0 < r) (e : ∀ n, s ≤ n → n < s + q → p (n + r) = p n) : Per p s r := ⟨hr, fun n hn => by
  have hq := h.1
  have e0 : n = s + (n - s) % q + (n - s) / q * q := by
    have := Nat.mod_add_div (n - s) q
    rw [Nat.mul_comm] at this
    omega
  have hlt := Nat.mod_lt (n - s) hq
  rw [show n + r = s + (n - s) % q + r + (n - s) / q * q by omega, Per.mul h (by omega), e _ (by omega) (by omega)]
  conv => rhs; rw [e0]
  rw [Per.mul h (by omega)]⟩
/-! ### lists -/
def firsts (p : Pr) (s : Nat) : List Nat := (List.range s).filter p
def lates (p : Pr) (s q : Nat) : List Nat := (List.range q).filter fun i => p (s + i)
theorem mem_firsts : n ∈ firsts p s ↔ n < s ∧ p n = true := by simp [firsts]
theorem mem_lates : n ∈ lates p s q ↔ n < q ∧ p (s + n) = true := by simp [lates]
theorem range_lt : ∀ n : Nat, (List.range n).Pairwise (· < ·) := fun n => List.pairwise_lt_range
theorem firsts_lt : (firsts p s).Pairwise (· < ·) := (range_lt s).sublist List.filter_sublist
theorem lates_lt : (lates p s q).Pairwise (· < ·) := (range_lt q).sublist List.filter_sublist
theorem lt_nodup {l : List Nat} (h : l.Pairwise (· < ·)) : l.Nodup := h.imp fun a => Nat.ne_of_lt a
/-- ascending lists of the same members are equal -/
theorem asc_ext : ∀ {l1 l2 : List Nat}, l1.Pairwise (· < ·) → l2.Pairwise (· < ·) → (∀ n, n ∈ l1 ↔ n ∈ l2) → l1 = l2
  | [], [], _, _, _ => rfl
  | [], b :: l2, _, _, h => by have := (h b).mpr (by simp); simp at this
  | a :: l1, [], _, _, h => by have := (h a).mp (by simp); simp at this
  | a :: l1, b :: l2, h1, h2, h => by
    rw [List.pairwise_cons] at h1 h2
    have e : a = b := by
      have q1 := (h a).mp (by simp)
      have q2 := (h b).mpr (by simp)
      rcases List.mem_cons.mp q1 with z | z
      · exact z
      · rcases List.mem_cons.mp q2 with w | w
        · exact w.symm
        · have x := h2.1 _ z
          have y := h1.1 _ w
          omega
    subst e
    rw [asc_ext h1.2 h2.2 fun n => ?_]
    have := h n
    simp only [List.mem_cons] at this
    constructor
    · intro z
      rcases this.mp (.inr z) with e | e
      · subst e; exact absurd (h1.1 _ z) (Nat.lt_irrefl _)
      · exact e
    · intro z
      rcases this.mpr (.inr z) with e | e
      · subst e; exact absurd (h2.1 _ z) (Nat.lt_irrefl _)
      · exact e
theorem perm_of {α : Type} [DecidableEq α] : ∀ {l1 l2 : List α}, l1.Nodup → l2.Nodup → (∀ n, n ∈ l1 ↔ n ∈ l2) → l1.Perm l2
  | [], l2, _, _, h => by
    cases l2 with
    | nil => exact .nil
    | cons b l => have := (h b).mpr (by simp); simp at this
  | a :: l1, l2, h1, h2, h => by
    rw [List.nodup_cons] at h1
    have ha : a ∈ l2 := (h a).mp (by simp)
    have p1 : l1.Perm (l2.erase a) := perm_of h1.2 (h2.sublist List.erase_sublist) fun n => by
      rw [h2.mem_erase_iff]
      have := h n
      simp only [List.mem_cons] at this
      constructor
      · intro z
        exact ⟨fun e => by subst e; exact h1.1 z, this.mp (.inr z)⟩
      · rintro ⟨z1, z2⟩
        rcases this.mpr z2 with e | e
        · exact absurd e z1
        · exact e
    exact (List.Perm.cons a p1).trans (List.perm_cons_erase ha).symm
/-! ### forms -/
structure Frm where
  first : List Nat
  s : Nat
  q : Nat
  late : List Nat
  deriving DecidableEq
structure Ok (f : Frm) : Prop where
  q0 : 0 < f.q
  fn : f.first.Nodup
  fl : ∀ n ∈ f.first, n < f.s
  ln : f.late.Nodup
  ll : ∀ n ∈ f.late, n < f.q
def has (f : Frm) : Pr := fun n => if n < f.s then decide (n ∈ f.first) else decide ((n - f.s) % f.q ∈ f.late)
variable {f f' : Frm}
theorem has_first (h : Ok f) : n ∈ f.first ↔ n < f.s ∧ has f n = true := by
  constructor
  · intro z
    have := h.fl n z
    exact ⟨this, by simp [has, this, z]⟩
  · rintro ⟨z1, z2⟩
    simpa [has, z1] using z2
theorem has_late (h : Ok f) : n ∈ f.late ↔ n < f.q ∧ has f (f.s + n) = true := by
  constructor
  · intro z
    have := h.ll n z
    exact ⟨this, by simp [has, Nat.mod_eq_of_lt this, z]⟩
  · rintro ⟨z1, z2⟩
    have a : ¬ f.s + n < f.s := by omega
    simpa [has, a, Nat.mod_eq_of_lt z1] using z2
theorem has_per (h : Ok f) : Per (has f) f.s f.q := ⟨h.q0, fun n hn => by
  have h1 : ¬ n < f.s := by omega
  have h2 : ¬ n + f.q < f.s := by omega
  simp only [has, h1, h2, if_false]
  rw [show n + f.q - f.s = n - f.s + f.q by omega, Nat.add_mod_right]⟩
/-- the form of p at s, q -/
def formOf (p : Pr) (s q : Nat) : Frm := ⟨firsts p s, s, q, lates p s q⟩
theorem formOf_ok (hq : 0 < q) : Ok (formOf p s q) := ⟨hq, lt_nodup firsts_lt, fun n hn => (mem_firsts.mp hn).1, lt_nodup lates_lt, fun n hn => (mem_lates.mp hn).1⟩
theorem formOf_has (h : Per p s q) : has (formOf p s q) = p := by
  funext n
  unfold has formOf
  dsimp only
  by_cases hn : n < s
  · rw [if_pos hn]
    simp [mem_firsts, hn]
  · rw [if_neg hn]
    have hlt := Nat.mod_lt (n - s) h.1
    have e : n = s + (n - s) % q + (n - s) / q * q := by
      have := Nat.mod_add_div (n - s) q
      rw [Nat.mul_comm] at this
      omega
    have e2 : p n = p (s + (n - s) % q) := by
      conv => lhs; rw [e]
      exact Per.mul h (by omega) _
    rw [e2]
    simp [mem_lates, hlt]
/-- forms that show the same are of the same set -/
theorem form_det (h : Per p s q) (h' : Per p' s' q') (e : formOf p s q = formOf p' s' q') : p = p' := by rw [← formOf_has h, ← formOf_has h', e]
/-- how many in k rounds -/
theorem lates_mul (h : Per p s r) : ∀ k, (lates p s (k * r)).length = k * (lates p s r).length
  | 0 => by simp [lates]
  | k + 1 => by
    have e : List.range ((k + 1) * r) = List.range (k * r) ++ (List.range r).map (fun i => k * r + i) := by
      rw [Nat.succ_mul, List.range_add]
    have ih := lates_mul h k
    unfold lates at ih ⊢
    rw [e, List.filter_append, List.length_append, ih, List.filter_map, List.length_map, Nat.succ_mul]
    congr 2
    apply List.filter_congr
    intro i hi
    show p (s + (k * r + i)) = p (s + i)
    rw [show s + (k * r + i) = s + i + k * r by omega]
    exact Per.mul h (by omega) k
theorem late_len (h : Ok f) (hr : Per (has f) f.s r) (hd : r ∣ f.q) : f.late.length = f.q / r * (lates (has f) f.s r).length := by
  obtain ⟨k, hk⟩ := hd
  have e : f.late.Perm (lates (has f) f.s f.q) := perm_of h.ln (lt_nodup lates_lt) fun n => by rw [mem_lates, has_late h]
  rw [e.length_eq, hk, Nat.mul_comm r k, lates_mul hr, Nat.mul_div_cancel _ hr.1]
/-- the late members, turned by t, are the same: t is a period -/
theorem turn_iff (h : Ok f) {t : Nat} (ht : 0 < t) (hd : t ∣ f.q) : (f.late.map fun o => (o + t) % f.q).Perm f.late ↔ Per (has f) f.s t := by
  have hq := h.q0
  have inj : ∀ i j, i < f.q → j < f.q → (i + t) % f.q = (j + t) % f.q → i = j := by
    intro i j hi hj e
    have hle := Nat.le_of_dvd hq hd
    have a1 : (i + t) % f.q = if i + t < f.q then i + t else i + t - f.q := by
      split
      · exact Nat.mod_eq_of_lt (by assumption)
      · rw [Nat.mod_eq_sub_mod (by omega), Nat.mod_eq_of_lt (by omega)]
    have a2 : (j + t) % f.q = if j + t < f.q then j + t else j + t - f.q := by
      split
      · exact Nat.mod_eq_of_lt (by assumption)
      · rw [Nat.mod_eq_sub_mod (by omega), Nat.mod_eq_of_lt (by omega)]
    rw [a1, a2] at e
    split at e <;> split at e <;> omega
  have at_ : ∀ i, i < f.q → has f (f.s + i + t) = decide ((i + t) % f.q ∈ f.late) := by
    intro i hi
    have : ¬ f.s + i + t < f.s := by omega
    simp only [has, this, if_false]
    rw [show f.s + i + t - f.s = i + t by omega]
  have at0 : ∀ i, i < f.q → has f (f.s + i) = decide (i ∈ f.late) := by
    intro i hi
    have : ¬ f.s + i < f.s := by omega
    simp only [has, this, if_false]
    rw [show f.s + i - f.s = i by omega, Nat.mod_eq_of_lt hi]
  constructor
  · intro hp
    refine per_of (has_per h) ht fun n hn hl => ?_
    obtain ⟨i, rfl⟩ : ∃ i, n = f.s + i := ⟨n - f.s, by omega⟩
    have hi : i < f.q := by omega
    rw [at_ i hi, at0 i hi]
    rw [decide_eq_decide]
    constructor
    · intro z
      obtain ⟨o, ho, eo⟩ := List.mem_map.mp (hp.mem_iff.mpr z)
      rw [← inj o i (h.ll o ho) hi eo]
      exact ho
    · intro z
      exact hp.mem_iff.mp (List.mem_map.mpr ⟨i, z, rfl⟩)
  · intro hp
    have key : ∀ i, i < f.q → ((i + t) % f.q ∈ f.late ↔ i ∈ f.late) := by
      intro i hi
      have := hp.2 (f.s + i) (by omega)
      rw [at_ i hi, at0 i hi] at this
      exact decide_eq_decide.mp this
    refine perm_of ?_ h.ln fun n => ?_
    · have := h.ln
      rw [List.Nodup, List.pairwise_map]
      refine List.Pairwise.imp_of_mem ?_ this
      intro a b ha hb hne e
      exact hne (inj a b (h.ll a ha) (h.ll b hb) e)
    · rw [List.mem_map]
      constructor
      · rintro ⟨o, ho, rfl⟩
        exact (key o (h.ll o ho)).mpr ho
      · intro z
        have hn := h.ll n z
        have hle := Nat.le_of_dvd hq hd
        -- the one before
        refine ⟨if t ≤ n then n - t else n + f.q - t, ?_, ?_⟩
        · have hl : (if t ≤ n then n - t else n + f.q - t) < f.q := by split <;> omega
          rw [← key _ hl]
          have e : ((if t ≤ n then n - t else n + f.q - t) + t) % f.q = n := by
            split
            · rw [show n - t + t = n by omega, Nat.mod_eq_of_lt hn]
            · rw [show n + f.q - t + t = n + f.q by omega, Nat.add_mod_right, Nat.mod_eq_of_lt hn]
          rw [e]; exact z
        · split
          · rw [show n - t + t = n by omega, Nat.mod_eq_of_lt hn]
          · rw [show n + f.q - t + t = n + f.q by omega, Nat.add_mod_right, Nat.mod_eq_of_lt hn]
end M18

/-! M18b: how the least step and the least start are found. -/
namespace M18
variable {p p' : Pr} {s s' q q' g r k n : Nat} {f f' : Frm}
def TurnOk (late : List Nat) (q k : Nat) : Prop := late.length % k = 0 ∧ q % k = 0 ∧ (late.map fun o => (o + q / k) % q).Perm late
open Classical in
/-- the first count of parts, from k down, that the late members allow -/
noncomputable def stepN (late : List Nat) (q : Nat) : Nat → Nat
  | 0 => 1
  | k + 1 => if TurnOk late q (k + 1) then q / (k + 1) else stepN late q k
theorem div_pos_of {a b : Nat} (ha : 0 < a) (h : a % b = 0) (hb : 0 < b) : 0 < a / b ∧ a / b ∣ a ∧ a / (a / b) = b := by
  obtain ⟨c, rfl⟩ := Nat.dvd_of_mod_eq_zero h
  have hc : 0 < c := Nat.pos_of_ne_zero fun e => by subst e; simp at ha
  rw [Nat.mul_div_cancel_left _ hb]
  exact ⟨hc, Nat.dvd_mul_left _ _, Nat.mul_div_cancel _ hc⟩
theorem turnOk_per (h : Ok f) (hk : 0 < k) (t : TurnOk f.late f.q k) : Per (has f) f.s (f.q / k) := by
  obtain ⟨t1, t2, t3⟩ := t
  obtain ⟨d1, d2, _⟩ := div_pos_of h.q0 t2 hk
  exact (turn_iff h d1 d2).mp t3
theorem per_turnOk (h : Ok f) (hr : Per (has f) f.s r) (hd : r ∣ f.q) : TurnOk f.late f.q (f.q / r) := by
  have hq := h.q0
  obtain ⟨c, hc⟩ := hd
  have hr0 := hr.1
  have e1 : f.q / r = c := by rw [hc, Nat.mul_div_cancel_left _ hr0]
  have hc0 : 0 < c := Nat.pos_of_ne_zero fun e => by subst e; simp at hc; omega
  have e2 : f.q / c = r := by rw [hc, Nat.mul_div_cancel _ hc0]
  refine ⟨?_, ?_, ?_⟩
  · rw [late_len h hr ⟨c, hc⟩, e1]; simp
  · rw [e1, hc]; simp
  · rw [e1, e2]
    exact (turn_iff h hr0 ⟨c, hc⟩).mpr hr
theorem stepN_le (h : Ok f) (hr : Per (has f) f.s r) (hd : r ∣ f.q) : ∀ k, f.q / r ≤ k → stepN f.late f.q k ≤ r
  | 0, hk => by
    have hle := Nat.le_of_dvd h.q0 hd
    have := Nat.div_pos hle hr.1
    omega
  | k + 1, hk => by
    unfold stepN
    split
    · rename_i t
      obtain ⟨c, hc⟩ := hd
      have hr0 := hr.1
      have e1 : f.q / r = c := by rw [hc, Nat.mul_div_cancel_left _ hr0]
      rw [e1] at hk
      refine Nat.le_of_lt_succ ((Nat.div_lt_iff_lt_mul (Nat.succ_pos k)).mpr ?_)
      rw [hc]
      calc r * c ≤ r * (k + 1) := Nat.mul_le_mul_left r hk
        _ < (r + 1) * (k + 1) := by rw [Nat.succ_mul]; omega
    · rename_i t
      refine stepN_le h hr hd k ?_
      rcases Nat.lt_or_ge (f.q / r) (k + 1) with l | l
      · omega
      · have e : f.q / r = k + 1 := by omega
        exact absurd (e ▸ per_turnOk h hr hd) t
theorem stepN_per (h : Ok f) : ∀ k, 0 < k → Per (has f) f.s (stepN f.late f.q k)
  | 0, hk => absurd hk (by omega)
  | k + 1, _ => by
    unfold stepN
    split
    · rename_i t; exact turnOk_per h (by omega) t
    · rename_i t
      by_cases hk : 0 < k
      · exact stepN_per h k hk
      · have e : k = 0 := by omega
        subst e
        exfalso
        refine t ⟨Nat.mod_one _, Nat.mod_one _, ?_⟩
        rw [Nat.div_one]
        exact (turn_iff h h.q0 (Nat.dvd_refl _)).mpr (has_per h)
theorem stepN_dvd (h : Ok f) : ∀ k, stepN f.late f.q k ∣ f.q
  | 0 => Nat.one_dvd _
  | k + 1 => by
    unfold stepN
    split
    · rename_i t; exact (div_pos_of h.q0 t.2.1 (by omega)).2.1
    · exact stepN_dvd h k
/-- the step found is the least period -/
theorem step_ok (h : Ok f) : Per (has f) f.s (stepN f.late f.q f.late.length) ∧ ∀ s' q', Per (has f) s' q' → stepN f.late f.q f.late.length ≤ q' := by
  have h1 : Per (has f) f.s (stepN f.late f.q f.late.length) := by
    by_cases e : 0 < f.late.length
    · exact stepN_per h _ e
    · have e0 : f.late = [] := List.eq_nil_of_length_eq_zero (by omega)
      rw [e0]
      refine ⟨Nat.one_pos, fun n hn => ?_⟩
      have a : ¬ n < f.s := by omega
      have b : ¬ n + 1 < f.s := by omega
      simp only [List.length_nil, stepN, has, a, b, if_false, e0, List.not_mem_nil, decide_false]
  refine ⟨h1, few_of (has_per h) h1 fun r hd hr => ?_⟩
  by_cases e : 0 < f.late.length
  · refine stepN_le h hr hd _ (Nat.le_of_dvd e ?_)
    rw [late_len h hr hd]
    exact Nat.dvd_mul_right _ _
  · have e0 : f.late = [] := List.eq_nil_of_length_eq_zero (by omega)
    rw [e0]
    exact hr.1
/-- the offsets left over -/
theorem offsets_ok (h : Ok f) (hr : Per (has f) f.s r) (hd : r ∣ f.q) : n ∈ lates (has f) f.s r ↔ ∃ o ∈ f.late, o % r = n := by
  have hle := Nat.le_of_dvd h.q0 hd
  rw [mem_lates]
  constructor
  · rintro ⟨h1, h2⟩
    exact ⟨n, (has_late h).mpr ⟨by omega, h2⟩, Nat.mod_eq_of_lt h1⟩
  · rintro ⟨o, ho, rfl⟩
    refine ⟨Nat.mod_lt _ hr.1, ?_⟩
    obtain ⟨a, b⟩ := (has_late h).mp ho
    have e := Nat.mod_add_div o r
    rw [Nat.mul_comm] at e
    rw [← b, ← e, ← Nat.add_assoc, Per.mul hr (by omega)]
    simp
/-- the least start: behind the last number that differs from the one a step later -/
theorem low_ok {b : Nat} (h : Per p s r) (hb : b ≤ s) (h1 : ∀ n, b ≤ n → n < s → p (n + r) = p n) (h2 : b = 0 ∨ p (b - 1 + r) ≠ p (b - 1)) : Per p b r ∧ ∀ s', Per p s' r → b ≤ s' :=
  ⟨⟨h.1, fun n hn => by
    by_cases l : n < s
    · exact h1 n hn l
    · exact h.2 n (by omega)⟩, low_of h2⟩
theorem lst_of {b : Nat} (h : Per p b r) (few : ∀ s' q', Per p s' q' → r ≤ q') (low : ∀ s', Per p s' r → b ≤ s') : Lst p b r := ⟨h, few, low⟩
/-- the late members seen from an earlier start -/
theorem lates_back {b : Nat} (hb : Per p b r) (hs : b ≤ s) : n ∈ lates p b r ↔ ∃ o ∈ lates p s r, (s + o - b) % r = n := by
  have hr := hb.1
  have hper : Per p s r := hb.later hs
  rw [mem_lates]
  constructor
  · rintro ⟨h1, h2⟩
    -- o ≡ n + b - s
    refine ⟨(n + (s - b) * r - (s - b)) % r, mem_lates.mpr ⟨Nat.mod_lt _ hr, ?_⟩, ?_⟩
    · have hge : s - b ≤ (s - b) * r := Nat.le_mul_of_pos_right _ hr
      have e := Nat.mod_add_div (n + (s - b) * r - (s - b)) r
      rw [Nat.mul_comm r] at e
      have key : p (s + (n + (s - b) * r - (s - b))) = p (s + (n + (s - b) * r - (s - b)) % r) := by
        conv => lhs; rw [← e, ← Nat.add_assoc]
        exact Per.mul hper (by omega) _
      rw [← key, show s + (n + (s - b) * r - (s - b)) = b + n + (s - b) * r by omega, Per.mul hb (by omega)]
      exact h2
    · have hge : s - b ≤ (s - b) * r := Nat.le_mul_of_pos_right _ hr
      rw [show s + (n + (s - b) * r - (s - b)) % r - b = (s - b) + (n + (s - b) * r - (s - b)) % r by omega, Nat.add_mod, Nat.mod_mod, ← Nat.add_mod,
        show s - b + (n + (s - b) * r - (s - b)) = n + (s - b) * r by omega, Nat.add_mul_mod_self_right, Nat.mod_eq_of_lt h1]
  · rintro ⟨o, ho, rfl⟩
    obtain ⟨h1, h2⟩ := mem_lates.mp ho
    refine ⟨Nat.mod_lt _ hr, ?_⟩
    have e := Nat.mod_add_div (s + o - b) r
    rw [Nat.mul_comm] at e
    rw [← h2, ← Per.mul hb (show b ≤ b + (s + o - b) % r by omega) ((s + o - b) / r)]
    congr 1
    omega
end M18

/-! DSort: sorted, all, x in y, x is True, xs[::-1], xs.remove, displays with a star. -/
namespace DL
open PySem PySem.Spec PyProof.Rows L2

/-! ### sorted lists of numbers -/
def insI (x : Int) : List Int → List Int
  | [] => [x]
  | y :: r => if x ≤ y then x :: y :: r else y :: insI x r
def srtI : List Int → List Int
  | [] => []
  | x :: r => insI x (srtI r)
theorem insI_perm (x : Int) : ∀ l, (insI x l).Perm (x :: l)
  | [] => .refl _
  | y :: r => by
    unfold insI
    split
    · exact .refl _
    · exact ((insI_perm x r).cons y).trans (.swap x y r)
theorem srtI_perm : ∀ l, (srtI l).Perm l
  | [] => .nil
  | x :: r => (insI_perm x _).trans ((srtI_perm r).cons x)
theorem insI_asc (x : Int) : ∀ l, l.Pairwise (· ≤ ·) → (insI x l).Pairwise (· ≤ ·)
  | [], _ => by simp [insI]
  | y :: r, h => by
    rw [List.pairwise_cons] at h
    unfold insI
    split
    · rename_i hxy
      rw [List.pairwise_cons, List.pairwise_cons]
      refine ⟨fun z hz => ?_, h⟩
      rcases List.mem_cons.mp hz with e | e
      · subst e; exact hxy
      · exact Int.le_trans hxy (h.1 z e)
    · rename_i hxy
      rw [List.pairwise_cons]
      refine ⟨fun z hz => ?_, insI_asc x r h.2⟩
      rcases List.mem_cons.mp ((insI_perm x r).mem_iff.mp hz) with e | e
      · subst e; omega
      · exact h.1 z e
theorem srtI_asc : ∀ l, (srtI l).Pairwise (· ≤ ·)
  | [] => .nil
  | x :: r => insI_asc x _ (srtI_asc r)
theorem asc_uniq : ∀ {l1 l2 : List Int}, l1.Pairwise (· ≤ ·) → l2.Pairwise (· ≤ ·) → l1.Perm l2 → l1 = l2
  | [], l2, _, _, h => h.symm.eq_nil.symm
  | a :: l1, [], _, _, h => absurd h.eq_nil (by simp)
  | a :: l1, b :: l2, h1, h2, h => by
    rw [List.pairwise_cons] at h1 h2
    have e : a = b := by
      have q1 := h.mem_iff.mp (List.mem_cons_self (a := a) (l := l1))
      have q2 := h.mem_iff.mpr (List.mem_cons_self (a := b) (l := l2))
      rcases List.mem_cons.mp q1 with z | z
      · exact z
      · rcases List.mem_cons.mp q2 with w | w
        · exact w.symm
        · exact Int.le_antisymm (h1.1 _ w) (h2.1 _ z)
    subst e
    rw [asc_uniq h1.2 h2.2 (List.Perm.cons_inv h)]
theorem srtI_of {l l' : List Int} (h : l'.Perm l) (h2 : l'.Pairwise (· ≤ ·)) : l' = srtI l := asc_uniq h2 (srtI_asc l) (h.trans (srtI_perm l).symm)

/-- the numbers of a list or a tuple -/
def numsD (m : Mem) (d : D) : Option (List Int) := (seqOf m d).bind intsD
section
variable {K : PySem.W.Frag} {W : WX} {ρ : Rho} {m : Mem} {σ : St} {H : Hp}
theorem numsD_ok {d : D} {v : V} {ns : List Int} (rm : RM K ρ H m) (r : RV K ρ H d v) (h : numsD m d = some ns) : ∃ a, v = .ref a ∧ (SqL K H a (ns.map V.int) ∨ SqT K H a (ns.map V.int)) := by
  unfold numsD at h
  cases q : seqOf m d with
  | none => rw [q] at h; cases h
  | some ds =>
    rw [q] at h
    obtain ⟨a, xs, e, h1, h2⟩ := seqOf_ok rm r q
    have e2 := ints_of h2 (intsD_ok h)
    subst e2
    exact ⟨a, e, h1⟩
theorem intsRV (ns : List Int) : RVs K ρ H (ns.map D.int) (ns.map V.int) := by
  induction ns with
  | nil => exact .nil
  | cons n r ih => exact .cons (.int n) ih
end
end DL

namespace DL
open PySem PySem.Spec PyProof.Rows L2
/-! ### sorted(xs), xs a list or a tuple of ints -/
/-- a tracked thing stands in the heap -/
theorem stands {P : Program} {w : World} {H : Hp} {h : Heap} {a : Addr} {o : HO} (x : ObjOk P w H h a o) : ∃ u, h.get? a = some u := by
  cases o with
  | lst xs =>
    obtain ⟨_, _, _, _, e⟩ := x
    exact ⟨_, e⟩
  | tup xs =>
    obtain ⟨_, _, _, u, e, _⟩ := x
    exact ⟨u, e⟩
  | dK kvs =>
    obtain ⟨_, _, _, _, u, _, _, e, _⟩ := x
    exact ⟨u, e⟩
  | dT kvs =>
    obtain ⟨_, _, _, _, u, _, _, e, _⟩ := x
    exact ⟨u, e⟩
  | set S n =>
    obtain ⟨u, _, _, _, e, _⟩ := x
    exact ⟨u, e⟩
  | ins C dx fs =>
    obtain ⟨_, _, _, e, _⟩ := x
    exact ⟨_, e⟩
  | own y => exact x
  | xd fs =>
    obtain ⟨_, ⟨u, _, _, e, _⟩, _⟩ := x
    exact ⟨u, e⟩
  | rng lo hi =>
    obtain ⟨_, _, _, e⟩ := x
    exact ⟨_, e⟩
  | frz ob u => exact ⟨ob, x.1⟩
  | tbl ps => exact ⟨_, x⟩
  | met f y => exact ⟨_, x⟩
  | ext φ => exact x.2.1
theorem fresh_of {P : Program} {w : World} {H : Hp} {h : Heap} {a : Addr} (x : HOk P w H h) (e : h.get? a = none) : H a = none := by
  cases q : H a with
  | none => rfl
  | some o =>
    obtain ⟨u, hu⟩ := stands (x a o q)
    rw [e] at hu
    cases hu
section
variable {prog : Program} {w : World} {A : Around} {E : Value → Shared → Prop} {s : Shared}
theorem srt_call {x : Addr} {vs : List Value} {ns : List Int} {Q : Value → Shared → Prop} (hI : IntsAre vs ns) (hz : vs.length ≤ sizeLine)
    (hc : ∀ {Q' : List Value → Shared → Prop} {A' : Around} {E' : Value → Shared → Prop}, (∀ h', (∀ b o, s.heap.get? b = some o → h'.get? b = some o) → Q' vs { s with heap := h' }) → wpAny (model prog w) A' (collect (.ref x)) Q' E' s)
    (h : ∀ (h' : Heap) (a : Addr) (e : Nat) (out : List Value) (l : List Int), (∀ b o, s.heap.get? b = some o → h'.get? b = some o) → s.heap.get? a = none → h'.get? a = some (seqObj "list" out.toArray e) → IntsAre out l → l.Perm ns → l.Pairwise (· ≤ ·) → Q (.ref a) { s with heap := h' }) :
    wpAny (model prog w) A (call (.builtin "sorted") [.ref x]) Q E s := by
  refine Calls.call_function_entry kind_sorted plain_sorted entry_sorted (args_sorted1 _) ?_
  unfold Builtin.«sorted»
  refine wpAny_bind (m := checkCount "sorted" 1 1 _) (wpAny_pure ?_)
  refine wpAny_bind (hc fun h1 k1 => ?_)
  refine wpAny_bind (wpAny_newList ?_ hz)
  have at1 : (h1.push (seqObj "list" vs.toArray 0)).get? h1.objs.size = some (seqObj "list" vs.toArray 0) := Heap.get?_push_size _ rfl
  show wpAny _ _ _ _ _ { s with heap := h1.push (seqObj "list" vs.toArray 0) }
  refine wpAny_bind (wpAny_holding (wpAny_call_entry slot_list_sort ⟨_, at1, rfl⟩ entry_list_sort (SrtO.list_sort_ord SrtO.swo_int at1 hz (fun h2 => SrtO.ints_sortable hI h2) fun out o1 o2 => ⟨_, rfl, ?_⟩) (args_list_sort _)))
  obtain ⟨i1, i2, i3⟩ := SrtO.ints_out hI o1 o2
  obtain ⟨e, he⟩ := sortedHeap_at (out := out.toArray) at1
  refine wpAny_pure ⟨_, rfl, h _ h1.objs.size e out _ (fun b o hb => ?_) ?_ he i1 i2 i3⟩
  · have l1 : b < h1.objs.size := Heap.lt_size (k1 b o hb)
    rw [sortedHeap_old (Nat.ne_of_lt l1) (by rw [size_push']; exact Nat.lt_succ_of_lt l1)]
    exact Heap.get?_push_of_some _ (k1 b o hb)
  · cases q : s.heap.get? h1.objs.size with
    | none => rfl
    | some o => exact absurd (Heap.lt_size (k1 _ _ q)) (Nat.lt_irrefl _)
end
/-- sorted(xs), xs a list or a tuple of ints, any number of them -/
def rSrt (K : PySem.W.Frag) : List V → Hp → VK → Prop := fun vs H Q => ∃ (a : Addr) (ns : List Int), vs = [V.ref a] ∧ (SqL K H a (ns.map V.int) ∨ SqT K H a (ns.map V.int)) ∧
  ∀ p : Addr, H p = none → Q (.ref p) (upd H p (.lst ((srtI ns).map V.int)))
section
variable {X : Cx}
theorem cr_srt : CallR X (.builtin "sorted") (rSrt X.K) := by
  intro pins s σ H vs us Q I r h
  obtain ⟨a, ns, rfl, hs, q⟩ := h
  rw [Vals.ref1 r]
  have fin : ∀ {its : List Value} (hi : IntsAre its ns), its.length ≤ sizeLine → ∀ (h' : Heap) (p : Addr) (e : Nat) (out : List Value) (l : List Int), (∀ b o, s.heap.get? b = some o → h'.get? b = some o) → s.heap.get? p = none →
      h'.get? p = some (seqObj "list" out.toArray e) → IntsAre out l → l.Perm ns → l.Pairwise (· ≤ ·) → EP X pins σ Q (.ref p) { s with heap := h' } := by
    intro its hi hz h' p e out l k hp he i1 i2 i3
    have el := srtI_of i2 i3
    have hn := fresh_of I.hok hp
    have hlen : (l.map V.int).length ≤ sizeLine := by
      have := hi.length
      rw [List.length_map, i2.length_eq]
      omega
    refine ⟨.ref p, upd H p (.lst (l.map V.int)), I.laidN (t' := s.toks) k hp hn ⟨hlen, out, e, vals_of_ints i1, he⟩, rfl, ?_⟩
    rw [el]
    exact q p hn
  rcases hs with hs | hs
  · obtain ⟨its, rv, hl, hz⟩ := I.list hs
    have hi := rv.ints
    have hzl : its.length ≤ sizeLine := by rw [← rv.length]; exact hz
    refine srt_call hi hzl (fun hQ => ?_) (fin hi hzl)
    obtain ⟨o, ho, hc, n, hd⟩ := hl.isList
    exact wpAny_collect_seq a (.inl rfl) ho hc hd (fun h' k => by simpa using hQ h' k) (by simpa using hzl)
  · obtain ⟨its, rv, hl, hz⟩ := I.tuple hs
    have hi := rv.ints
    have hzl : its.length ≤ sizeLine := by rw [← rv.length]; exact hz
    refine srt_call hi hzl (fun hQ => ?_) (fin hi hzl)
    obtain ⟨o, ho, hc, n, hd⟩ := hl
    exact wpAny_collect_seq a (.inr rfl) ho hc hd (fun h' k => by simpa using hQ h' k) (by simpa using hzl)
end
def fSorted (o : Bool) (ds : List D) (m : Mem) : R D := match ds with
  | [d] => match numsD m d with
    | some ns => newL o ((srtI ns).map D.int) m
    | none => .bad
  | _ => .bad
theorem OC.sorted {W : WX} (K : PySem.W.Frag) (o : Bool) : OC K W (rSrt K) (fSorted o) := by
  intro ρ m σ H Q ds vs rm rv h
  unfold fSorted at h
  split at h
  · rename_i d
    cases rv with
    | cons r t =>
      cases t
      split at h
      · rename_i ns e
        obtain ⟨a, ea, hq⟩ := numsD_ok rm r e
        subst ea
        exact ⟨a, ns, rfl, hq, newL_ok rm (intsRV _) h⟩
      · exact h.elim
  · exact h.elim
/-! ### all(xs), xs a list of truth values -/
def blsD : List D → Option (List Bool)
  | [] => some []
  | .bl b :: r => (blsD r).map (b :: ·)
  | _ :: _ => none
theorem blsD_ok : ∀ {ds : List D} {bs : List Bool}, blsD ds = some bs → ds = bs.map D.bl
  | [], bs, h => by cases h; rfl
  | .bl b :: r, bs, h => by
    unfold blsD at h
    obtain ⟨cs, e, rfl⟩ := Option.map_eq_some_iff.mp h
    rw [blsD_ok e] <;> rfl
theorem blsD_map (bs : List Bool) : blsD (bs.map D.bl) = some bs := by
  induction bs with
  | nil => rfl
  | cons b r ih => simp [blsD, ih]
theorem bls_of {K : PySem.W.Frag} {ρ : Rho} {H : Hp} : ∀ {bs : List Bool} {vs : List V}, RVs K ρ H (bs.map D.bl) vs → vs = bs.map V.bl
  | [], _, .nil => rfl
  | b :: r, _, .cons x t => by
    cases x
    rw [bls_of t] <;> rfl
def fAll (ds : List D) (m : Mem) : R D := match ds with
  | [d] => match (rget m d).bind blsD with
    | some bs => .ok (.bl (bs.all id)) m
    | none => .bad
  | _ => .bad
theorem OC.all {W : WX} (K : PySem.W.Frag) : OC K W (rAll K) fAll := by
  intro ρ m σ H Q ds vs rm rv h
  unfold fAll at h
  split at h
  · rename_i d
    cases rv with
    | cons r t =>
      cases t
      split at h
      · rename_i bs e
        obtain ⟨ys, e1, e2⟩ := Option.bind_eq_some_iff.mp e
        obtain ⟨a, xs, ea, h1, h2⟩ := rget_ok rm r e1
        rw [blsD_ok e2] at h2
        have ev := bls_of h2
        subst ea ev
        exact ⟨a, bs, rfl, h1, fin rm (.bl _) h⟩
      · exact h.elim
  · exact h.elim
/-! ### x in y -/
def strsD : List D → Option (List Str)
  | [] => some []
  | .str b :: r => (strsD r).map (b :: ·)
  | _ :: _ => none
theorem strsD_ok : ∀ {ds : List D} {bs : List Str}, strsD ds = some bs → ds = bs.map D.str
  | [], bs, h => by cases h; rfl
  | .str b :: r, bs, h => by
    unfold strsD at h
    obtain ⟨cs, e, rfl⟩ := Option.map_eq_some_iff.mp h
    rw [strsD_ok e] <;> rfl
theorem strs_of {K : PySem.W.Frag} {ρ : Rho} {H : Hp} : ∀ {bs : List Str} {vs : List V}, RVs K ρ H (bs.map D.str) vs → vs = bs.map V.str
  | [], _, .nil => rfl
  | b :: r, _, .cons x t => by
    cases x
    rw [strs_of t] <;> rfl
def keysOf (m : Mem) (d : D) : Option (List Key) := match d with
  | .dic ks _ => some ks
  | .obj n => match m[n]? with
    | some (.dic ks _) => some ks
    | _ => none
  | _ => none
theorem keysOf_ok {K : PySem.W.Frag} {ρ : Rho} {m : Mem} {H : Hp} {d : D} {v : V} {ks : List Key} (rm : RM K ρ H m) (r : RV K ρ H d v) (h : keysOf m d = some ks) : ∃ a kvs, v = .ref a ∧ H a = some (.dK kvs) ∧ kvs.map (·.1) = ks := by
  cases r with
  | dic f n e r => cases h; exact ⟨_, _, rfl, f, e⟩
  | @obj n a hn =>
    obtain ⟨o, ho, q⟩ := rm.at_ n a hn
    unfold keysOf at h
    dsimp only at h
    rw [ho] at h
    cases o with
    | dic ks' vs =>
      cases h
      obtain ⟨kvs, h1, h2, _⟩ := q
      exact ⟨a, kvs, rfl, h1, h2⟩
    | _ => cases h
  | _ => cases h
def inD (m : Mem) (d e : D) : Option Bool := match keysOf m e with
  | some ks => (keyD d).map fun (k : Key) => ks.any fun x => decide (x = k)
  | none => match d with
    | .int i => (numsD m e).map fun ns => decide (i ∈ ns)
    | .str z => ((seqOf m e).bind strsD).map fun zs => decide (z ∈ zs)
    | _ => none
def oIn (neg : Bool) (d e : D) (m : Mem) : R D := match inD m d e with
  | some b => .ok (.bl (if neg then !b else b)) m
  | none => .bad
def rInK (neg : Bool) : R2 := fun x y H Q => ∃ a kvs k, x = kV k ∧ y = .ref a ∧ H a = some (.dK kvs) ∧ Q (.bl (if neg then !(valV kvs k).isSome else (valV kvs k).isSome)) H
section
variable {X : Cx}
theorem op_inK {k : Nat} (hr : Room k X.A) : OpR X (compareOp .In) (rInK false) := by
  intro pins s σ H x y v u Q I rx ry h
  obtain ⟨a, kvs, k, rfl, rfl, ha, q⟩ := h
  cases ry
  exact d_in (by have := hr.units; omega) I (DGet.k ha) rx fun s' I' => ⟨.bl _, H, I', rfl, q⟩
theorem op_notInK {k : Nat} (hr : Room k X.A) : OpR X (compareOp .NotIn) (rInK true) := by
  intro pins s σ H x y v u Q I rx ry h
  obtain ⟨a, kvs, k, rfl, rfl, ha, q⟩ := h
  cases ry
  exact d_notIn (by have := hr.units; omega) I (DGet.k ha) rx fun s' I' => ⟨.bl _, H, I', rfl, q⟩
end
abbrev rInA (K : PySem.W.Frag) (neg : Bool) : R2 := fun x y H Q => rInK neg x y H Q ∨ L2.rIn K neg x y H Q
theorem op_inA {X : Cx} {k : Nat} (hr : Room k X.A) : OpR X (compareOp .In) (rInA X.K false) := OpR.or (op_inK hr) op_in_seq
theorem op_notInA {X : Cx} {k : Nat} (hr : Room k X.A) : OpR X (compareOp .NotIn) (rInA X.K true) := OpR.or (op_notInK hr) op_notIn_seq
theorem inV_int (i : Int) (ns : List Int) : inV (.int i) (ns.map V.int) = decide (i ∈ ns) := by
  unfold inV
  rw [List.any_map]
  induction ns with
  | nil => rfl
  | cons n r ih =>
    rw [List.any_cons, ih]
    simp only [Function.comp, eqV, List.mem_cons]
    by_cases e : n = i
    · subst e; simp
    · have e2 : ¬ i = n := fun z => e z.symm
      simp [e, e2]
theorem inV_str (i : Str) (ns : List Str) : inV (.str i) (ns.map V.str) = decide (i ∈ ns) := by
  unfold inV
  rw [List.any_map]
  induction ns with
  | nil => rfl
  | cons n r ih =>
    rw [List.any_cons, ih]
    simp only [Function.comp, eqV, List.mem_cons]
    by_cases e : n = i
    · subst e; simp
    · have e2 : ¬ i = n := fun z => e z.symm
      simp [e, e2]
theorem flat_int (ns : List Int) : (ns.map V.int).all flatV = true := by induction ns <;> simp_all [flatV]
theorem flat_str (ns : List Str) : (ns.map V.str).all flatV = true := by induction ns <;> simp_all [flatV]
theorem O2.isin {W : WX} (K : PySem.W.Frag) (neg : Bool) : O2 K W (rInA K neg) (oIn neg) := by
  intro ρ m σ H Q d e x y rm rx ry h
  unfold oIn at h
  split at h
  · rename_i b hb
    unfold inD at hb
    split at hb
    · rename_i ks hk
      obtain ⟨q, e1, e2⟩ := Option.map_eq_some_iff.mp hb
      obtain ⟨a, kvs, ea, h1, h2⟩ := keysOf_ok rm ry hk
      refine .inl ⟨a, kvs, q, keyD_ok rx e1, ea, h1, ?_⟩
      have ev : (valV kvs q).isSome = b := by
        rw [← valV_any, ← e2, ← h2, List.any_map]; rfl
      rw [ev]
      exact fin rm (.bl _) h
    · split at hb
      · rename_i i
        cases rx
        obtain ⟨ns, e1, e2⟩ := Option.map_eq_some_iff.mp hb
        obtain ⟨a, ea, h1⟩ := numsD_ok rm ry e1
        refine .inr ⟨a, _, ea, h1, rfl, flat_int _, ?_⟩
        rw [inV_int, e2]
        exact fin rm (.bl _) h
      · rename_i z
        cases rx
        obtain ⟨zs, e1, e2⟩ := Option.map_eq_some_iff.mp hb
        obtain ⟨ys, e3, e4⟩ := Option.bind_eq_some_iff.mp e1
        obtain ⟨a, xs, ea, h1, h2⟩ := seqOf_ok rm ry e3
        rw [strsD_ok e4] at h2
        have ev := strs_of h2
        subst ev
        refine .inr ⟨a, _, ea, h1, rfl, flat_str _, ?_⟩
        rw [inV_str, e2]
        exact fin rm (.bl _) h
      · cases hb
  · exact h.elim
/-! ### x is True -/
def oIsB (neg : Bool) (d e : D) (m : Mem) : R D := match d, e with
  | .bl a, .bl b => .ok (.bl (if neg then !decide (a = b) else decide (a = b))) m
  | _, _ => .bad
theorem O2.isB {W : WX} (K : PySem.W.Frag) : O2 K W rIsB (oIsB false) := by
  intro ρ m σ H Q d e x y rm rx ry h
  unfold oIsB at h
  split at h
  · cases rx; cases ry
    exact ⟨_, _, rfl, rfl, fin rm (.bl _) h⟩
  · exact h.elim
theorem O2.notB {W : WX} (K : PySem.W.Frag) : O2 K W rNotB (oIsB true) := by
  intro ρ m σ H Q d e x y rm rx ry h
  unfold oIsB at h
  split at h
  · cases rx; cases ry
    exact ⟨_, _, rfl, rfl, fin rm (.bl _) h⟩
  · exact h.elim
/-! ### xs[::-1] -/
def oRev (o : Bool) (d : D) (m : Mem) : R D := match rget m d with
  | some xs => newL o xs.reverse m
  | none => .bad
theorem de_rev (o : Bool) {X : Cx} {W : WX} {a : Expr} {fa : EX} {k : Nat} {p1 p2 p3 pos : Pos} (ha : DE X W a fa) : DE X W (.Subscript a (.Slice none none (some (.UnaryOp .USub (.Constant (.int 1) k p1) p2)) p3) pos) (e1 (oRev o) fa) := by
  obtain ⟨ta, pa, sa⟩ := ha
  refine ⟨_, pe_revL pa, fun ρ loc m σ H Q rm rl h => ?_⟩
  refine sa.use rm rl h fun ρ1 m1 H1 d x l1 rm1 rl1 rx h1 => ?_
  unfold oRev at h1
  split at h1
  · rename_i xs e
    obtain ⟨a, vs, ea, h2, h3⟩ := rget_ok rm1 rx e
    exact ⟨a, vs, ea, h2, newL_ok rm1 h3.reverse h1⟩
  · exact h1.elim
/-! ### xs.remove(k), k there -/
def fRemove (xs as : List D) : Option (D × List D) := match as, intsD xs with
  | [.int k], some ns => if k ∈ ns then some (.non, (ns.erase k).map D.int) else none
  | _, _ => none
theorem erase_at : ∀ {ns : List Int} {k : Int}, k ∈ ns → ∃ j, ns[j]? = some k ∧ (∀ m : Nat, m < j → ns[m]? ≠ some k) ∧ ns.eraseIdx j = ns.erase k
  | [], _, h => by simp at h
  | n :: r, k, h => by
    by_cases e : n = k
    · subst e
      exact ⟨0, rfl, fun m hm => absurd hm (by omega), by simp⟩
    · have hk : k ∈ r := by
        rcases List.mem_cons.mp h with z | z
        · exact absurd z.symm e
        · exact z
      obtain ⟨j, h1, h2, h3⟩ := erase_at hk
      refine ⟨j + 1, by simpa using h1, fun m hm => ?_, ?_⟩
      · cases m with
        | zero => simpa using e
        | succ m => simpa using h2 m (by omega)
      · rw [List.eraseIdx_cons_succ, h3, List.erase_cons_tail (by simpa using e)]
theorem LM.remove : LM rRemI fRemove := by
  intro K ρ H a ds as ys xs vs d Q r1 r2 e ha q
  unfold fRemove at e
  split at e
  · rename_i k ns en
    split at e
    · rename_i hk
      cases e
      have ev := ints_of r1 (intsD_ok en)
      subst ev
      cases r2 with
      | cons r t =>
        cases t
        cases r
        obtain ⟨j, h1, h2, h3⟩ := erase_at hk
        refine ⟨a, ns, k, j, rfl, rfl, ha, h1, h2, ?_⟩
        rw [h3]
        exact q _ _ .non (intsRV _)
    · cases e
  · cases e
end DL

/-! DSet: comprehensions of sets of numbers, of dicts; the count of a set. -/
namespace DL
open PySem PySem.Spec PyProof.Rows L2 PpSet
/-- a new set of numbers by a comprehension -/
def tSetI (w : World) (wi : TI) (g : TG) (tt : TT) (te : TE) (vs : List Nat) : TE := fun σ H Q => wi σ H fun J H1 => ∀ L, H1 L = none → ∃ Y : Nat → Nat → Hp → Prop, (∃ k, Y 0 k (upd H1 L (SetO w L (fun _ => false) 0))) ∧ ∀ i k Hi, Y i k Hi →
  (J.stop i Hi ∧ Q (.ref L) Hi) ∨ (J.go i Hi ∧ ∃ Z : Hp → Prop, (∀ Hj, Z Hj → ∃ j, j < k ∧ Y (i + 1) j Hj) ∧ ∀ x Hj, J.yld i Hi x Hj → g x (wipe σ vs) Hj fun σ' Ha => wipe σ' vs = wipe σ vs ∧ tt σ' Ha fun b Hb =>
    if b = true then te σ' Hb fun y Hc => ∃ (z : Int) (S : Int → Bool) (n : Nat), y = .int z ∧ Hc L = some (SetO w L S n) ∧ n + 1 < scanBound ∧ Z (upd Hc L (SetO w L (fun j => S j || decide (j = z)) (if S z = true then n else n + 1))) else Z Hb)
section
variable {X : Cx} {elt tg iter : Expr} {ifs : List Expr} {scope : Scope} {own : List (Str × Nat)} {pos pos' : Pos} {wi : TI} {g : TG} {tt : TT} {te : TE}
theorem addI_ok {pins : List (Addr × Obj)} {τ : L2.St} {G : Hp} {s : Shared} {E : Value → Shared → Prop} {L : Addr} {S : Int → Bool} {n : Nat} {z : Int} {u : Tok} {Q : Value → Shared → Prop} (J : L2.Inv X pins τ G s) (hL : G L = some (SetO X.w L S n)) (room : n + 1 < scanBound)
    (q : ∀ t, L2.Inv X pins τ (upd G L (SetO X.w L (fun j => S j || decide (j = z)) (if S z = true then n else n + 1))) t → Q .none t) : wpAny (model X.prog X.w) X.A (call (.builtin "set.add") [.ref L, .int z u]) Q E s := by
  refine setR_add (setO_get J hL) room fun h1 same fresh => q _ ?_
  refine J.write (e := L) (t' := s.toks + 1) (by rw [hL]; trivial) (.inl rfl) (fun b o ne eo => (same.2 b ne).trans eo) ?_ (setO_new fresh)
  obtain ⟨o, _, _, _, eo, _⟩ := fresh
  exact ⟨o, eo⟩
theorem setI_core {pins : List (Addr × Obj)} {s : Shared} {σ : L2.St} {H : Hp} {Q : VK} {use : Option (Value → Sem Unit)} {Z : Value → Shared → Prop}
    (calm : X.calm = true) (nd : X.N.Nodup) (I : L2.Inv X pins σ H s) (di : PI X tg iter wi) (bk : BlkOk X.N X.env.scope scope own)
    (dg : ∀ (s0 : Shared) (H0 : Hp) (c0 : Addr) (l0 : List (Str × Addr)) (f0 : List Addr), PG (X.blk s0 H0 scope (compEnvC scope l0 c0 X.env) f0) tg g)
    (dt : ∀ (s0 : Shared) (H0 : Hp) (c0 : Addr) (l0 : List (Str × Addr)) (f0 : List Addr), PTs (X.blk s0 H0 scope (compEnvC scope l0 c0 X.env) f0) ifs tt)
    (de : ∀ (s0 : Shared) (H0 : Hp) (c0 : Addr) (l0 : List (Str × Addr)) (f0 : List Addr), PE (X.blk s0 H0 scope (compEnvC scope l0 c0 X.env) f0) elt te) (fs : ∀ x, foldedSetIterable iter X.env x = pure x)
    (h : tSetI X.w wi g tt te (own.map (·.2)) σ H Q)
    (back : ∀ L c sz mp Hz, L2.Inv X pins σ Hz sz → Q (.ref L) Hz → sz.heap.Ns c mp → FpOk X pins Hz c → compPost (model X.prog X.w) X.A X.xe use Z (.ref L) c (.ok .next) sz) :
    wpAny (model X.prog X.w) X.A (comprehension (.SetComp elt [⟨tg, iter, ifs, 0⟩] scope pos) scope X.env pos' (newSet (.type "set")) false (eval iter X.env) use) Z X.xe s := by
  have clo : ∀ y ∈ scope.names, y.2 = .free → ∃ c, X.env.cells.lookup y.1 = some c := by
    intro y hy e
    exact (bk.free y hy e).elim (fun k => I.ok.has _ (.inl k)) fun k => I.ok.has _ (.inr k)
  refine wpAny_comprehension_free (use := use) rfl fs (closure_ok clo) bk.kind (fun y hy e => by rw [bk.uniq y hy, e]) (thn (di.run pins s σ H _ I h) fun _ _ q1 => thn q1 fun _ sa q2 => ?_)
  obtain ⟨it, fp, tn, J, Ha, rfl, Ia, T, sta, fpa, turn0⟩ := q2
  refine newSet_ok (newEnv_comp ?_)
  obtain ⟨L, hL⟩ : ∃ L, L = sa.heap.objs.size := ⟨_, rfl⟩
  have free : Ha L = none := Ia.hok.fresh (Nat.le_of_eq hL.symm)
  obtain ⟨Y, ⟨k0, y0⟩, turn⟩ := turn0 L free
  rw [← hL]
  obtain ⟨sb, esb⟩ : ∃ sb : Shared, sb = { sa with heap := sa.heap.push { cls := .type "set", dict := none, data := .set #[] 0 (.fresh 0 0 (!X.w.params.followText "set-order")) } } := ⟨_, rfl⟩
  have Ib : L2.Inv X pins σ (upd Ha L (SetO X.w L (fun _ => false) 0)) sb := by
    rw [esb]
    refine Ia.laid (t' := sa.toks) (fun _ _ e => Heap.get?_push_of_some _ e) (Nat.le_of_eq hL.symm) ?_
    rw [hL]
    exact setO_new (setR_fresh X.w)
  have eb : sb.heap = sa.heap.push { cls := .type "set", dict := none, data := .set #[] 0 (.fresh 0 0 (!X.w.params.followText "set-order")) } := by rw [esb]
  have fpb : ∀ b ∈ fp, FpOk X pins (upd Ha L (SetO X.w L (fun _ => false) 0)) b ∧ b < sb.heap.objs.size := by
    intro b hb
    obtain ⟨_, eo, _⟩ := T.obj _ _ sta b hb
    have low : b < sa.heap.objs.size := Heap.lt_size eo
    refine ⟨⟨?_, (fpa b hb).2⟩, by rw [eb, Heap.size_push]; exact Nat.lt_succ_of_lt low⟩
    rw [upd_ne (by rw [hL]; exact Nat.ne_of_lt low)]
    exact (fpa b hb).1
  have stb : tn 0 sb.heap := T.keep _ _ _ sta fun b _ o e => by rw [eb]; exact Heap.get?_push_of_some _ e
  rw [← esb]
  obtain ⟨Hb, eHb⟩ : ∃ Hb, Hb = upd Ha L (SetO X.w L (fun _ => false) 0) := ⟨_, rfl⟩
  rw [← eHb] at Ib fpb y0
  obtain ⟨cl, ecl⟩ : ∃ cl, cl = cellsFrom (sb.heap.objs.size + 1) scope.names (cloFrom X.env.cells scope.names []) := ⟨_, rfl⟩
  obtain ⟨ce, ece⟩ : ∃ ce, ce = compEnvC scope cl sb.heap.objs.size X.env := ⟨_, rfl⟩
  have J0 := block_start Ib bk nd fpb
  have kg := dg sb Hb sb.heap.objs.size cl fp
  have kt := dt sb Hb sb.heap.objs.size cl fp
  have ke := de sb Hb sb.heap.objs.size cl fp
  rw [← ecl, ← ece] at J0
  rw [← ece] at kg kt ke
  obtain ⟨sc, esc⟩ : ∃ sc : Shared, sc = { sb with heap := pushCells (sb.heap.push { cls := .type "dict", data := .dict #[] }) scope.names } := ⟨_, rfl⟩
  rw [← esc] at J0
  have cL : ce.locals = sb.heap.objs.size := by rw [ece]; rfl
  show codeAny _ _ (.compStart (.SetComp elt [⟨tg, iter, ifs, 0⟩] scope pos) 0 (.ref it) (.ref L) (compEnvC scope (cellsFrom (sb.heap.objs.size + 1) scope.names (cloFrom X.env.cells scope.names [])) sb.heap.objs.size X.env)) (compPost (model X.prog X.w) X.A X.xe use Z (.ref L) sb.heap.objs.size) { sb with heap := pushCells (sb.heap.push { cls := .type "dict", data := .dict #[] }) scope.names }
  rw [← ecl, ← ece, ← esc]
  have outside : ∀ b ∈ fp, Hb b = none := fun b hb => (fpb b hb).1.1
  have stc : tn 0 sc.heap := T.keep _ _ _ stb fun b _ o e => by rw [esc]; exact pushCells_keeps _ _ _ _ (Heap.get?_push_of_some _ e)
  have inner : ∀ {τ : L2.St} {G : Hp} {t : Shared}, L2.Inv (X.blk sb Hb scope ce fp) [] τ G t → (∀ b ∈ fp, G b = none) → ∀ b ∈ fp, FpOk (X.blk sb Hb scope ce fp) [] G b := by
    intro τ G t K no b hb
    refine ⟨no b hb, (K.ok.exf b hb).1, K.ok.exfs b hb, .inl hb, fun x c e => (K.ok.exf b hb).2 x c e, fun q hq => ?_⟩
    have : q ∈ ([] : List (Addr × Obj)) ++ [] := hq
    simp at this
  have loop : codeAny (model X.prog X.w) X.A (.compLoop (.SetComp elt [⟨tg, iter, ifs, 0⟩] scope pos) 0 (.ref it) (.ref L) ce) (compPost (model X.prog X.w) X.A X.xe use Z (.ref L) sb.heap.objs.size) sc := by
    refine compLoopS_any (fun k t => ∃ i G, L2.Inv (X.blk sb Hb scope ce fp) [] (wipe σ (own.map (·.2))) G t ∧ tn i t.heap ∧ (∀ b ∈ fp, G b = none) ∧ Y i k G) ?_ k0 ⟨0, Hb, J0, stc, outside, y0⟩
    rintro k t ⟨i, G, K, st, no, y⟩
    rcases turn i k G y with ⟨stop, fine⟩ | ⟨go, N, dec, step⟩
    · refine thnF (T.done (X.blk sb Hb scope ce fp) rfl rfl rfl calm i [] t _ G (fun _ _ => False) K (inner K no) st stop) fun r t1 ⟨er, K1⟩ => ?_
      subst er
      have K2 : L2.Inv X pins σ G t1 := Ib.call' (ch := fp) K1.os K1.base K1.hok K1.bare fun b hb => by
        obtain ⟨⟨_, a2, _, a4, a5, a6⟩, _⟩ := fpb b hb
        exact ⟨a4, a2, a5, a6⟩
      obtain ⟨mp, hmp, _⟩ := K1.loc
      have gone : G sb.heap.objs.size = none := cL ▸ K1.free
      have hmp : t1.heap.Ns sb.heap.objs.size mp := cL ▸ hmp
      exact back L _ t1 mp G K2 fine hmp (Ib.fpOk (Nat.le_refl _) gone)
    · refine thnF (T.item (X.blk sb Hb scope ce fp) rfl rfl rfl calm i [] t _ G (fun _ _ => False) K (inner K no) st go) fun r t1 ⟨u, er, h1⟩ => ?_
      subst er
      refine thnF h1 fun _ t2 ⟨x, G2, K2, rx, yx, st2, no2⟩ => ?_
      have K3 := K2.pinned (inner K2 no2) (T.obj _ _ st2)
      refine thnF (kg.run _ t2 _ G2 x u _ K3 rx (step x G2 yx)) fun _ t3 ⟨τ, G3, K4, ew, h3⟩ => ?_
      refine thnF (kt.run _ t3 τ G3 _ K4 h3) fun b t4 ⟨G4, K5, h4⟩ => ?_
      have close : ∀ {t' : Shared} {G' : Hp}, L2.Inv (X.blk sb Hb scope ce fp) ([] ++ pinsAt fp t2.heap) τ G' t' → N G' → ∃ j, j < k ∧ ∃ i' G', L2.Inv (X.blk sb Hb scope ce fp) [] (wipe σ (own.map (·.2))) G' t' ∧ tn i' t'.heap ∧ (∀ b ∈ fp, G' b = none) ∧ Y i' j G' := by
        intro t' G' K' nx
        obtain ⟨j, hj, yj⟩ := dec G' nx
        have held : ∀ b ∈ fp, ∀ o, t2.heap.get? b = some o → t'.heap.get? b = some o ∧ G' b = none := by
          intro b hb o eo
          have z := K'.pin (b, o) (List.mem_append_right _ (List.mem_append_right _ (mem_pinsAt hb eo)))
          exact ⟨z.1, z.2.1⟩
        refine ⟨j, hj, i + 1, G', ?_, T.keep _ _ _ st2 fun b hb o eo => (held b hb o eo).1, fun b hb => ?_, yj⟩
        · refine (K'.unpinned (pins := [])).weak (by rw [← ew, wipe_length]) fun n v e => ?_
          rw [← ew] at e
          exact (wipe_some e).1
        · obtain ⟨o, eo, _⟩ := T.obj _ _ st2 b hb
          exact (held b hb o eo).2
      cases b with
      | false =>
        simp only [Bool.false_eq_true, if_false] at h4 ⊢
        exact close K5 h4
      | true =>
        simp only [if_true] at h4 ⊢
        refine thnF (ke.run _ t4 τ G4 _ K5 h4) fun zv t5 ⟨yv, G5, K6, ry, z, S0, n0, ey, hS, room, nx⟩ => ?_
        subst ey
        obtain ⟨tk, rfl⟩ := ry
        exact addI_ok (X := X.blk sb Hb scope ce fp) K6 hS room fun t6 K7 => close K7 nx
  exact codeAny_compStart_set loop (T.self X.A 0 _ _ _ stc loop)
theorem pe_setI (calm : X.calm = true) (nd : X.N.Nodup) (di : PI X tg iter wi) (bk : BlkOk X.N X.env.scope scope own)
    (dg : ∀ (s0 : Shared) (H0 : Hp) (c0 : Addr) (l0 : List (Str × Addr)) (f0 : List Addr), PG (X.blk s0 H0 scope (compEnvC scope l0 c0 X.env) f0) tg g)
    (dt : ∀ (s0 : Shared) (H0 : Hp) (c0 : Addr) (l0 : List (Str × Addr)) (f0 : List Addr), PTs (X.blk s0 H0 scope (compEnvC scope l0 c0 X.env) f0) ifs tt)
    (de : ∀ (s0 : Shared) (H0 : Hp) (c0 : Addr) (l0 : List (Str × Addr)) (f0 : List Addr), PE (X.blk s0 H0 scope (compEnvC scope l0 c0 X.env) f0) elt te) (fs : ∀ x, foldedSetIterable iter X.env x = pure x := by intro _; rfl) :
    PE X (.SetComp elt [⟨tg, iter, ifs, 0⟩] scope pos) (tSetI X.w wi g tt te (own.map (·.2))) := by
  refine ⟨fun pins s σ H Q I h => ?_⟩
  rw [PpSet.eval_SetComp]
  refine setI_core calm nd I di bk dg dt de fs h fun L c sz mp Hz Iz q hn ⟨a0, a1, a2, a3, a4, a5⟩ => ⟨mp, hn, fun hh sm => ?_⟩
  exact ⟨.ref L, Hz, Iz.turned (t' := sz.toks) (fun b o ne e => (sm.2 b ne).trans e) a0 a1 a3 a4 a5, rfl, q⟩
end
end DL

/-! DSet2: over data: sorted({..}), {k: v for ..}, len(set(xs)), max(xs, default=d), *xs. -/
namespace DL
open PySem PySem.Spec PyProof.Rows L2 PpSet

/-! ### a place that holds a set is written: all else stands -/
section
variable {K : PySem.W.Frag} {ρ ρ1 : Rho} {H H1 : Hp} {L : Addr} {u : HO} {φ : Heap → Prop}
theorem FxL.ext {a : Addr} {xs : List V} (hL : H L = some (.ext φ)) (h : FxL K ρ H a xs) : FxL K ρ (upd H L u) a xs := by
  have ne : ∀ {o}, H a = some o → (∀ ψ, o ≠ .ext ψ) → a ≠ L := fun e q z => by subst z; rw [hL] at e; cases e; exact q _ rfl
  rcases h with ⟨h | ⟨o, h⟩, n⟩ | h
  · exact .inl ⟨.inl (by rw [upd_ne (ne h (by simp))]; exact h), n⟩
  · exact .inl ⟨.inr ⟨o, by rw [upd_ne (ne h (by simp))]; exact h⟩, n⟩
  · exact .inr h
theorem FxT.ext {a : Addr} {xs : List V} (hL : H L = some (.ext φ)) (h : FxT K ρ H a xs) : FxT K ρ (upd H L u) a xs := by
  have ne : ∀ {o}, H a = some o → (∀ ψ, o ≠ .ext ψ) → a ≠ L := fun e q z => by subst z; rw [hL] at e; cases e; exact q _ rfl
  rcases h with ⟨h | ⟨o, h⟩, n⟩ | h
  · exact .inl ⟨.inl (by rw [upd_ne (ne h (by simp))]; exact h), n⟩
  · exact .inl ⟨.inr ⟨o, by rw [upd_ne (ne h (by simp))]; exact h⟩, n⟩
  · exact .inr h
theorem at_ext {a : Addr} {o : HO} (hL : H L = some (.ext φ)) (e : H a = some o) (q : ∀ ψ, o ≠ .ext ψ) : upd H L u a = some o := by
  rw [upd_ne (fun z => by subst z; rw [hL] at e; cases e; exact q _ rfl)]
  exact e
mutual
theorem RV.ext (hL : H L = some (.ext φ)) : ∀ {d : D} {v : V}, RV K ρ H d v → RV K ρ (upd H L u) d v
  | _, _, .non => .non
  | _, _, .bl _ => .bl _
  | _, _, .int _ => .int _
  | _, _, .str _ => .str _
  | _, _, .tup f r => .tup (f.ext hL) (RVs.ext hL r)
  | _, _, .lst h n r => .lst (at_ext hL h (by simp)) n (RVs.ext hL r)
  | _, _, .ro f r => .ro (f.ext hL) (RVs.ext hL r)
  | _, _, .dic h n e r => .dic (at_ext hL h (by simp)) n e (RVs.ext hL r)
  | _, _, .ins h n e r => .ins (at_ext hL h (by simp)) n e (RVs.ext hL r)
  | _, _, .obj h => .obj h
  | _, _, .cls _ => .cls _
  | _, _, .ty _ => .ty _
  | _, _, .exn h n e r => .exn (at_ext hL h (by simp)) n e (RVs.ext hL r)
theorem RVs.ext (hL : H L = some (.ext φ)) : ∀ {ds : List D} {vs : List V}, RVs K ρ H ds vs → RVs K ρ (upd H L u) ds vs
  | _, _, .nil => .nil
  | _, _, .cons r t => .cons (RV.ext hL r) (RVs.ext hL t)
end
theorem RM.ext {m : Mem} (hL : H L = some (.ext φ)) (rm : RM K ρ H m) : RM K ρ (upd H L u) m := by
  refine ⟨rm.len, fun n a h => ?_, rm.inj⟩
  obtain ⟨o, ho, q⟩ := rm.at_ n a h
  refine ⟨o, ho, ?_⟩
  cases o with
  | lst ds => obtain ⟨xs, h1, h2⟩ := q; exact ⟨xs, at_ext hL h1 (by simp), h2.ext hL⟩
  | dic ks ds => obtain ⟨kvs, h1, h2, h3⟩ := q; exact ⟨kvs, at_ext hL h1 (by simp), h2, h3.ext hL⟩
  | dicT ks ds => obtain ⟨kvs, h1, h2, h3⟩ := q; exact ⟨kvs, at_ext hL h1 (by simp), h2, h3.ext hL⟩
  | ins C ns ds => obtain ⟨dx, fs, h1, h2, h3⟩ := q; exact ⟨dx, fs, at_ext hL h1 (by simp), h2, h3.ext hL⟩
  | dead => exact q.elim
theorem RL.ext {loc : Loc} {σ : St} (hL : H L = some (.ext φ)) (rl : RL K ρ H loc σ) : RL K ρ (upd H L u) loc σ := ⟨rl.1, fun i d h => by
  obtain ⟨v, h1, h2⟩ := rl.2 i d h
  exact ⟨v, h1, h2.ext hL⟩⟩
theorem Le.over {N : Nat} (l : Le N ρ1 H1 ρ H) (hL : H1 L = none) : Le N ρ1 H1 ρ (upd H L u) := ⟨l.len, l.pre, l.old, fun a o e n => by
  rw [upd_ne (ne_of_none e hL)]
  exact l.keep a o e n⟩
end

/-! ### sorted({e for x in xs}) -/
def scStep (ga : GX) (tt : ET) (te : EX) (d : D) (loc : Loc) (m : Mem) (acc : List Int) : R (List Int) := match ga d loc with
  | none => .bad
  | some l1 => match tt l1 m with
    | .ok false m1 => .ok acc m1
    | .ok true m1 => (match te l1 m1 with
      | .ok (.int z) m2 => if acc.length + 1 < scanBound then .ok (if z ∈ acc then acc else acc ++ [z]) m2 else .bad
      | _ => .bad)
    | _ => .bad
def scD (ga : GX) (tt : ET) (te : EX) : List D → Loc → Mem → List Int → R (List Int)
  | [], _, m, acc => .ok acc m
  | d :: ds, loc, m, acc => (scStep ga tt te d loc m acc).bind fun acc' m' => scD ga tt te ds loc m' acc'
open Classical in
noncomputable def scV (n : Nat) (xs : List D) (ga : GX) (tt : ET) (te : EX) : List D → Loc → Mem → List Int → R (List Int)
  | [], _, m, acc => if m[n]? = some (.lst xs) then .ok acc m else .bad
  | d :: ds, loc, m, acc => if m[n]? = some (.lst xs) then (scStep ga tt te d loc m acc).bind fun acc' m' => scV n xs ga tt te ds loc m' acc' else .bad
def scFin (o : Bool) (acc : List Int) (m : Mem) : R D := if acc.length < 64 then newL o ((srtI acc).map D.int) m else .bad
noncomputable def eSortS (o : Bool) (fi : ES) (ga : GX) (tt : ET) (te : EX) (vs : List Nat) : EX := bnd fi fun s loc m => match s with
  | .lv n false => (match m[n]? with
    | some (.lst xs) => (scV n xs ga tt te xs (wipeD loc vs) m []).bind (scFin o)
    | _ => .bad)
  | .lv _ true => .bad
  | .st ds => (scD ga tt te ds (wipeD loc vs) m []).bind (scFin o)
theorem set_more {w : World} {L : Addr} {acc : List Int} {z : Int} : SetO w L (fun j => decide (j ∈ acc) || decide (j = z)) (if decide (z ∈ acc) = true then acc.length else acc.length + 1) =
    SetO w L (fun j => decide (j ∈ (if z ∈ acc then acc else acc ++ [z]))) (if z ∈ acc then acc else acc ++ [z]).length := by
  by_cases h : z ∈ acc
  · simp only [h, decide_true, if_true]
    congr 1
    funext j
    by_cases e : j = z
    · subst e; simp [h]
    · simp [e]
  · simp only [h, decide_false, if_false, List.length_append, List.length_singleton, Bool.false_eq_true]
    congr 1
    funext j
    rw [Bool.eq_iff_iff]
    simp
section
variable {X : Cx} {W : WX} {elt tg iter : Expr} {ifs : List Expr} {scope : Scope} {own : List (Str × Nat)} {pos : Pos} {fi : ES} {ga : GX} {ts : List Nat} {ft : ET} {fe : EX} {k : Nat}
theorem sc_sem {K : PySem.W.Frag} {w : World} {wi : TI} (o : Bool) (si : SemJ K W (SrcR K) wi fi) {vs : List Nat} (hts : ∀ i ∈ ts, i ∈ vs) :
    SemJ K W (RV K) (fun σ H Q => tSetI w wi (canG K ga ts) (canR K (fun _ _ _ _ => False) RB ft) (canR K (fun _ _ _ _ => False) (RV K) fe) vs σ H fun x H' => rSortedSet w [x] H' Q) (eSortS o fi ga ft fe vs) := by
  intro ρ loc m σ H Q rm rl h
  refine si.use rm rl h fun ρ1 m1 H1 ss J l1 rm1 rl1 itr h1 => ?_
  cases ss with
  | lv n0 en =>
    cases en with
    | true => exact h1.elim
    | false =>
    dsimp only at h1
    cases hm : m1[n0]? with
    | none => rw [hm] at h1; exact h1.elim
    | some ob =>
    rw [hm] at h1
    cases ob with
    | lst ds =>
      dsimp only at h1
      intro L hL
      have out1 : some L ∉ ρ1 := rm1.out hL
      have l2 : Le ρ1.length ρ1 H1 ρ1 (upd H1 L (SetO w L (fun _ => false) 0)) := Le.fresh rm1 hL
      have rm2 : RM K ρ1 (upd H1 L (SetO w L (fun _ => false) 0)) m1 := rm1.fresh hL
      have e0 : SetO w L (fun _ => false) 0 = SetO w L (fun j => decide (j ∈ ([] : List Int))) ([] : List Int).length := by simp
      refine ⟨fun i mm H2 => ∃ ρ2 m2 acc, RM K ρ2 H2 m2 ∧ Le ρ1.length ρ1 H1 ρ2 H2 ∧ some L ∉ ρ2 ∧ H2 L = some (SetO w L (fun j => decide (j ∈ acc)) acc.length) ∧ acc.Nodup ∧ mm = ds.length - i ∧ i ≤ ds.length ∧
          GPost K W (RV K) ρ1 σ H1 ((scV n0 ds ga ft fe (ds.drop i) (wipeD loc vs) m2 acc).bind (scFin o)) Q ∧ RL K ρ2 H2 loc σ,
        ⟨ds.length, ρ1, m1, [], rm2, l2, out1, by rw [upd_same, e0], by simp, by simp, Nat.zero_le _, h1, rl1.mono l2⟩, ?_⟩
      rintro i mm H2 ⟨ρ2, m2, acc, rm2, l2, out2, hs2, nd, rfl, hi, h2, rl2⟩
      have hG : m2[n0]? = some (.lst ds) := by
        cases hq : ds.drop i with
        | nil => rw [hq] at h2; unfold scV at h2; split at h2 <;> first | assumption | exact h2.elim
        | cons _ _ => rw [hq] at h2; unfold scV at h2; split at h2 <;> first | assumption | exact h2.elim
      obtain ⟨it1, it2⟩ := itr ρ2 H2 m2 l2 rm2 ds hG
      by_cases hlt : i < ds.length
      · have hd : ds[i]? = some ds[i] := List.getElem?_eq_getElem hlt
        obtain ⟨go, yl⟩ := it1 i _ hd
        refine .inr ⟨go, fun H' => ∃ ρ' m' acc', RM K ρ' H' m' ∧ Le ρ1.length ρ1 H1 ρ' H' ∧ some L ∉ ρ' ∧ H' L = some (SetO w L (fun j => decide (j ∈ acc')) acc'.length) ∧ acc'.Nodup ∧
          GPost K W (RV K) ρ1 σ H1 ((scV n0 ds ga ft fe (ds.drop (i + 1)) (wipeD loc vs) m' acc').bind (scFin o)) Q ∧ RL K ρ' H' loc σ,
          fun H' ⟨ρ', m', acc', a1, a2, a3, a4, a5, a6, a7⟩ => ⟨ds.length - (i + 1), by omega, ρ', m', acc', a1, a2, a3, a4, a5, rfl, hlt, a6, a7⟩, fun x H3 hy => ?_⟩
        obtain ⟨l3, rm3, rv3⟩ := yl x H3 hy
        have hs3 := l3.keep L _ hs2 out2
        rw [List.drop_eq_getElem_cons hlt] at h2
        unfold scV at h2
        rw [if_pos hG] at h2
        cases e1 : ga ds[i] (wipeD loc vs) with
        | none => simp only [scStep, e1, R.bind] at h2; exact h2.elim
        | some lx =>
          have rlw : RL K ρ2 H3 (wipeD loc vs) (wipe σ vs) := wipe_rel (rl2.mono l3) _
          refine ⟨ρ2, _, lx, m2, ds[i], rm3, rlw, rv3, e1, fun σ4 rl4 n4 k4 => ⟨wipe_eq (by rw [n4, wipe_length]) k4 hts, ?_⟩⟩
          have l23 : Le ρ1.length ρ1 H1 ρ2 H3 := l2.trans (l3.less l2.len)
          cases e2 : ft lx m2 with
          | err _ _ => simp only [scStep, e1, e2, R.bind] at h2; exact h2.elim
          | bad => simp only [scStep, e1, e2, R.bind] at h2; exact h2.elim
          | ok b m3 =>
            refine ⟨ρ2, lx, m2, rm3, rl4, ?_⟩
            rw [e2]
            intro ρ5 H5 b' l5 rm5 eb
            subst eb
            have out5 := l5.out hs3 out2
            have hs5 := l5.keep L _ hs3 out2
            have l25 : Le ρ1.length ρ1 H1 ρ5 H5 := l23.trans (l5.less l2.len)
            have rl5 : RL K ρ5 H5 loc σ := (rl2.mono l3).mono l5
            cases b with
            | false =>
              simp only [scStep, e1, e2, R.bind] at h2
              exact ⟨ρ5, m3, acc, rm5, l25, out5, hs5, nd, h2, rl5⟩
            | true =>
              cases e3 : fe lx m3 with
              | err _ _ => simp only [scStep, e1, e2, e3, R.bind] at h2; exact h2.elim
              | bad => simp only [scStep, e1, e2, e3, R.bind] at h2; exact h2.elim
              | ok y m4 =>
                refine ⟨ρ5, lx, m3, rm5, rl4.mono l5, ?_⟩
                rw [e3]
                intro ρ6 H6 v l6 rm6 rv6
                have out6 := l6.out hs5 out5
                have hs6 := l6.keep L _ hs5 out5
                have l26 : Le ρ1.length ρ1 H1 ρ6 H6 := l25.trans (l6.less l25.len)
                cases rv6 with
                | int z =>
                  simp only [scStep, e1, e2, e3] at h2
                  by_cases hz : acc.length + 1 < scanBound
                  · rw [if_pos hz] at h2
                    refine ⟨z, _, _, rfl, hs6, hz, ρ6, m4, (if z ∈ acc then acc else acc ++ [z]), rm6.ext hs6, l26.over hL, out6, by rw [upd_same, ← set_more], ?_, h2, ((rl5.mono l6).ext hs6)⟩
                    by_cases hm : z ∈ acc
                    · rw [if_pos hm]; exact nd
                    · rw [if_neg hm, List.nodup_append]
                      exact ⟨nd, by simp, fun a ha b hb e => by rw [List.mem_singleton] at hb; subst hb; subst e; exact hm ha⟩
                  · rw [if_neg hz] at h2; exact h2.elim
                | _ => simp only [scStep, e1, e2, e3, R.bind] at h2; exact h2.elim
      · have e : i = ds.length := by omega
        subst e
        refine .inl ⟨it2 _ (Nat.le_refl _), ?_⟩
        rw [List.drop_length] at h2
        unfold scV at h2
        rw [if_pos hG] at h2
        simp only [R.bind, scFin] at h2
        split at h2
        · rename_i hl
          refine ⟨L, _, _, rfl, hs2, hl, fun ns p asc mem len hp => ?_⟩
          have e1 : ns = srtI acc := srtI_of (M18.perm_of (asc.imp fun h => Int.ne_of_lt h) nd fun n => by rw [mem n, decide_eq_true_eq]) (asc.imp fun h => Int.le_of_lt h)
          subst e1
          unfold newL at h2
          cases o with
          | true =>
            have l5 : Le ρ2.length ρ2 H2 (ρ2 ++ [some p]) (upd H2 p (.lst ((srtI acc).map V.int))) := Le.push rm2 hp (Nat.le_refl _)
            exact h2 (ρ2 ++ [some p]) _ _ (l2.trans (l5.less l2.len)) (rm2.push hp ⟨_, upd_same, intsRV _⟩) (.obj (by rw [← rm2.len]; simp))
          | false =>
            have l5 : Le ρ2.length ρ2 H2 ρ2 (upd H2 p (.lst ((srtI acc).map V.int))) := Le.fresh rm2 hp
            exact h2 ρ2 _ _ (l2.trans (l5.less l2.len)) (rm2.fresh hp) (.lst upd_same (rm2.out hp) (intsRV _))
        · exact h2.elim
    | _ => exact h1.elim
  | st ds =>
  intro L hL
  have out1 : some L ∉ ρ1 := rm1.out hL
  have l2 : Le ρ1.length ρ1 H1 ρ1 (upd H1 L (SetO w L (fun _ => false) 0)) := Le.fresh rm1 hL
  have rm2 : RM K ρ1 (upd H1 L (SetO w L (fun _ => false) 0)) m1 := rm1.fresh hL
  have e0 : SetO w L (fun _ => false) 0 = SetO w L (fun j => decide (j ∈ ([] : List Int))) ([] : List Int).length := by simp
  refine ⟨fun i mm H2 => ∃ ρ2 m2 acc, RM K ρ2 H2 m2 ∧ Le ρ1.length ρ1 H1 ρ2 H2 ∧ some L ∉ ρ2 ∧ H2 L = some (SetO w L (fun j => decide (j ∈ acc)) acc.length) ∧ acc.Nodup ∧ mm = ds.length - i ∧ i ≤ ds.length ∧
      GPost K W (RV K) ρ1 σ H1 ((scD ga ft fe (ds.drop i) (wipeD loc vs) m2 acc).bind (scFin o)) Q ∧ RL K ρ2 H2 loc σ,
    ⟨ds.length, ρ1, m1, [], rm2, l2, out1, by rw [upd_same, e0], by simp, by simp, Nat.zero_le _, h1, rl1.mono l2⟩, ?_⟩
  rintro i mm H2 ⟨ρ2, m2, acc, rm2, l2, out2, hs2, nd, rfl, hi, h2, rl2⟩
  obtain ⟨it1, it2⟩ := itr ρ2 H2 m2 l2 rm2
  by_cases hlt : i < ds.length
  · have hd : ds[i]? = some ds[i] := List.getElem?_eq_getElem hlt
    obtain ⟨go, yl⟩ := it1 i _ hd
    refine .inr ⟨go, fun H' => ∃ ρ' m' acc', RM K ρ' H' m' ∧ Le ρ1.length ρ1 H1 ρ' H' ∧ some L ∉ ρ' ∧ H' L = some (SetO w L (fun j => decide (j ∈ acc')) acc'.length) ∧ acc'.Nodup ∧
      GPost K W (RV K) ρ1 σ H1 ((scD ga ft fe (ds.drop (i + 1)) (wipeD loc vs) m' acc').bind (scFin o)) Q ∧ RL K ρ' H' loc σ,
      fun H' ⟨ρ', m', acc', a1, a2, a3, a4, a5, a6, a7⟩ => ⟨ds.length - (i + 1), by omega, ρ', m', acc', a1, a2, a3, a4, a5, rfl, hlt, a6, a7⟩, fun x H3 hy => ?_⟩
    obtain ⟨l3, rm3, rv3⟩ := yl x H3 hy
    have hs3 := l3.keep L _ hs2 out2
    rw [List.drop_eq_getElem_cons hlt] at h2
    unfold scD at h2
    cases e1 : ga ds[i] (wipeD loc vs) with
    | none => simp only [scStep, e1, R.bind] at h2; exact h2.elim
    | some lx =>
      have rlw : RL K ρ2 H3 (wipeD loc vs) (wipe σ vs) := wipe_rel (rl2.mono l3) _
      refine ⟨ρ2, _, lx, m2, ds[i], rm3, rlw, rv3, e1, fun σ4 rl4 n4 k4 => ⟨wipe_eq (by rw [n4, wipe_length]) k4 hts, ?_⟩⟩
      have l23 : Le ρ1.length ρ1 H1 ρ2 H3 := l2.trans (l3.less l2.len)
      cases e2 : ft lx m2 with
      | err _ _ => simp only [scStep, e1, e2, R.bind] at h2; exact h2.elim
      | bad => simp only [scStep, e1, e2, R.bind] at h2; exact h2.elim
      | ok b m3 =>
        refine ⟨ρ2, lx, m2, rm3, rl4, ?_⟩
        rw [e2]
        intro ρ5 H5 b' l5 rm5 eb
        subst eb
        have out5 := l5.out hs3 out2
        have hs5 := l5.keep L _ hs3 out2
        have l25 : Le ρ1.length ρ1 H1 ρ5 H5 := l23.trans (l5.less l2.len)
        have rl5 : RL K ρ5 H5 loc σ := (rl2.mono l3).mono l5
        cases b with
        | false =>
          simp only [scStep, e1, e2, R.bind] at h2
          exact ⟨ρ5, m3, acc, rm5, l25, out5, hs5, nd, h2, rl5⟩
        | true =>
          cases e3 : fe lx m3 with
          | err _ _ => simp only [scStep, e1, e2, e3, R.bind] at h2; exact h2.elim
          | bad => simp only [scStep, e1, e2, e3, R.bind] at h2; exact h2.elim
          | ok y m4 =>
            refine ⟨ρ5, lx, m3, rm5, rl4.mono l5, ?_⟩
            rw [e3]
            intro ρ6 H6 v l6 rm6 rv6
            have out6 := l6.out hs5 out5
            have hs6 := l6.keep L _ hs5 out5
            have l26 : Le ρ1.length ρ1 H1 ρ6 H6 := l25.trans (l6.less l25.len)
            cases rv6 with
            | int z =>
              simp only [scStep, e1, e2, e3] at h2
              by_cases hz : acc.length + 1 < scanBound
              · rw [if_pos hz] at h2
                refine ⟨z, _, _, rfl, hs6, hz, ρ6, m4, (if z ∈ acc then acc else acc ++ [z]), rm6.ext hs6, l26.over hL, out6, by rw [upd_same, ← set_more], ?_, h2, ((rl5.mono l6).ext hs6)⟩
                by_cases hm : z ∈ acc
                · rw [if_pos hm]; exact nd
                · rw [if_neg hm, List.nodup_append]
                  exact ⟨nd, by simp, fun a ha b hb e => by rw [List.mem_singleton] at hb; subst hb; subst e; exact hm ha⟩
              · rw [if_neg hz] at h2; exact h2.elim
            | _ => simp only [scStep, e1, e2, e3, R.bind] at h2; exact h2.elim
  · have e : i = ds.length := by omega
    subst e
    refine .inl ⟨it2 _ (Nat.le_refl _), ?_⟩
    rw [List.drop_length] at h2
    simp only [scD, R.bind, scFin] at h2
    split at h2
    · rename_i hl
      refine ⟨L, _, _, rfl, hs2, hl, fun ns p asc mem len hp => ?_⟩
      have e1 : ns = srtI acc := srtI_of (M18.perm_of (asc.imp fun h => Int.ne_of_lt h) nd fun n => by rw [mem n, decide_eq_true_eq]) (asc.imp fun h => Int.le_of_lt h)
      subst e1
      unfold newL at h2
      cases o with
      | true =>
        have l5 : Le ρ2.length ρ2 H2 (ρ2 ++ [some p]) (upd H2 p (.lst ((srtI acc).map V.int))) := Le.push rm2 hp (Nat.le_refl _)
        exact h2 (ρ2 ++ [some p]) _ _ (l2.trans (l5.less l2.len)) (rm2.push hp ⟨_, upd_same, intsRV _⟩) (.obj (by rw [← rm2.len]; simp))
      | false =>
        have l5 : Le ρ2.length ρ2 H2 ρ2 (upd H2 p (.lst ((srtI acc).map V.int))) := Le.fresh rm2 hp
        exact h2 ρ2 _ _ (l2.trans (l5.less l2.len)) (rm2.fresh hp) (.lst upd_same (rm2.out hp) (intsRV _))
    · exact h2.elim
theorem de_sortS (o : Bool) {p2 p3 : Pos} (C : Ctx X W k) (hi : DI X W tg iter fi) (ok : BlkOk X.N X.env.scope scope own)
    (hg : ∀ (s : Shared) (H : Hp) (Cc : Addr) (cl : List (Str × Addr)) (fp : List Addr), Ctx (X.blk s H scope (compEnvC scope cl Cc X.env) fp) (fun _ _ _ _ => False) k → DG (X.blk s H scope (compEnvC scope cl Cc X.env) fp) tg ga ts)
    (ht : ∀ (s : Shared) (H : Hp) (Cc : Addr) (cl : List (Str × Addr)) (fp : List Addr), Ctx (X.blk s H scope (compEnvC scope cl Cc X.env) fp) (fun _ _ _ _ => False) k → DTs (X.blk s H scope (compEnvC scope cl Cc X.env) fp) (fun _ _ _ _ => False) ifs ft)
    (he : ∀ (s : Shared) (H : Hp) (Cc : Addr) (cl : List (Str × Addr)) (fp : List Addr), Ctx (X.blk s H scope (compEnvC scope cl Cc X.env) fp) (fun _ _ _ _ => False) k → DE (X.blk s H scope (compEnvC scope cl Cc X.env) fp) (fun _ _ _ _ => False) elt fe)
    (gl : Gl X "sorted") (hm : X.mg "sorted" = none)
    (hts : ∀ i ∈ ts, i ∈ own.map (·.2) := by decide) (hs : ∀ x, foldedSetIterable iter X.env x = pure x := by intro _; rfl)
    (hst : starEach [.SetComp elt [⟨tg, iter, ifs, 0⟩] scope pos] X.env = (false, eval (.SetComp elt [⟨tg, iter, ifs, 0⟩] scope pos) X.env) :: starEach [] X.env := by rfl) :
    DE X W (.Call (.Name "sorted" p2) [.SetComp elt [⟨tg, iter, ifs, 0⟩] scope pos] [] p3) (eSortS o fi ga ft fe (own.map (·.2))) := by
  obtain ⟨wi, pi, si⟩ := hi
  exact ⟨_, pe_callB (cr_sortedSet C.calm) gl hm (by decide +kernel) (pa_cons (pe_setI (g := canG X.K ga ts) (tt := canR X.K (fun _ _ _ _ => False) RB ft) (te := canR X.K (fun _ _ _ _ => False) (RV X.K) fe) C.calm C.nd pi ok (fun s H Cc cl fp => (hg s H Cc cl fp C.blk).can) (fun s H Cc cl fp => ht s H Cc cl fp C.blk) (fun s H Cc cl fp => (he s H Cc cl fp C.blk).can) hs) pa_nil hst) (by decide) (by decide) hst (by rfl), sc_sem o si hts⟩
end
end DL

/-! DSet3: {k: v for ..}, len(set(xs)), max(xs, default=d), *xs. -/
namespace DL
open PySem PySem.Spec PyProof.Rows L2 PpSet

/-! ### {k: v for x in xs}, the keys unlike -/
def dcStep (ga : GX) (tt : ET) (tk tv : EX) (N : Nat) (d : D) (loc : Loc) (m : Mem) : R Unit := match ga d loc with
  | none => .bad
  | some l1 => match tt l1 m with
    | .ok false m1 => .ok () m1
    | .ok true m1 => (match tk l1 m1 with
      | .ok y m2 => (match tv l1 m2 with
        | .ok z m3 => (match m3[N]?, keyD y with
          | some (.dic ks vs), some q => if (!ks.any fun x => decide (x = q)) = true ∧ ks.length < sizeLine then .ok () (m3.set N (.dic (ks ++ [q]) (vs ++ [z]))) else .bad
          | _, _ => .bad)
        | _ => .bad)
      | _ => .bad)
    | _ => .bad
def dcD (ga : GX) (tt : ET) (tk tv : EX) (N : Nat) : List D → Loc → Mem → R Unit
  | [], _, m => .ok () m
  | d :: ds, loc, m => (dcStep ga tt tk tv N d loc m).bind fun _ m' => dcD ga tt tk tv N ds loc m'
def dcEnd (N : Nat) (m : Mem) : R D := match m[N]? with
  | some (.dic ks ys) => if (decide (m.length = N + 1) && D.unds N ys && Mem.und N (m.take N)) = true then .ok (.dic ks ys) (m.take N) else .ok (.obj N) m
  | _ => .bad
def eDc (fi : ES) (ga : GX) (tt : ET) (tk tv : EX) (vs : List Nat) : EX := bnd fi fun s loc m => match s with
  | .lv _ _ => .bad
  | .st ds => (dcD ga tt tk tv m.length ds (wipeD loc vs) (m ++ [.dic [] []])).bind fun _ m' => dcEnd m.length m'
section
variable {X : Cx} {W : WX} {kx vx tg iter : Expr} {ifs : List Expr} {scope : Scope} {own : List (Str × Nat)} {pos : Pos} {fi : ES} {ga : GX} {ts : List Nat} {ft : ET} {fk fv : EX} {k : Nat}
theorem dc_sem {K : PySem.W.Frag} {wi : TI} (si : SemJ K W (SrcR K) wi fi) {vs : List Nat} (hts : ∀ i ∈ ts, i ∈ vs) :
    SemJ K W (RV K) (tDc wi (canG K ga ts) (canR K (fun _ _ _ _ => False) RB ft) (canR K (fun _ _ _ _ => False) (RV K) fk) (canR K (fun _ _ _ _ => False) (RV K) fv) vs) (eDc fi ga ft fk fv vs) := by
  intro ρ loc m σ H Q rm rl h
  refine si.use rm rl h fun ρ1 m1 H1 ss J l1 rm1 rl1 itr h1 => ?_
  cases ss with
  | lv n en => exact h1.elim
  | st ds =>
  intro L hL
  have hN : m1.length = ρ1.length := rm1.len.symm
  have l2 : Le ρ1.length ρ1 H1 (ρ1 ++ [some L]) (upd H1 L (.dK [])) := Le.push rm1 hL (Nat.le_refl _)
  have rm2 : RM K (ρ1 ++ [some L]) (upd H1 L (.dK [])) (m1 ++ [.dic [] []]) := rm1.push hL ⟨[], upd_same, rfl, .nil⟩
  have hb2 : (ρ1 ++ [some L])[ρ1.length]? = some (some L) := by simp
  refine ⟨fun i mm H2 => ∃ ρ2 m2, RM K ρ2 H2 m2 ∧ Le ρ1.length ρ1 H1 ρ2 H2 ∧ ρ2[ρ1.length]? = some (some L) ∧ mm = ds.length - i ∧ i ≤ ds.length ∧
      GPost K W (RV K) ρ1 σ H1 ((dcD ga ft fk fv m1.length (ds.drop i) (wipeD loc vs) m2).bind fun _ m' => dcEnd m1.length m') Q ∧ RL K ρ2 H2 loc σ,
    ⟨ds.length, _, _, rm2, l2, hb2, by simp, Nat.zero_le _, h1, rl1.mono l2⟩, ?_⟩
  rintro i mm H2 ⟨ρ2, m2, rm2, l2, hb2, rfl, hi, h2, rl2⟩
  obtain ⟨it1, it2⟩ := itr ρ2 H2 m2 l2 rm2
  by_cases hlt : i < ds.length
  · have hd : ds[i]? = some ds[i] := List.getElem?_eq_getElem hlt
    obtain ⟨go, yl⟩ := it1 i _ hd
    refine .inr ⟨go, fun H' => ∃ ρ' m', RM K ρ' H' m' ∧ Le ρ1.length ρ1 H1 ρ' H' ∧ ρ'[ρ1.length]? = some (some L) ∧
      GPost K W (RV K) ρ1 σ H1 ((dcD ga ft fk fv m1.length (ds.drop (i + 1)) (wipeD loc vs) m').bind fun _ m' => dcEnd m1.length m') Q ∧ RL K ρ' H' loc σ,
      fun H' ⟨ρ', m', a1, a2, a3, a4, a5⟩ => ⟨ds.length - (i + 1), by omega, ρ', m', a1, a2, a3, rfl, hlt, a4, a5⟩, fun x H3 hy => ?_⟩
    obtain ⟨l3, rm3, rv3⟩ := yl x H3 hy
    rw [List.drop_eq_getElem_cons hlt] at h2
    unfold dcD at h2
    cases e1 : ga ds[i] (wipeD loc vs) with
    | none => simp only [dcStep, e1, R.bind] at h2; exact h2.elim
    | some lx =>
      have rlw : RL K ρ2 H3 (wipeD loc vs) (wipe σ vs) := wipe_rel (rl2.mono l3) _
      refine ⟨ρ2, _, lx, m2, ds[i], rm3, rlw, rv3, e1, fun σ4 rl4 n4 k4 => ⟨wipe_eq (by rw [n4, wipe_length]) k4 hts, ?_⟩⟩
      have l23 : Le ρ1.length ρ1 H1 ρ2 H3 := l2.trans (l3.less l2.len)
      cases e2 : ft lx m2 with
      | err _ _ => simp only [dcStep, e1, e2, R.bind] at h2; exact h2.elim
      | bad => simp only [dcStep, e1, e2, R.bind] at h2; exact h2.elim
      | ok b m3 =>
        refine ⟨ρ2, lx, m2, rm3, rl4, ?_⟩
        rw [e2]
        intro ρ5 H5 b' l5 rm5 eb
        subst eb
        have hb5 : ρ5[ρ1.length]? = some (some L) := by rw [l5.pre _ (List.getElem?_eq_some_iff.mp hb2).1]; exact hb2
        have l25 : Le ρ1.length ρ1 H1 ρ5 H5 := l23.trans (l5.less l2.len)
        have rl5 : RL K ρ5 H5 loc σ := (rl2.mono l3).mono l5
        cases b with
        | false =>
          simp only [dcStep, e1, e2, R.bind] at h2
          exact ⟨ρ5, m3, rm5, l25, hb5, h2, rl5⟩
        | true =>
          cases e3 : fk lx m3 with
          | err _ _ => simp only [dcStep, e1, e2, e3, R.bind] at h2; exact h2.elim
          | bad => simp only [dcStep, e1, e2, e3, R.bind] at h2; exact h2.elim
          | ok y m4 =>
            refine ⟨ρ5, lx, m3, rm5, rl4.mono l5, ?_⟩
            rw [e3]
            intro ρ6 H6 kv l6 rm6 rv6
            have hb6 : ρ6[ρ1.length]? = some (some L) := by rw [l6.pre _ (List.getElem?_eq_some_iff.mp hb5).1]; exact hb5
            have l26 : Le ρ1.length ρ1 H1 ρ6 H6 := l25.trans (l6.less l25.len)
            cases e4 : fv lx m4 with
            | err _ _ => simp only [dcStep, e1, e2, e3, e4, R.bind] at h2; exact h2.elim
            | bad => simp only [dcStep, e1, e2, e3, e4, R.bind] at h2; exact h2.elim
            | ok z m5 =>
              simp only [dcStep, e1, e2, e3, e4] at h2
              refine ⟨ρ6, lx, m4, rm6, (rl4.mono l5).mono l6, ?_⟩
              rw [e4]
              intro ρ7 H7 zv l7 rm7 rv7
              have hb7 : ρ7[ρ1.length]? = some (some L) := by rw [l7.pre _ (List.getElem?_eq_some_iff.mp hb6).1]; exact hb6
              have l27 : Le ρ1.length ρ1 H1 ρ7 H7 := l26.trans (l7.less l26.len)
              split at h2
              · rename_i ks us q em ek
                split at h2
                · rename_i hc
                  obtain ⟨hc1, hc2⟩ := hc
                  rw [hN] at em
                  obtain ⟨kvs, g1, g2, g3⟩ := rm7.dicAt hb7 em
                  have hnone : valV kvs q = none := by
                    have a1 := valV_any q kvs
                    have a2 : (kvs.any fun kv => decide (kv.1 = q)) = false := by
                      rw [← g2, List.any_map] at hc1
                      simpa using hc1
                    rw [a2] at a1
                    cases e : valV kvs q with
                    | none => rfl
                    | some _ => rw [e] at a1; cases a1
                  have ekv : kv = kV q := keyD_ok rv6 ek
                  have hlen : kvs.length < sizeLine := by rw [← g2, List.length_map] at hc2; exact hc2
                  obtain ⟨l8, rm8⟩ := rm7.dicSet hb7 (ks := ks ++ [q]) (ds := us ++ [z]) (kvs := kvs ++ [(q, zv)]) (by simp [g2]) (by rw [List.map_append]; exact g3.append (RVs.one rv7))
                  refine ⟨kvs, q, ekv, g1, hlen, ?_⟩
                  rw [putK_new _ hnone]
                  refine ⟨ρ7, _, rm8, l27.trans (l8.less l27.len), hb7, ?_, ((rl5.mono l6).mono l7).mono l8⟩
                  rw [← hN]
                  exact h2
                · simp only [R.bind] at h2; exact h2.elim
              · simp only [R.bind] at h2; exact h2.elim
  · have e : i = ds.length := by omega
    subst e
    refine .inl ⟨it2 _ (Nat.le_refl _), ?_⟩
    rw [List.drop_length] at h2
    simp only [dcD, R.bind] at h2
    unfold dcEnd at h2
    split at h2
    · rename_i ks ys e4
      split at h2
      · rename_i b
        simp only [Bool.and_eq_true, decide_eq_true_eq] at b
        obtain ⟨⟨b1, b2⟩, b3⟩ := b
        rw [hN] at e4 b2 b3 h2
        obtain ⟨kvs, g1, g2, g3⟩ := rm2.dicAt hb2 e4
        have nL : some L ∉ ρ2.take ρ1.length := fun z => by
          obtain ⟨j, hj⟩ := List.getElem?_of_mem z
          have hj2 : j < ρ1.length := by
            have q := (List.getElem?_eq_some_iff.mp hj).1
            rw [List.length_take] at q
            omega
          rw [List.getElem?_take_of_lt hj2] at hj
          have := rm2.inj _ _ _ hj hb2
          omega
        exact h2 _ H2 (.ref L) (l2.cut rfl) (rm2.cut b3) (.dic g1 nL g2 (g3.cut b2))
      · exact h2 ρ2 H2 (.ref L) l2 rm2 (.obj (by rw [hN]; exact hb2))
    · exact h2.elim
theorem de_dc (C : Ctx X W k) (hi : DI X W tg iter fi) (ok : BlkOk X.N X.env.scope scope own)
    (hg : ∀ (s : Shared) (H : Hp) (Cc : Addr) (cl : List (Str × Addr)) (fp : List Addr), Ctx (X.blk s H scope (compEnvC scope cl Cc X.env) fp) (fun _ _ _ _ => False) k → DG (X.blk s H scope (compEnvC scope cl Cc X.env) fp) tg ga ts)
    (ht : ∀ (s : Shared) (H : Hp) (Cc : Addr) (cl : List (Str × Addr)) (fp : List Addr), Ctx (X.blk s H scope (compEnvC scope cl Cc X.env) fp) (fun _ _ _ _ => False) k → DTs (X.blk s H scope (compEnvC scope cl Cc X.env) fp) (fun _ _ _ _ => False) ifs ft)
    (hk : ∀ (s : Shared) (H : Hp) (Cc : Addr) (cl : List (Str × Addr)) (fp : List Addr), Ctx (X.blk s H scope (compEnvC scope cl Cc X.env) fp) (fun _ _ _ _ => False) k → DE (X.blk s H scope (compEnvC scope cl Cc X.env) fp) (fun _ _ _ _ => False) kx fk)
    (he : ∀ (s : Shared) (H : Hp) (Cc : Addr) (cl : List (Str × Addr)) (fp : List Addr), Ctx (X.blk s H scope (compEnvC scope cl Cc X.env) fp) (fun _ _ _ _ => False) k → DE (X.blk s H scope (compEnvC scope cl Cc X.env) fp) (fun _ _ _ _ => False) vx fv)
    (hts : ∀ i ∈ ts, i ∈ own.map (·.2) := by decide) (hs : ∀ x, foldedSetIterable iter X.env x = pure x := by intro _; rfl) :
    DE X W (.DictComp kx vx [⟨tg, iter, ifs, 0⟩] scope pos) (eDc fi ga ft fk fv (own.map (·.2))) := by
  obtain ⟨wi, pi, si⟩ := hi
  exact ⟨_, pe_dc (g := canG X.K ga ts) (tt := canR X.K (fun _ _ _ _ => False) RB ft) (tk := canR X.K (fun _ _ _ _ => False) (RV X.K) fk) (tv := canR X.K (fun _ _ _ _ => False) (RV X.K) fv) C.calm C.nd pi ok (fun s H Cc cl fp => (hg s H Cc cl fp C.blk).can) (fun s H Cc cl fp => ht s H Cc cl fp C.blk)
    (fun s H Cc cl fp => (hk s H Cc cl fp C.blk).can) (fun s H Cc cl fp => (he s H Cc cl fp C.blk).can) hs, dc_sem si hts⟩

/-! ### [*a, *b] -/
def aStar (a : EX) (b : EL) : EL := bnd a fun x _ m => match seqOf m x with
  | some xs => .ok xs m
  | none => .bad
def aStar2 (a : EX) (b : EL) : EL := bnd a fun x loc m => match seqOf m x with
  | some xs => bnd b (fun ys _ m' => .ok (xs ++ ys) m') loc m
  | none => .bad
theorem da_star {e : Expr} {es : List Expr} {p : Pos} {fa : EX} {fs : EL} (ha : DE X W e fa) (hb : DA X W es fs) (hs : starEach (.Starred e p :: es) X.env = (true, eval e X.env) :: starEach es X.env := by rfl) : DA X W (.Starred e p :: es) (aStar2 fa fs) := by
  obtain ⟨ta, pa, sa⟩ := ha
  obtain ⟨tb, pb, sb⟩ := hb
  refine ⟨_, StX.pa_star pa pb hs, fun ρ loc m σ H Q rm rl h => ?_⟩
  refine sa.use rm rl h fun ρ1 m1 H1 d x l1 rm1 rl1 rx h1 => ?_
  split at h1
  · rename_i xs e
    obtain ⟨a, vs, ea, h2, h3⟩ := seqOf_ok rm1 rx e
    subst ea
    refine ⟨a, vs, rfl, h2.symm, ?_⟩
    refine sb.use rm1 rl1 h1 fun ρ2 m2 H2 ds us l2 rm2 rl2 rs h4 => ?_
    exact h4 ρ2 H2 _ Le.refl rm2 ((h3.mono l2).append rs)
  · exact h1.elim
end
end DL

/-! DSet4: len(set(xs)), max(xs, default=d). -/
namespace DL
open PySem PySem.Spec PyProof.Rows L2
def stepU (l : List Int) (k : Int) : List Int := if k ∈ l then l else l ++ [k]
/-- the numbers of xs, each once -/
def uniqI (ns : List Int) : List Int := ns.foldl stepU []
theorem stepU_nodup {l : List Int} {k : Int} (h : l.Nodup) : (stepU l k).Nodup := by
  unfold stepU
  split
  · exact h
  · rename_i hk
    rw [List.nodup_append]
    exact ⟨h, by simp, fun a ha b hb e => by rw [List.mem_singleton] at hb; subst hb; subst e; exact hk ha⟩
theorem mem_stepU {l : List Int} {k j : Int} : j ∈ stepU l k ↔ j ∈ l ∨ j = k := by
  unfold stepU
  split
  · rename_i h
    constructor
    · exact .inl
    · rintro (z | z)
      · exact z
      · subst z; exact h
  · simp
theorem fold_nodup : ∀ (ns l : List Int), l.Nodup → (ns.foldl stepU l).Nodup
  | [], l, h => h
  | n :: r, l, h => fold_nodup r _ (stepU_nodup h)
theorem mem_fold {j : Int} : ∀ (ns l : List Int), j ∈ ns.foldl stepU l ↔ j ∈ l ∨ j ∈ ns
  | [], l => by simp
  | n :: r, l => by
    rw [List.foldl_cons, mem_fold r, mem_stepU, List.mem_cons, or_assoc]
theorem uniq_nodup (ns : List Int) : (uniqI ns).Nodup := fold_nodup ns [] (by simp)
theorem mem_uniq {ns : List Int} {j : Int} : j ∈ uniqI ns ↔ j ∈ ns := by rw [uniqI, mem_fold]; simp
theorem fold_le : ∀ (ns l : List Int), (ns.foldl stepU l).length ≤ l.length + ns.length
  | [], l => by simp
  | n :: r, l => by
    have := fold_le r (stepU l n)
    have h2 : (stepU l n).length ≤ l.length + 1 := by unfold stepU; split <;> simp
    simp only [List.foldl_cons, List.length_cons]
    omega
theorem uniq_len {ns : List Int} : (uniqI ns).length = ns.length ↔ ns.Nodup := by
  constructor
  · intro h
    have key : ∀ (ns l : List Int), l.Nodup → (ns.foldl stepU l).length = l.length + ns.length → (l ++ ns).Nodup := by
      intro ns
      induction ns with
      | nil => intro l h _; simpa using h
      | cons n r ih =>
        intro l hl e
        simp only [List.foldl_cons, List.length_cons] at e
        have b := fold_le r (stepU l n)
        by_cases hk : n ∈ l
        · have es : stepU l n = l := by unfold stepU; rw [if_pos hk]
          rw [es] at b e
          omega
        · have es : stepU l n = l ++ [n] := by unfold stepU; rw [if_neg hk]
          have hn := stepU_nodup (k := n) hl
          rw [es] at e hn
          have := ih (l ++ [n]) hn (by rw [e]; simp; omega)
          simpa using this
    simpa using key ns [] (by simp) (by simpa [uniqI] using h)
  · intro h
    exact (M18.perm_of (uniq_nodup ns) h fun n => mem_uniq).length_eq
theorem met_uniq (ns : List Int) : (firstMet (fun i => ns.getD i 0) ns.length).length = (uniqI ns).length := by
  have e : (List.range ns.length).map (fun i => ns.getD i 0) = ns := by
    apply List.ext_getElem
    · simp
    · intro i h1 h2
      simp [List.getD_eq_getElem?_getD, List.getElem?_eq_getElem h2]
  unfold firstMet uniqI
  rw [e]
  have e2 : ∀ (l : List Int) (k : Int), step_dedup l k = stepU l k := by
    intro l k
    unfold step_dedup stepU
    by_cases h : k ∈ l
    · have : (l.any (· == k)) = true := List.any_eq_true.mpr ⟨k, h, by simp⟩
      rw [if_pos this, if_pos h]
    · have : ¬ (l.any (· == k)) = true := fun z => by
        obtain ⟨x, hx, ex⟩ := List.any_eq_true.mp z
        rw [beq_iff_eq] at ex
        subst ex
        exact h hx
      rw [if_neg this, if_neg h]
  have e3 : (step_dedup : List Int → Int → List Int) = stepU := funext fun l => funext fun k => e2 l k
  rw [e3]
/-- len(set(xs)), xs a list or a tuple of ints -/
def tLenSet (K : PySem.W.Frag) (ta : TE) : TE := fun σ H Q => ta σ H fun x H1 => ∃ l, ∃ ns : List Int, x = .ref l ∧ (SqL K H1 l (ns.map V.int) ∨ SqT K H1 l (ns.map V.int)) ∧ ns.length ≤ 1000 ∧ Q (.int (uniqI ns).length) H1
section
variable {X : Cx} {W : WX} {a : Expr} {ta : TE} {fa : EX} {p p2 q pos : Pos} {k : Nat}
theorem pe_lenSetA (calm : X.calm = true) (hg : Gl X "len") (hm : X.mg "len" = none) (hg2 : Gl X "set") (hm2 : X.mg "set" = none) (ha : PE X a ta)
    (na : starEach [a] X.env = (false, eval a X.env) :: starEach [] X.env := by rfl) : PE X (.Call (.Name "len" p) [.Call (.Name "set" p2) [a] [] q] [] pos) (tLenSet X.K ta) := by
  refine ⟨fun pins s σ H Q I h => Call_ (ld_blt I hg hm PySem.boot_len ?_)⟩
  refine PyProof.Rows.callWith_builtin1 (PyProof.Rows.args_cons ?_ rfl) rfl rfl
  refine Call_ (ld_blt I hg2 hm2 PyProof.Rows.boot_set ?_)
  refine PyProof.Rows.callWith_type1 (PyProof.Rows.args_cons (thn (ha.run pins s σ H _ I h) fun v s1 ⟨x, H1, J, rx, h1⟩ => PyProof.Rows.args_nil ?_) na) na rfl
  obtain ⟨l, ns, rfl, hq, few, fine⟩ := h1
  cases rx
  rcases hq with hq | hq
  · obtain ⟨its, r, pl, _⟩ := J.list hq
    have hl : its.toArray.size = ns.length := by rw [List.size_toArray, ← r.length, List.length_map]
    refine call_set_list (J.ok.hd calm) pl.isList (ns := ns) (by simpa using r.ints) (by rw [hl]; unfold scanBound; omega) fun h2 tk S2 keep => ?_
    rw [hl, met_uniq] at S2
    obtain ⟨o, es, ep, t, eo, exact_, dat, _, _, _, fits, cnt⟩ := S2
    refine PyProof.Rows.args_nil (call_len_set eo exact_ dat fits ?_ ⟨.int (uniqI ns).length, H1, ?_, ⟨_, by rw [cnt]⟩, fine⟩)
    · rw [cnt]
      have : (uniqI ns).length ≤ ns.length := by simpa [uniqI] using fold_le ns []
      omega
    · have J2 : L2.Inv X pins σ H1 { s1 with heap := h2, toks := tk } := J.kept fun b o e => keep b o (Heap.lt_size e) e
      exact J2.tok _
  · obtain ⟨its, r, pl, _⟩ := J.tuple hq
    refine call_set_tupI ns (J.ok.hd calm) (show s1.heap.IsTuple l its.toArray from pl) (ints_of_vals r) (by unfold scanBound; omega) fun h2 tk c R1 hc keep => ?_
    obtain ⟨o, es, ep, t, eo, exact_, dat, _, nd, mem, _, fits, cnt, _⟩ := R1
    have ec : c = (uniqI ns).length := by
      have e1 := (M18.perm_of nd (uniq_nodup ns) fun n => by rw [← mem n, decide_eq_true_eq, mem_uniq]).length_eq
      rw [List.length_map, Array.length_toList, cnt] at e1
      exact e1
    refine PyProof.Rows.args_nil (call_len_set eo exact_ dat fits (by rw [cnt]; omega) ⟨.int (uniqI ns).length, H1, ?_, ⟨_, by rw [cnt, ec]⟩, fine⟩)
    have J2 : L2.Inv X pins σ H1 { s1 with heap := h2, toks := tk } := J.kept keep
    exact J2.tok _
def oLenSet (d : D) (m : Mem) : R D := match numsD m d with
  | some ns => if ns.length ≤ 1000 then .ok (.int (uniqI ns).length) m else .bad
  | none => .bad
theorem de_lenSet (C : Ctx X W k) (hg : Gl X "len") (hm : X.mg "len" = none) (hg2 : Gl X "set") (hm2 : X.mg "set" = none) (ha : DE X W a fa)
    (na : starEach [a] X.env = (false, eval a X.env) :: starEach [] X.env := by rfl) : DE X W (.Call (.Name "len" p) [.Call (.Name "set" p2) [a] [] q] [] pos) (e1 oLenSet fa) := by
  obtain ⟨t, pa, sa⟩ := ha
  refine ⟨_, pe_lenSetA C.calm hg hm hg2 hm2 pa na, fun ρ loc m σ H Q rm rl h => ?_⟩
  refine sa.use rm rl h fun ρ1 m1 H1 d x l1 rm1 rl1 rx h1 => ?_
  unfold oLenSet at h1
  split at h1
  · rename_i ns e
    split at h1
    · rename_i hl
      obtain ⟨l, el, hq⟩ := numsD_ok rm1 rx e
      exact ⟨l, ns, el, hq, hl, fin rm1 (.int _) h1⟩
    · exact h1.elim
  · exact h1.elim
/-! ### max(xs, default=d) -/
def maxDf (d : Int) (ns : List Int) : Int := if ns = [] then d else maxI ns
def rMaxDf (K : PySem.W.Frag) : List V → List V → Hp → VK → Prop := fun vs zs H Q => ∃ (a : Addr) (ns : List Int) (d : Int), vs = [V.ref a] ∧ zs = [V.int d] ∧ SqL K H a (ns.map V.int) ∧ Q (.int (maxDf d ns)) H
theorem maxOf_ok (y : Int) (ys : List Int) : PySem.W.maxOf y ys = maxI (y :: ys) := by
  have key : ∀ (ys : List Int) (y : Int), PySem.W.maxOf y ys ∈ y :: ys ∧ ∀ z ∈ y :: ys, z ≤ PySem.W.maxOf y ys := by
    intro ys
    induction ys with
    | nil => intro y; simp [PySem.W.maxOf]
    | cons x r ih =>
      intro y
      have e : PySem.W.maxOf y (x :: r) = PySem.W.maxOf (if y < x then x else y) r := by
        unfold PySem.W.maxOf
        rw [List.foldl_cons]
        congr 1
        show (if decide (y < x) = true then x else y) = _
        by_cases h : y < x <;> simp [h]
      rw [e]
      obtain ⟨u, hu⟩ : ∃ u, u = if y < x then x else y := ⟨_, rfl⟩
      rw [← hu]
      have u1 : u = x ∨ u = y := by rw [hu]; split <;> simp
      have u2 : x ≤ u ∧ y ≤ u := by rw [hu]; split <;> omega
      obtain ⟨h1, h2⟩ := ih u
      have h3 := h2 u (by simp)
      refine ⟨?_, fun z hz => ?_⟩
      · rcases List.mem_cons.mp h1 with e1 | e1
        · rw [e1]; rcases u1 with q | q <;> rw [q] <;> simp
        · simp [e1]
      · rcases List.mem_cons.mp hz with e1 | e1
        · subst e1; omega
        · rcases List.mem_cons.mp e1 with e2 | e2
          · subst e2; omega
          · exact h2 z (by simp [e2])
  obtain ⟨h1, h2⟩ := key ys y
  obtain ⟨h3, h4⟩ := maxI_ok (ns := y :: ys) (by simp)
  exact Int.le_antisymm (h4 _ h1) (h2 _ h3)
theorem hold_ints {h : Heap} : ∀ {its : List Value} {ns : List Int}, IntsAre its ns → ∃ as, ReadsAll h its (ns.map PyData.int) as
  | _, _, .nil => ⟨_, .nil⟩
  | _, _, .cons _ _ r => by
    obtain ⟨as, ha⟩ := hold_ints r
    exact ⟨_, .cons (.int _ _) ha⟩
theorem cr_maxDf {k : Nat} (calm : X.calm = true) (hr : Room k X.A) : CallRK X (.builtin "max") ["default"] (rMaxDf X.K) := by
  intro pins s σ H xs zs us ws Q I r rz h
  obtain ⟨a, ns, d, rfl, rfl, hs, q⟩ := h
  obtain ⟨its, rv, hl, _⟩ := I.list hs
  have hi := rv.ints
  rw [Vals.ref1 r]
  obtain ⟨dv, rfl, rd⟩ := rz.one
  obtain ⟨tk, rfl⟩ := rd
  obtain ⟨as, ra⟩ := hold_ints (h := s.heap) hi
  refine PySem.W.max_list_datum_default (α := Int) (xs := ns) (I.ok.hd calm) hl.isList ⟨as, (show ReadsAll s.heap its (ns.map PyData.int) as from ra)⟩ (by have := hr.units; show X.A.units + 1 + 0 < cLine; omega) (fun e h2 tk2 keep => ?_) (fun y ys i v h2 tk2 e hv ho keep => ?_)
  · subst e
    exact ⟨.int d, H, I.kept keep, ⟨_, rfl⟩, q⟩
  · obtain ⟨bs, rb⟩ := ho
    cases rb with
    | int i t =>
      refine ⟨.int _, H, I.kept keep, ⟨_, rfl⟩, ?_⟩
      subst e
      rw [maxOf_ok]
      exact q
def oMaxDf (d e : D) (m : Mem) : R D := match intsOf m d, e with
  | some ns, .int i => .ok (.int (maxDf i ns)) m
  | _, _ => .bad
theorem de_maxDf {b : Expr} {fb : EX} {kpos : Pos} {pos : Pos} (C : Ctx X W k) (hg : Gl X "max") (hm : X.mg "max" = none) (ha : DE X W a fa) (hb : DE X W b fb)
    (na : starEach [a] X.env = (false, eval a X.env) :: starEach [] X.env := by rfl) (nb : backTo pos (starEach [a] X.env) = (false, eval a X.env) :: backTo pos (starEach [] X.env) := by rfl) (nc : (backTo pos (starEach [a] X.env)).any (·.1) = false := by rfl) :
    DE X W (.Call (.Name "max" p) [a] [⟨some "default", b, kpos⟩] pos) (e2 oMaxDf fa fb) := by
  obtain ⟨ta, pa, sa⟩ := ha
  obtain ⟨tb, pb, sb⟩ := hb
  refine ⟨_, pe_callBK (cr_maxDf C.calm C.room) hg hm bb_max (pa_cons pa pa_nil na) (pk_cons pb pk_nil) (he := nb) (hpl := nc), fun ρ loc m σ H Q rm rl h => ?_⟩
  refine sa.use rm rl h fun ρ1 m1 H1 d x l1 rm1 rl1 rx h1 => ?_
  refine sb.use rm1 rl1 h1 fun ρ2 m2 H2 e y l2 rm2 rl2 ry h2 => ?_
  unfold oMaxDf at h2
  split at h2
  · rename_i ns i e1
    obtain ⟨a, ea, hq⟩ := intsOf_ok rm2 (rx.mono l2) e1
    cases ry
    exact ⟨a, ns, i, by rw [ea], rfl, hq, fin rm2 (.int _) h2⟩
  · exact h2.elim
end
end DL

/-! DKit2: names of more built-ins. -/
namespace DL
open PySem PySem.Spec PyProof.Rows L2
theorem bb_all : bootBuiltins "all" = some (.builtin "all") := by decide +kernel
theorem bb_sorted : bootBuiltins "sorted" = some (.builtin "sorted") := by decide +kernel
end DL

/-! DHead2: what an exception's class is, from the head. -/
namespace DL
open PySem PySem.Spec PyProof.Rows L2
section
variable {K : PySem.W.Frag} {h : Heap} {mg : Str → Option Value} {x y : Str} {A B : Addr} {R : Prop}
/-- isinstance by an own class of another place -/
theorem kit_then (b : Bool) (_ : K.In h) (_ : mg x = some (.ref A)) (_ : mg y = some (.ref B)) (ne : A ≠ B) (h2 : PySem.W.isClsIn K B = true) (h3 : PySem.W.typeIn K (.ref B) = some (.type "type")) (h4 : PySem.W.subIn K (.ref A) (.ref B) = some b)
    (r : PySem.W.kitOne K (.ref A) (.ref B) = some b → R) : R := by
  refine r ?_
  have e2 : ((PySem.W.clsIn K B).isSome && PySem.W.typeIn K (.ref B) == some (.type "type")) = true := by
    have h2' : (PySem.W.clsIn K B).isSome = true := h2
    rw [h2', h3] <;> rfl
  unfold PySem.W.kitOne
  rw [if_neg (by simp [ne])]
  unfold PySem.W.kitCls
  dsimp only
  rw [if_pos e2]
  exact h4
/-- isinstance by a built-in class -/
theorem kitb_then (T : String) (b : Bool) (_ : K.In h) (_ : mg x = some (.ref A)) (hm : PySem.W.kitMeta T = true) (h4 : PySem.W.subIn K (.ref A) (.type T) = some b)
    (r : PySem.W.kitOne K (.ref A) (.type T) = some b → R) : R := by
  refine r ?_
  unfold PySem.W.kitOne
  rw [if_neg (by simp)]
  unfold PySem.W.kitCls
  dsimp only
  rw [if_pos hm]
  exact h4
end
end DL

/-! DPure: comprehensions whose parts leave the memory as it is. -/
namespace DL
open PySem PySem.Spec PyProof.Rows L2
/-- what a source goes over -/
def SrcIs (s : Src) (m : Mem) (ds : List D) : Prop := s = .st ds ∨ ∃ n, s = .lv n false ∧ m[n]? = some (.lst ds)
section
variable {α : Type} {g f : α → D} {p : α → Bool} {i : Nat} {tt : ET} {te tk : EX} {l0 : DL.Loc} {m : Mem}
theorem lcD_pure : ∀ (L : List α) (acc : List D), acc.length + L.length ≤ sizeLine → (∀ a ∈ L, ∀ x : DO, tt (l0.set i (some (g a))) (m ++ [x]) = .ok (p a) (m ++ [x])) → (∀ a ∈ L, p a = true → ∀ x : DO, te (l0.set i (some (g a))) (m ++ [x]) = .ok (f a) (m ++ [x])) →
    lcD (gaName i) tt te m.length (L.map g) l0 (m ++ [.lst acc]) = .ok () (m ++ [.lst (acc ++ (L.filter p).map f)])
  | [], acc, _, _, _ => by simp [lcD]
  | a :: L, acc, hz, ht, he => by
    rw [List.length_cons] at hz
    have e1 : lcStep (gaName i) tt te m.length (g a) l0 (m ++ [.lst acc]) = .ok () (m ++ [.lst (acc ++ ([a].filter p).map f)]) := by
      have h1 := ht a (by simp) (.lst acc)
      cases hp : p a with
      | false => simp [lcStep, gaName, h1, hp]
      | true =>
        have h2 := he a (by simp) hp (.lst acc)
        have hlt : acc.length < sizeLine := by omega
        simp [lcStep, gaName, h1, h2, hp, hlt]
    have hl : ([a].filter p).length ≤ 1 := List.length_filter_le _ _
    have ih := lcD_pure L (acc ++ ([a].filter p).map f) (by simp only [List.length_append, List.length_map]; omega) (fun b hb => ht b (by simp [hb])) (fun b hb => he b (by simp [hb]))
    rw [List.map_cons, lcD, e1]
    show lcD _ _ _ _ _ _ _ = _
    rw [ih]
    have e2 : (a :: L).filter p = [a].filter p ++ L.filter p := by rw [← List.filter_append]; rfl
    rw [e2, List.map_append, List.append_assoc]
theorem lcV_pure {n : Nat} {xs : List D} (hn : m[n]? = some (.lst xs)) : ∀ (L : List α) (acc : List D), acc.length + L.length ≤ sizeLine → (∀ a ∈ L, ∀ x : DO, tt (l0.set i (some (g a))) (m ++ [x]) = .ok (p a) (m ++ [x])) → (∀ a ∈ L, p a = true → ∀ x : DO, te (l0.set i (some (g a))) (m ++ [x]) = .ok (f a) (m ++ [x])) →
    lcV n xs (gaName i) tt te m.length (L.map g) l0 (m ++ [.lst acc]) = .ok () (m ++ [.lst (acc ++ (L.filter p).map f)])
  | [], acc, _, _, _ => by
    unfold lcV
    simp [get_left hn]
  | a :: L, acc, hz, ht, he => by
    rw [List.length_cons] at hz
    have e1 : lcStep (gaName i) tt te m.length (g a) l0 (m ++ [.lst acc]) = .ok () (m ++ [.lst (acc ++ ([a].filter p).map f)]) := by
      have h1 := ht a (by simp) (.lst acc)
      cases hp : p a with
      | false => simp [lcStep, gaName, h1, hp]
      | true =>
        have h2 := he a (by simp) hp (.lst acc)
        have hlt : acc.length < sizeLine := by omega
        simp [lcStep, gaName, h1, h2, hp, hlt]
    have hl : ([a].filter p).length ≤ 1 := List.length_filter_le _ _
    have ih := lcV_pure hn L (acc ++ ([a].filter p).map f) (by simp only [List.length_append, List.length_map]; omega) (fun b hb => ht b (by simp [hb])) (fun b hb => he b (by simp [hb]))
    rw [List.map_cons]
    unfold lcV
    rw [if_pos (get_left hn), e1]
    show lcV _ _ _ _ _ _ _ _ _ = _
    rw [ih]
    have e2 : (a :: L).filter p = [a].filter p ++ L.filter p := by rw [← List.filter_append]; rfl
    rw [e2, List.map_append, List.append_assoc]
/-- a list comprehension -/
theorem lcA {fi : ES} {vs : List Nat} {loc : DL.Loc} {m0 : Mem} {s : Src} {L : List α} (hf : fi loc m0 = .ok s m) (hs : SrcIs s m (L.map g)) (hz : L.length ≤ sizeLine)
    (ht : ∀ a ∈ L, ∀ x : DO, tt ((wipeD loc vs).set i (some (g a))) (m ++ [x]) = .ok (p a) (m ++ [x])) (he : ∀ a ∈ L, p a = true → ∀ x : DO, te ((wipeD loc vs).set i (some (g a))) (m ++ [x]) = .ok (f a) (m ++ [x]))
    (hu : ∀ a ∈ L, p a = true → (f a).und m.length = true) (um : Und m) : eLc false fi (gaName i) tt te vs loc m0 = .ok (.lst ((L.filter p).map f)) m := by
  have fin : lcFin false m.length (m ++ [.lst ((L.filter p).map f)]) = .ok (.lst ((L.filter p).map f)) m := by
    have u1 : D.unds m.length ((L.filter p).map f) = true := unds_all.mpr fun d hd => by
      obtain ⟨a, ha, rfl⟩ := List.mem_map.mp hd
      have := List.mem_filter.mp ha
      exact hu a this.1 this.2
    have u2 : Mem.und m.length m = true := um
    simp [lcFin, u1, u2]
  rcases hs with e | ⟨n, e, hn⟩
  · subst e
    have e0 : eLc false fi (gaName i) tt te vs loc m0 = (lcD (gaName i) tt te m.length (L.map g) (wipeD loc vs) (m ++ [.lst []])).bind fun _ m' => lcFin false m.length m' := by
      simp [eLc, bnd, hf, R.bind]
    rw [e0, lcD_pure L [] (by simpa using hz) ht he]
    simpa [R.bind] using fin
  · subst e
    have e0 : eLc false fi (gaName i) tt te vs loc m0 = (lcV n (L.map g) (gaName i) tt te m.length (L.map g) (wipeD loc vs) (m ++ [.lst []])).bind fun _ m' => lcFin false m.length m' := by
      simp [eLc, bnd, hf, R.bind, hn]
    rw [e0, lcV_pure hn L [] (by simpa using hz) ht he]
    simpa [R.bind] using fin
theorem filter_tt (L : List α) : L.filter (fun _ => true) = L := List.filter_eq_self.mpr (by simp)
/-- a list comprehension without an if -/
theorem lcT {fi : ES} {vs : List Nat} {loc : DL.Loc} {m0 : Mem} {s : Src} {L : List α} (hf : fi loc m0 = .ok s m) (hs : SrcIs s m (L.map g)) (hz : L.length ≤ sizeLine)
    (he : ∀ a ∈ L, ∀ x : DO, te ((wipeD loc vs).set i (some (g a))) (m ++ [x]) = .ok (f a) (m ++ [x])) (hu : ∀ a ∈ L, (f a).und m.length = true) (um : Und m) : eLc false fi (gaName i) tT te vs loc m0 = .ok (.lst (L.map f)) m := by
  have := lcA (p := fun _ => true) (tt := tT) hf hs hz (fun _ _ _ => rfl) (fun a ha _ x => he a ha x) (fun a ha _ => hu a ha) um
  rwa [filter_tt] at this
/-! ### sorted({..}) -/
theorem scD_pure {z : α → Int} : ∀ (L : List α) (acc : List Int), acc.length + L.length < 4095 → (∀ a ∈ L, te (l0.set i (some (g a))) m = .ok (.int (z a)) m) →
    scD (gaName i) tT te (L.map g) l0 m acc = .ok ((L.map z).foldl stepU acc) m
  | [], acc, _, _ => rfl
  | a :: L, acc, hz, he => by
    rw [List.length_cons] at hz
    have h2 := he a (by simp)
    have hlt : acc.length + 1 < scanBound := by unfold scanBound; omega
    have hl : (stepU acc (z a)).length ≤ acc.length + 1 := by unfold stepU; split <;> simp
    have e1 : scStep (gaName i) tT te (g a) l0 m acc = .ok (stepU acc (z a)) m := by simp [scStep, gaName, tT, h2, hlt, stepU]
    rw [List.map_cons, scD, e1]
    show scD _ _ _ _ _ _ _ = _
    rw [scD_pure L (stepU acc (z a)) (by omega) fun b hb => he b (by simp [hb])]
    rfl
theorem scV_pure {z : α → Int} {n : Nat} {xs : List D} (hn : m[n]? = some (.lst xs)) : ∀ (L : List α) (acc : List Int), acc.length + L.length < 4095 → (∀ a ∈ L, te (l0.set i (some (g a))) m = .ok (.int (z a)) m) →
    scV n xs (gaName i) tT te (L.map g) l0 m acc = .ok ((L.map z).foldl stepU acc) m
  | [], acc, _, _ => by unfold scV; simp [hn]
  | a :: L, acc, hz, he => by
    rw [List.length_cons] at hz
    have h2 := he a (by simp)
    have hlt : acc.length + 1 < scanBound := by unfold scanBound; omega
    have hl : (stepU acc (z a)).length ≤ acc.length + 1 := by unfold stepU; split <;> simp
    have e1 : scStep (gaName i) tT te (g a) l0 m acc = .ok (stepU acc (z a)) m := by simp [scStep, gaName, tT, h2, hlt, stepU]
    rw [List.map_cons]
    unfold scV
    rw [if_pos hn, e1]
    show scV _ _ _ _ _ _ _ _ _ = _
    rw [scV_pure hn L (stepU acc (z a)) (by omega) fun b hb => he b (by simp [hb])]
    rfl
theorem scA {z : α → Int} {fi : ES} {vs : List Nat} {loc : DL.Loc} {m0 : Mem} {s : Src} {L : List α} (hf : fi loc m0 = .ok s m) (hs : SrcIs s m (L.map g)) (hz : L.length < 64)
    (he : ∀ a ∈ L, te ((wipeD loc vs).set i (some (g a))) m = .ok (.int (z a)) m) : eSortS false fi (gaName i) tT te vs loc m0 = .ok (.lst ((srtI (uniqI (L.map z))).map D.int)) m := by
  have hl : (uniqI (L.map z)).length < 64 := by
    have := fold_le (L.map z) []
    unfold uniqI
    simp only [List.length_map, List.length_nil] at this
    omega
  have fin : scFin false (uniqI (L.map z)) m = .ok (.lst ((srtI (uniqI (L.map z))).map D.int)) m := by simp [scFin, hl, newL]
  rcases hs with e | ⟨n, e, hn⟩
  · subst e
    have e0 : eSortS false fi (gaName i) tT te vs loc m0 = (scD (gaName i) tT te (L.map g) (wipeD loc vs) m []).bind (scFin false) := by simp [eSortS, bnd, hf, R.bind]
    rw [e0, scD_pure L [] (by simp; omega) he]
    exact fin
  · subst e
    have e0 : eSortS false fi (gaName i) tT te vs loc m0 = (scV n (L.map g) (gaName i) tT te (L.map g) (wipeD loc vs) m []).bind (scFin false) := by simp [eSortS, bnd, hf, R.bind, hn]
    rw [e0, scV_pure hn L [] (by simp; omega) he]
    exact fin
/-! ### {k: v for ..} -/
theorem dcD_pure {key : α → Int} {tv : EX} : ∀ (L : List α) (ks : List Key) (us : List D), ks.length + L.length ≤ sizeLine → (∀ a ∈ L, ∀ x : DO, tk (l0.set i (some (g a))) (m ++ [x]) = .ok (.int (key a)) (m ++ [x])) →
    (∀ a ∈ L, ∀ x : DO, tv (l0.set i (some (g a))) (m ++ [x]) = .ok (f a) (m ++ [x])) → (L.map key).Nodup → (∀ a ∈ L, ∀ x ∈ ks, x ≠ (.inl (key a) : Key)) →
    dcD (gaName i) tT tk tv m.length (L.map g) l0 (m ++ [.dic ks us]) = .ok () (m ++ [.dic (ks ++ L.map fun a => (.inl (key a) : Key)) (us ++ L.map f)])
  | [], ks, us, _, _, _, _, _ => by simp [dcD]
  | a :: L, ks, us, hz, h1, h2, nd, out => by
    rw [List.length_cons] at hz
    rw [List.map_cons, List.nodup_cons] at nd
    have k1 := h1 a (by simp) (.dic ks us)
    have k2 := h2 a (by simp) (.dic ks us)
    have hn : (!ks.any fun x => decide (x = (.inl (key a) : Key))) = true := by
      rw [Bool.not_eq_true', List.any_eq_false]
      intro x hx
      have := out a (by simp) x hx
      simpa using this
    have hlt : ks.length < sizeLine := by omega
    have e1 : dcStep (gaName i) tT tk tv m.length (g a) l0 (m ++ [.dic ks us]) = .ok () (m ++ [.dic (ks ++ [.inl (key a)]) (us ++ [f a])]) := by
      unfold dcStep
      simp only [gaName, tT, k1, k2, keyD]
      rw [List.getElem?_append_right (Nat.le_refl _)]
      simp only [Nat.sub_self, List.getElem?_cons_zero]
      rw [if_pos ⟨hn, hlt⟩]
      simp
    rw [List.map_cons, dcD, e1]
    show dcD _ _ _ _ _ _ _ _ = _
    rw [dcD_pure (key := key) L (ks ++ [(.inl (key a) : Key)]) (us ++ [f a]) (by simp; omega) (fun b hb => h1 b (by simp [hb])) (fun b hb => h2 b (by simp [hb])) nd.2 fun b hb x hx => ?_]
    · simp
    · rcases List.mem_append.mp hx with q | q
      · exact out b (by simp [hb]) x q
      · rw [List.mem_singleton] at q
        subst q
        intro e
        have : key a = key b := by injection e
        exact nd.1 (this ▸ List.mem_map_of_mem (f := key) hb)
theorem dcA {key : α → Int} {tv : EX} {fi : ES} {vs : List Nat} {loc : DL.Loc} {m0 : Mem} {L : List α} (hf : fi loc m0 = .ok (.st (L.map g)) m) (hz : L.length ≤ sizeLine) (h1 : ∀ a ∈ L, ∀ x : DO, tk ((wipeD loc vs).set i (some (g a))) (m ++ [x]) = .ok (.int (key a)) (m ++ [x]))
    (h2 : ∀ a ∈ L, ∀ x : DO, tv ((wipeD loc vs).set i (some (g a))) (m ++ [x]) = .ok (f a) (m ++ [x])) (nd : (L.map key).Nodup) (hu : ∀ a ∈ L, (f a).und m.length = true) (um : Und m) :
    eDc fi (gaName i) tT tk tv vs loc m0 = .ok (.dic (L.map fun a => (.inl (key a) : Key)) (L.map f)) m := by
  have e0 : eDc fi (gaName i) tT tk tv vs loc m0 = (dcD (gaName i) tT tk tv m.length (L.map g) (wipeD loc vs) (m ++ [.dic [] []])).bind fun _ m' => dcEnd m.length m' := by simp [eDc, bnd, hf, R.bind]
  rw [e0, dcD_pure L [] [] (by simpa using hz) h1 h2 nd (by simp)]
  have u1 : D.unds m.length (L.map f) = true := unds_all.mpr fun d hd => by
    obtain ⟨a, ha, rfl⟩ := List.mem_map.mp hd
    exact hu a ha
  have u2 : Mem.und m.length m = true := um
  simp [R.bind, dcEnd, u1, u2]
end
/-! ### numbers as data -/
abbrev nD (n : Nat) : D := .int (n : Int)
theorem rangeD_nat (n : Nat) : rangeD 0 1 n = (List.range n).map nD := by
  unfold rangeD
  apply List.map_congr_left
  intro i _
  simp
theorem rangeD_from (s n : Nat) : rangeD (s : Int) 1 n = (List.range n).map fun i => nD (s + i) := by
  unfold rangeD
  apply List.map_congr_left
  intro i _
  simp
theorem rangeD_down (n : Nat) : rangeD (n : Int) (-1) n = (List.range n).map fun i => nD (n - i) := by
  unfold rangeD
  apply List.map_congr_left
  intro i hi
  have := List.mem_range.mp hi
  show D.int _ = D.int _
  congr 1
  omega
theorem srcSt {m : Mem} {ds : List D} : SrcIs (.st ds) m ds := .inl rfl
@[simp] theorem intsD_nat (L : List Nat) : intsD (L.map nD) = some (L.map fun n : Nat => (n : Int)) := by
  have : L.map nD = (L.map fun n : Nat => (n : Int)).map D.int := by simp
  rw [this, intsD_map]
end DL

/-! printed by gen.py: the mirrors of the defs and their derivations -/
namespace K18
open PySem PySem.Spec PyProof.Rows L2 DL
def topS (i : Nat) : Stmt := PySem.Challenge.pw_sumhouse_k18_rounds_keep_the_least_form.main.body.getD i (.Pass ⟨0, 0, 0, 0⟩)
/-- the classes' places -/
structure CA where
  c_Rounds : Addr
  c_SumError : Addr
  c_InvalidRounds : Addr
  c_InvalidText : Addr
abbrev s__is_number : Stmt := topS 10
abbrev s__are_unlike_below : Stmt := topS 11
abbrev s__least_period : Stmt := topS 12
abbrev s__least_start : Stmt := topS 13
abbrev s__law_seed : Stmt := topS 24
abbrev s__law_box : Stmt := topS 25
abbrev s__law_take : Stmt := topS 26
abbrev s__law_is_number : Stmt := topS 27
abbrev s__law_has : Stmt := topS 28
abbrev s__law_least : Stmt := topS 29
abbrev s__law_shows : Stmt := topS 30
abbrev s__law_toggle : Stmt := topS 31
abbrev s__law_form : Stmt := topS 32
abbrev s__law_order : Stmt := topS 33
abbrev s__law_unfolded : Stmt := topS 34
abbrev s__law_odd : Stmt := topS 35
abbrev s__law_bent_row : Stmt := topS 36
abbrev s__law_bent : Stmt := topS 37
abbrev s__law_refused : Stmt := topS 38
abbrev s__law_near : Stmt := topS 39
abbrev s__law_variant : Stmt := topS 40
abbrev s__law_variants_right : Stmt := topS 41
abbrev s_law : Stmt := topS 42
abbrev s_Rounds___init__ : Stmt := inClass (topS 9) 0
abbrev s_Rounds___eq__ : Stmt := inClass (topS 9) 5
/-- what the top has written, beside the defs -/
structure Fx (K : PySem.W.Frag) (mg : Str → Option Value) (ca : CA) : Prop where
  n_ValueError : mg "ValueError" = none
  n_abs : mg "abs" = none
  n_all : mg "all" = none
  n_bool : mg "bool" = none
  n_int : mg "int" = none
  n_isinstance : mg "isinstance" = none
  n_len : mg "len" = none
  n_list : mg "list" = none
  n_max : mg "max" = none
  n_min : mg "min" = none
  n_range : mg "range" = none
  n_set : mg "set" = none
  n_sorted : mg "sorted" = none
  n_tuple : mg "tuple" = none
  g_Rounds : mg "Rounds" = some (.ref ca.c_Rounds)
  k_Rounds : Cls K ca.c_Rounds
  kc_Rounds : KC K ca.c_Rounds
  sf_Rounds : PySem.W.selfFirst K ca.c_Rounds = true
  na_Rounds_first : NoAttr K ca.c_Rounds "first"
  na_Rounds_late : NoAttr K ca.c_Rounds "late"
  na_Rounds_period : NoAttr K ca.c_Rounds "period"
  na_Rounds_start : NoAttr K ca.c_Rounds "start"
  g_SumError : mg "SumError" = some (.ref ca.c_SumError)
  t_InvalidRounds : ExcT K mg "InvalidRounds" ca.c_InvalidRounds
  g_InvalidText : mg "InvalidText" = some (.ref ca.c_InvalidText)
  x_1 : PySem.W.exmOne K (.ref ca.c_InvalidRounds) (.ref ca.c_InvalidRounds) = some true
  x_2 : ExcC K ca.c_InvalidRounds
  x_3 : PySem.W.kitOne K (.ref ca.c_InvalidRounds) (.ref ca.c_SumError) = some true
  x_4 : PySem.W.kitOne K (.ref ca.c_InvalidRounds) (.type "ValueError") = some true
  x_5 : PySem.W.kitOne K (.ref ca.c_InvalidRounds) (.ref ca.c_InvalidText) = some false

noncomputable section
def b__is_number (ca : CA) : SX :=
    (sSeq (sRet (eAnd (e1 (oIsi (kitT ["int"])) (eVar 0)) (eAnd (eNot (e1 (oIsi (kitT ["bool"])) (eVar 0))) (e2 oGe (eVar 0) (eC (.int 0))))))
    sNil)
def f__is_number (ca : CA) : List D → Mem → R D := runD 1 (b__is_number ca)
def lp__least_period_1 (ca : CA) : SX :=
    (sSeq (sIf (tAnd' (tBl (e2 oEq (e2 oMod (eCall fLen (aCons (eVar 0) aNil)) (eVar 2)) (eC (.int 0)))) (tBl (e2 oEq (e2 oMod (eVar 1) (eVar 2)) (eC (.int 0))))) (sSeq (sSet 3 (e2 oFdiv (eVar 1) (eVar 2)))
    (sSeq (sIf (tBl (e2 oEq (eCall (fSorted false) (aCons (eLc false (bnd (eVar 0) fun d _ m => iterD d m) (gaName 4) tT (e2 oMod (e2 (oAdd false) (eVar 4) (eVar 3)) (eVar 1)) [4]) aNil)) (eCall (fSorted false) (aCons (eVar 0) aNil)))) (sSeq (sRet (eVar 3))
    sNil) sNil)
    sNil)) sNil)
    sNil)
def b__least_period (ca : CA) : SX :=
    (sSeq (sFor (eArgs rangeN (aCons (eCall fLen (aCons (eVar 0) aNil)) (aCons (eC (.int 0)) (aCons (e1 oNeg (eC (.int 1))) aNil)))) (gaName 2) (lp__least_period_1 ca))
    (sSeq (sRet (eC (.int 1)))
    sNil))
def f__least_period (ca : CA) : List D → Mem → R D := runD 5 (b__least_period ca)
def b__least_start (ca : CA) : SX :=
    (sSeq (sSet 4 (eLst false (aStar2 (eVar 0) (aStar2 (eLc false (bnd (eVar 3) fun d _ m => iterD d m) (gaName 5) tT (e2 (oAdd false) (eVar 1) (eVar 5)) [5]) aNil))))
    (sSeq (sSet 6 (eDc (bnd (eVar 4) fun d _ m => iterD d m) (gaName 7) tT (eVar 7) (eC (.bl true)) [7]))
    (sSeq (sSet 8 (eLc false (bnd (eVar 0) fun d _ m => iterD d m) (gaName 9) (tBl (e2 (oIn true) (e2 (oAdd false) (eVar 9) (eVar 2)) (eVar 6))) (eVar 9) [9]))
    (sSeq (sSet 10 (eLc false (bnd (eVar 4) fun d _ m => iterD d m) (gaName 7) (tAnd' (tBl (e2 oGe (eVar 7) (eVar 2))) (tBl (e2 (oIn true) (e2 oSub (eVar 7) (eVar 2)) (eVar 6)))) (e2 oSub (eVar 7) (eVar 2)) [7]))
    (sSeq (sRet (e2 (oAdd false) (e2 oMaxDf (eLst false (aStar2 (eVar 8) (aStar2 (eVar 10) aNil))) (e1 oNeg (eC (.int 1)))) (eC (.int 1))))
    sNil)))))
def f__least_start (ca : CA) : List D → Mem → R D := runD 11 (b__least_start ca)
def lp__law_seed_1 (ca : CA) : SX :=
    (sSeq (sSet 2 (e2 oMod (eCall fInt (aCons (e2 (oAdd false) (e2 (oAdd false) (e2 oMul (eVar 2) (eC (.int 1103))) (e2 oMod (eCall fInt (aCons (eVar 3) aNil)) (eC (.int 1000003)))) (eC (.int 1))) aNil)) (eC (.int 2147483647))))
    sNil)
def b__law_seed (ca : CA) : SX :=
    (sSeq (sIf (tBl (e2 oLt (eVar 1) (eCall fLen (aCons (eVar 0) aNil)))) (sSeq (sRet (eCall fInt (aCons (eCall fAbs (aCons (e2 oIx (eVar 0) (eVar 1)) aNil)) aNil)))
    sNil) sNil)
    (sSeq (sSet 2 (e2 (oAdd false) (e2 oMul (eVar 1) (eC (.int 7919))) (eC (.int 12345))))
    (sSeq (sFor (bnd (eSl false (eVar 0) pNone (pSome (eC (.int 63)))) fun d _ m => iterD d m) (gaName 3) (lp__law_seed_1 ca))
    (sSeq (sRet (eVar 2))
    sNil))))
def f__law_seed (ca : CA) : List D → Mem → R D := runD 4 (b__law_seed ca)
def b__law_take (ca : CA) : SX :=
    (sSeq (sSub (e2 (oAdd false) (e2 oIx (eVar 0) (eC (.int 1))) (eC (.int 1))) (eVar 0) (eC (.int 1)) setL)
    (sSeq (sIf (tBl (e2 oGt (e2 oIx (eVar 0) (eC (.int 0))) (eC (.int 0)))) (sSeq (sSet 2 (e2 oMod (eCall fInt (aCons (e2 oIx (eVar 0) (eC (.int 0))) aNil)) (eVar 1)))
    (sSeq (sSub (e2 oFdiv (eCall fInt (aCons (e2 oIx (eVar 0) (eC (.int 0))) aNil)) (eVar 1)) (eVar 0) (eC (.int 0)) setL)
    (sSeq (sRet (eVar 2))
    sNil))) sNil)
    (sSeq (sSet 3 (e2 oMod (eCall fInt (aCons (e2 oMul (e2 oMul (e2 (oAdd false) (e2 oIx (eVar 0) (eC (.int 2))) (eC (.int 131))) (e2 (oAdd false) (e2 oIx (eVar 0) (eC (.int 1))) (eC (.int 17)))) (eC (.int 48271))) aNil)) (eC (.int 2147483647))))
    (sSeq (sSet 3 (e2 oMod (eCall fInt (aCons (e2 (oAdd false) (e2 (oAdd false) (e2 oMul (eVar 3) (eVar 3)) (e2 oMul (e2 oIx (eVar 0) (eC (.int 1))) (eC (.int 69621)))) (eC (.int 7))) aNil)) (eC (.int 2147483399))))
    (sSeq (sRet (e2 oMod (eCall fInt (aCons (e2 oFdiv (eVar 3) (eC (.int 16))) aNil)) (eVar 1)))
    sNil)))))
def f__law_take (ca : CA) : List D → Mem → R D := runD 4 (b__law_take ca)
def b__law_is_number (ca : CA) : SX :=
    (sSeq (sRet (eAnd (e1 (oIsi (kitT ["int"])) (eVar 0)) (eAnd (eNot (e1 (oIsi (kitT ["bool"])) (eVar 0))) (e2 oGe (eVar 0) (eC (.int 0))))))
    sNil)
def f__law_is_number (ca : CA) : List D → Mem → R D := runD 1 (b__law_is_number ca)
def b__law_has (ca : CA) : SX :=
    (sSeq (sIf (tBl (e2 oLt (eVar 1) (e2 oIx (eVar 0) (eC (.int 1))))) (sSeq (sRet (e2 (oIn false) (eVar 1) (e2 oIx (eVar 0) (eC (.int 0)))))
    sNil) sNil)
    (sSeq (sRet (e2 (oIn false) (e2 oMod (eCall fInt (aCons (e2 oSub (eVar 1) (e2 oIx (eVar 0) (eC (.int 1)))) aNil)) (e2 oIx (eVar 0) (eC (.int 2)))) (e2 oIx (eVar 0) (eC (.int 3)))))
    sNil))
def f__law_has (ca : CA) : List D → Mem → R D := runD 2 (b__law_has ca)
def b__law_toggle (ca : CA) : SX :=
    (sSeq (sSet 2 (eCall (fList true) (aCons (e2 oIx (eVar 0) (eC (.int 0))) aNil)))
    (sSeq (sSet 3 (eCall (fList true) (aCons (e2 oIx (eVar 0) (eC (.int 3))) aNil)))
    (sSeq (sIf (tAnd' (tBl (e2 oLt (eVar 1) (e2 oIx (eVar 0) (eC (.int 1))))) (tBl (e2 (oIn false) (eVar 1) (eVar 2)))) (sSeq (sDrop (eBM "list" (LstM fRemove) (eVar 2) (aCons (eVar 1) aNil)))
    sNil) (sSeq (sIf (tBl (e2 oLt (eVar 1) (e2 oIx (eVar 0) (eC (.int 1))))) (sSeq (sSet 2 (eCall (fSorted true) (aCons (e2 (oAdd false) (eVar 2) (eLst false (aCons (eVar 1) aNil))) aNil)))
    sNil) (sSeq (sIf (tBl (e2 (oIn false) (e2 oSub (eVar 1) (e2 oIx (eVar 0) (eC (.int 1)))) (eVar 3))) (sSeq (sDrop (eBM "list" (LstM fRemove) (eVar 3) (aCons (e2 oSub (eVar 1) (e2 oIx (eVar 0) (eC (.int 1)))) aNil)))
    sNil) (sSeq (sSet 3 (eCall (fSorted true) (aCons (e2 (oAdd false) (eVar 3) (eLst false (aCons (e2 oSub (eVar 1) (e2 oIx (eVar 0) (eC (.int 1)))) aNil))) aNil)))
    sNil))
    sNil))
    sNil))
    (sFz 2
    (sFz 3
    (sSeq (sRet (eTup (aCons (eVar 2) (aCons (e2 oIx (eVar 0) (eC (.int 1))) (aCons (e2 oIx (eVar 0) (eC (.int 2))) (aCons (eVar 3) aNil))))))
    sNil))))))
def f__law_toggle (ca : CA) : List D → Mem → R D := runD 4 (b__law_toggle ca)
def b_Rounds___eq__ (ca : CA) : SX :=
    (sSeq (sRet (eAnd (e1 (oIsi (kitC ca.c_Rounds)) (eVar 1)) (eAnd (e2 oEq (e1 (oFld ca.c_Rounds "first") (eVar 0)) (e1 (oFld ca.c_Rounds "first") (eVar 1))) (eAnd (e2 oEq (e1 (oFld ca.c_Rounds "start") (eVar 0)) (e1 (oFld ca.c_Rounds "start") (eVar 1))) (eAnd (e2 oEq (e1 (oFld ca.c_Rounds "period") (eVar 0)) (e1 (oFld ca.c_Rounds "period") (eVar 1))) (e2 oEq (e1 (oFld ca.c_Rounds "late") (eVar 0)) (e1 (oFld ca.c_Rounds "late") (eVar 1))))))))
    sNil)
def f_Rounds___eq__ (ca : CA) : List D → Mem → R D := runD 2 (b_Rounds___eq__ ca)
def b__are_unlike_below (ca : CA) : SX :=
    (sSeq (sIf (tNot' (tTru (e1 (oIsi (kitT ["list", "tuple"])) (eVar 0)))) (sSeq (sRet (eC (.bl false)))
    sNil) sNil)
    (sSeq (sIf (tNot' (tTru (eCall fAll (aCons (eLc false (bnd (eVar 0) fun d _ m => iterD d m) (gaName 2) tT (eAnd (eCall (callD 1 (f__is_number ca)) (aCons (eVar 2) aNil)) (e2 oLt (eVar 2) (eVar 1))) [2]) aNil)))) (sSeq (sRet (eC (.bl false)))
    sNil) sNil)
    (sSeq (sRet (e2 oEq (e1 oLenSet (eVar 0)) (eCall fLen (aCons (eVar 0) aNil))))
    sNil)))
def f__are_unlike_below (ca : CA) : List D → Mem → R D := runD 3 (b__are_unlike_below ca)
def b__law_box (ca : CA) : SX :=
    (sSeq (sSet 2 (eCall (callD 2 (f__law_seed ca)) (aCons (eVar 0) (aCons (eVar 1) aNil))))
    (sSeq (sIf (tBl (e2 oLt (eVar 2) (e2 oPow (eC (.int 10)) (eC (.int 18))))) (sSeq (sRet (eLst true (aCons (eC (.int 0)) (aCons (eC (.int 0)) (aCons (e2 oMod (eCall fInt (aCons (eVar 2) aNil)) (eC (.int 2147483629))) aNil)))))
    sNil) sNil)
    (sSeq (sSet 3 (e2 oMul (e2 oMul (e2 oMul (e2 oMul (e2 oPow (eC (.int 10)) (eC (.int 60))) (e2 oPow (eC (.int 10)) (eC (.int 60)))) (e2 oPow (eC (.int 10)) (eC (.int 60)))) (e2 oPow (eC (.int 10)) (eC (.int 60)))) (e2 oPow (eC (.int 10)) (eC (.int 60)))))
    (sSeq (sRet (eLst true (aCons (e2 oMod (eCall fInt (aCons (eVar 2) aNil)) (eVar 3)) (aCons (eC (.int 0)) (aCons (e2 oMod (eCall fInt (aCons (eVar 2) aNil)) (eC (.int 2147483629))) aNil)))))
    sNil))))
def f__law_box (ca : CA) : List D → Mem → R D := runD 4 (b__law_box ca)
def lp__law_least_1 (ca : CA) : SX :=
    (sSeq (sIf (tBl (e2 oEq (e2 oMod (eCall fInt (aCons (e2 oIx (eVar 0) (eC (.int 2))) aNil)) (eVar 5)) (eC (.int 0)))) (sSeq (sSet 6 (eLc false (eArgs range2 (aCons (eVar 1) (aCons (e2 (oAdd false) (eVar 1) (e2 oIx (eVar 0) (eC (.int 2)))) aNil))) (gaName 7) (tBl (e2 oNe (e2 oIx (eVar 2) (eVar 7)) (e2 oIx (eVar 2) (e2 (oAdd false) (eVar 7) (eVar 5))))) (eVar 7) [7]))
    (sSeq (sIf (tBl (e2 oEq (eVar 6) (eLst false aNil))) (sSeq (sSet 4 (eVar 5))
    sNil) sNil)
    sNil)) sNil)
    sNil)
def lp__law_least_2 (ca : CA) : SX :=
    (sSeq (sSet 1 (e2 oSub (eVar 1) (eC (.int 1))))
    sNil)
def b__law_least (ca : CA) : SX :=
    (sSeq (sSet 1 (e2 oIx (eVar 0) (eC (.int 1))))
    (sSeq (sSet 2 (eLc false (eArgs range1 (aCons (e2 (oAdd false) (eVar 1) (e2 oMul (eC (.int 2)) (e2 oIx (eVar 0) (eC (.int 2))))) aNil)) (gaName 3) tT (eCall (callD 2 (f__law_has ca)) (aCons (eVar 0) (aCons (eVar 3) aNil))) [3]))
    (sSeq (sSet 4 (e2 oIx (eVar 0) (eC (.int 2))))
    (sSeq (sFor (eArgs rangeN (aCons (e2 oIx (eVar 0) (eC (.int 2))) (aCons (eC (.int 0)) (aCons (e1 oNeg (eC (.int 1))) aNil)))) (gaName 5) (lp__law_least_1 ca))
    (sSeq (sWhile FU (tAnd' (tBl (e2 oGt (eVar 1) (eC (.int 0)))) (tBl (e2 oEq (e2 oIx (eVar 2) (e2 oSub (eVar 1) (eC (.int 1)))) (e2 oIx (eVar 2) (e2 (oAdd false) (e2 oSub (eVar 1) (eC (.int 1))) (eVar 4)))))) (lp__law_least_2 ca))
    (sSeq (sSet 8 (eCall fTuple (aCons (eLc false (eArgs range1 (aCons (eVar 1) aNil)) (gaName 3) (tTru (e2 oIx (eVar 2) (eVar 3))) (eVar 3) [3]) aNil)))
    (sSeq (sSet 9 (eCall fTuple (aCons (eLc false (eArgs range1 (aCons (eVar 4) aNil)) (gaName 10) (tTru (e2 oIx (eVar 2) (e2 (oAdd false) (eVar 1) (eVar 10)))) (eVar 10) [10]) aNil)))
    (sSeq (sRet (eTup (aCons (eVar 8) (aCons (eVar 1) (aCons (eVar 4) (aCons (eVar 9) aNil))))))
    sNil))))))))
def f__law_least (ca : CA) : List D → Mem → R D := runD 11 (b__law_least ca)
def b__law_shows (ca : CA) : SX :=
    (sSeq (sIf (tNot' (tTru (e1 (oIsi (kitC ca.c_Rounds)) (eVar 0)))) (sSeq (sRet (eC (.bl false)))
    sNil) sNil)
    (sSeq (sIf (tOr' (tNot' (tTru (e1 (oIsi (kitT ["tuple"])) (e1 (oFld ca.c_Rounds "first") (eVar 0))))) (tNot' (tTru (e1 (oIsi (kitT ["tuple"])) (e1 (oFld ca.c_Rounds "late") (eVar 0)))))) (sSeq (sRet (eC (.bl false)))
    sNil) sNil)
    (sSeq (sSet 2 (e2 (oAdd false) (e2 (oAdd false) (eCall (fList false) (aCons (e1 (oFld ca.c_Rounds "first") (eVar 0)) aNil)) (eCall (fList false) (aCons (e1 (oFld ca.c_Rounds "late") (eVar 0)) aNil))) (eLst false (aCons (e1 (oFld ca.c_Rounds "start") (eVar 0)) (aCons (e1 (oFld ca.c_Rounds "period") (eVar 0)) aNil)))))
    (sSeq (sIf (tBl (e2 oNe (eLc false (bnd (eVar 2) fun d _ m => iterD d m) (gaName 3) (tNot' (tTru (eCall (callD 1 (f__law_is_number ca)) (aCons (eVar 3) aNil)))) (eVar 3) [3]) (eLst false aNil))) (sSeq (sRet (eC (.bl false)))
    sNil) sNil)
    (sSeq (sIf (tOr' (tBl (e2 oNe (e1 (oFld ca.c_Rounds "start") (eVar 0)) (e2 oIx (eVar 1) (eC (.int 1))))) (tBl (e2 oNe (e1 (oFld ca.c_Rounds "period") (eVar 0)) (e2 oIx (eVar 1) (eC (.int 2)))))) (sSeq (sRet (eC (.bl false)))
    sNil) sNil)
    (sSeq (sRet (eAnd (e2 oEq (eCall (fList false) (aCons (e1 (oFld ca.c_Rounds "first") (eVar 0)) aNil)) (eCall (fList false) (aCons (e2 oIx (eVar 1) (eC (.int 0))) aNil))) (e2 oEq (eCall (fList false) (aCons (e1 (oFld ca.c_Rounds "late") (eVar 0)) aNil)) (eCall (fList false) (aCons (e2 oIx (eVar 1) (eC (.int 3))) aNil)))))
    sNil))))))
def f__law_shows (ca : CA) : List D → Mem → R D := runD 4 (b__law_shows ca)
def b__law_form (ca : CA) : SX :=
    (sSeq (sSet 2 (e2 (oAdd false) (eC (.int 1)) (eCall (callD 2 (f__law_take ca)) (aCons (eVar 0) (aCons (eC (.int 8)) aNil)))))
    (sSeq (sSet 3 (eCall (callD 2 (f__law_take ca)) (aCons (eVar 0) (aCons (eC (.int 15)) aNil))))
    (sSeq (sIf (tBl (e2 oEq (eCall (callD 2 (f__law_take ca)) (aCons (eVar 0) (aCons (eVar 1) aNil))) (eC (.int 0)))) (sSeq (sSet 2 (e2 (oAdd false) (eC (.int 1)) (eCall (callD 2 (f__law_take ca)) (aCons (eVar 0) (aCons (eC (.int 30)) aNil)))))
    (sSeq (sSet 3 (eCall (callD 2 (f__law_take ca)) (aCons (eVar 0) (aCons (eC (.int 201)) aNil))))
    sNil)) sNil)
    (sSeq (sSet 4 (eLc false (eArgs range2 (aCons (eC (.int 1)) (aCons (e2 (oAdd false) (eVar 2) (eC (.int 1))) aNil))) (gaName 5) (tBl (e2 oEq (e2 oMod (eCall fInt (aCons (eVar 2) aNil)) (eVar 5)) (eC (.int 0)))) (eVar 5) [5]))
    (sSeq (sSet 6 (e2 oIx (eVar 4) (eCall (callD 2 (f__law_take ca)) (aCons (eVar 0) (aCons (eCall fLen (aCons (eVar 4) aNil)) aNil)))))
    (sSeq (sIf (tBl (e2 oEq (eCall (callD 2 (f__law_take ca)) (aCons (eVar 0) (aCons (eC (.int 2)) aNil))) (eC (.int 0)))) (sSeq (sSet 6 (eVar 2))
    sNil) sNil)
    (sSeq (sSet 7 (eCall (callD 2 (f__law_take ca)) (aCons (eVar 0) (aCons (eC (.int 8)) aNil))))
    (sSeq (sSet 8 (eCall (callD 2 (f__law_take ca)) (aCons (eVar 0) (aCons (eVar 6) aNil))))
    (sSeq (sSet 9 (eLc false (eArgs range1 (aCons (eVar 6) aNil)) (gaName 10) tT (eCall (callD 2 (f__law_take ca)) (aCons (eVar 0) (aCons (eC (.int 2)) aNil))) [10]))
    (sSeq (sIf (tBl (e2 oLt (eVar 7) (eC (.int 2)))) (sSeq (sSet 9 (eLc false (eArgs range1 (aCons (eVar 6) aNil)) (gaName 10) tT (eVar 7) [10]))
    sNil) (sSeq (sIf (tBl (e2 oLt (eVar 7) (eC (.int 4)))) (sSeq (sSet 9 (eLc false (eArgs range1 (aCons (eVar 6) aNil)) (gaName 10) tT (eCall fInt (aCons (e2 oEq (eVar 10) (eVar 8)) aNil)) [10]))
    sNil) (sSeq (sIf (tBl (e2 oEq (eVar 7) (eC (.int 4)))) (sSeq (sSet 9 (eLc false (eArgs range1 (aCons (eVar 6) aNil)) (gaName 10) tT (eCall fInt (aCons (e2 oNe (eVar 10) (eVar 8)) aNil)) [10]))
    sNil) sNil)
    sNil))
    sNil))
    (sSeq (sSet 11 (eCall (callD 2 (f__law_take ca)) (aCons (eVar 0) (aCons (e2 (oAdd false) (eVar 3) (eC (.int 1))) aNil))))
    (sSeq (sSet 12 (e2 oIx (eLst false (aCons (eC (.int 2)) (aCons (eC (.int 2)) (aCons (eC (.int 7)) aNil)))) (eCall (callD 2 (f__law_take ca)) (aCons (eVar 0) (aCons (eC (.int 3)) aNil)))))
    (sSeq (sSet 13 (eLc false (eArgs range1 (aCons (eVar 11) aNil)) (gaName 10) tT (eCall (callD 2 (f__law_take ca)) (aCons (eVar 0) (aCons (eVar 12) aNil))) [10]))
    (sSeq (sSet 14 (eLc false (eArgs range1 (aCons (eVar 11) aNil)) (gaName 10) (tBl (e2 oEq (e2 oIx (eVar 13) (eVar 10)) (eC (.int 1)))) (eVar 10) [10]))
    (sSeq (sSet 14 (e2 (oAdd false) (eVar 14) (eLc false (eArgs range2 (aCons (eVar 11) (aCons (eVar 3) aNil))) (gaName 10) (tBl (e2 oEq (e2 oIx (eVar 9) (e2 oMod (eCall fInt (aCons (e2 oSub (eVar 10) (eVar 3)) aNil)) (eVar 6))) (eC (.int 1)))) (eVar 10) [10])))
    (sSeq (sSet 15 (eLc false (eArgs range1 (aCons (eVar 2) aNil)) (gaName 10) (tBl (e2 oEq (e2 oIx (eVar 9) (e2 oMod (eCall fInt (aCons (eVar 10) aNil)) (eVar 6))) (eC (.int 1)))) (eVar 10) [10]))
    (sSeq (sSet 16 (eCall (callD 2 (f__law_take ca)) (aCons (eVar 0) (aCons (eC (.int 3)) aNil))))
    (sSeq (sSet 8 (eCall (callD 2 (f__law_take ca)) (aCons (eVar 0) (aCons (e2 (oAdd false) (eVar 3) (eVar 2)) aNil))))
    (sSeq (sIf (tBl (e2 oEq (eVar 16) (eC (.int 0)))) (sSeq (sRet (eCall (callD 2 (f__law_toggle ca)) (aCons (eTup (aCons (eVar 14) (aCons (eVar 3) (aCons (eVar 2) (aCons (eVar 15) aNil))))) (aCons (eVar 8) aNil))))
    sNil) sNil)
    (sSeq (sRet (eTup (aCons (eVar 14) (aCons (eVar 3) (aCons (eVar 2) (aCons (eVar 15) aNil))))))
    sNil))))))))))))))))))))
def f__law_form (ca : CA) : List D → Mem → R D := runD 17 (b__law_form ca)
def lp__law_order_1 (ca : CA) : SX :=
    (sSeq (sDrop (eBM "list" (LstM fInsert) (eVar 4) (aCons (eCall (callD 2 (f__law_take ca)) (aCons (eVar 0) (aCons (e2 (oAdd false) (eCall fLen (aCons (eVar 4) aNil)) (eC (.int 1))) aNil))) (aCons (eVar 5) aNil))))
    sNil)
def b__law_order (ca : CA) : SX :=
    (sSeq (sIf (tBl (e2 oGt (eCall fLen (aCons (eVar 1) aNil)) (eC (.int 12)))) (sSeq (sSet 2 (eCall (callD 2 (f__law_take ca)) (aCons (eVar 0) (aCons (eCall fLen (aCons (eVar 1) aNil)) aNil))))
    (sSeq (sSet 3 (eCall (callD 2 (f__law_take ca)) (aCons (eVar 0) (aCons (eC (.int 2)) aNil))))
    (sSeq (sSet 4 (e2 (oAdd false) (eSl false (eVar 1) (pSome (eVar 2)) pNone) (eSl false (eVar 1) pNone (pSome (eVar 2)))))
    (sSeq (sIf (tBl (e2 oEq (eVar 3) (eC (.int 1)))) (sSeq (sRet (e1 (oRev false) (eVar 4)))
    sNil) sNil)
    (sSeq (sRet (eVar 4))
    sNil))))) sNil)
    (sSeq (sSet 4 (eLst true aNil))
    (sSeq (sFor (bnd (eVar 1) fun d _ m => iterD d m) (gaName 5) (lp__law_order_1 ca))
    (sFz 4
    (sSeq (sRet (eVar 4))
    sNil)))))
def f__law_order (ca : CA) : List D → Mem → R D := runD 6 (b__law_order ca)
def b__law_odd (ca : CA) : SX :=
    (sSeq (sRet (e2 oIx (eLst false (aCons (eC (.bl true)) (aCons (eC (.bl false)) (aCons (eC .non) (aCons (eC (.str "1")) (aCons (e1 oNeg (eC (.int 1))) (aCons (eTup (aCons (eC (.int 0)) aNil)) (aCons (eLst false (aCons (eC (.int 0)) aNil)) aNil)))))))) (eCall (callD 2 (f__law_take ca)) (aCons (eVar 0) (aCons (eC (.int 7)) aNil)))))
    sNil)
def f__law_odd (ca : CA) : List D → Mem → R D := runD 1 (b__law_odd ca)
def b__law_near (ca : CA) : SX :=
    (sSeq (sSet 2 (eCall (callD 2 (f__law_take ca)) (aCons (eVar 0) (aCons (eC (.int 3)) aNil))))
    (sSeq (sSet 3 (eCall (callD 2 (f__law_take ca)) (aCons (eVar 0) (aCons (e2 (oAdd false) (e2 oIx (eVar 1) (eC (.int 1))) (e2 oIx (eVar 1) (eC (.int 2)))) aNil))))
    (sSeq (sIf (tBl (e2 oEq (eVar 2) (eC (.int 0)))) (sSeq (sSet 3 (eCall fMax2 (aCons (eC (.int 0)) (aCons (e2 oSub (e2 oIx (eVar 1) (eC (.int 1))) (eC (.int 1))) aNil))))
    sNil) sNil)
    (sSeq (sIf (tBl (e2 oEq (eVar 2) (eC (.int 1)))) (sSeq (sSet 3 (e2 oSub (e2 (oAdd false) (e2 oIx (eVar 1) (eC (.int 1))) (e2 oIx (eVar 1) (eC (.int 2)))) (eC (.int 1))))
    sNil) sNil)
    (sSeq (sRet (eCall (callD 2 (f__law_toggle ca)) (aCons (eVar 1) (aCons (eVar 3) aNil))))
    sNil)))))
def f__law_near (ca : CA) : List D → Mem → R D := runD 4 (b__law_near ca)
def b__law_variant (ca : CA) : SX :=
    (sSeq (sSet 2 (eCall (callD 2 (f__law_take ca)) (aCons (eVar 0) (aCons (eC (.int 4)) aNil))))
    (sSeq (sIf (tAnd' (tBl (e2 oEq (eVar 2) (eC (.int 0)))) (tBl (e2 oLt (e2 oIx (eVar 1) (eC (.int 1))) (eC (.int 200))))) (sSeq (sRet (eTup (aCons (e2 oIx (eVar 1) (eC (.int 0))) (aCons (e2 (oAdd false) (e2 oIx (eVar 1) (eC (.int 1))) (eC (.int 1))) (aCons (e2 oIx (eVar 1) (eC (.int 2))) (aCons (e2 oIx (eVar 1) (eC (.int 3))) aNil))))))
    sNil) sNil)
    (sSeq (sIf (tAnd' (tBl (e2 oEq (eVar 2) (eC (.int 1)))) (tBl (e2 oLt (e2 oIx (eVar 1) (eC (.int 2))) (eC (.int 30))))) (sSeq (sRet (eTup (aCons (e2 oIx (eVar 1) (eC (.int 0))) (aCons (e2 oIx (eVar 1) (eC (.int 1))) (aCons (e2 (oAdd false) (e2 oIx (eVar 1) (eC (.int 2))) (eC (.int 1))) (aCons (e2 oIx (eVar 1) (eC (.int 3))) aNil))))))
    sNil) sNil)
    (sSeq (sIf (tBl (e2 oEq (eVar 2) (eC (.int 2)))) (sSeq (sRet (eTup (aCons (e2 oIx (eVar 1) (eC (.int 0))) (aCons (e2 oIx (eVar 1) (eC (.int 1))) (aCons (e2 oIx (eVar 1) (eC (.int 2))) (aCons (eLc false (bnd (e2 oIx (eVar 1) (eC (.int 3))) fun d _ m => iterD d m) (gaName 3) tT (e2 oMod (eCall fInt (aCons (e2 (oAdd false) (eVar 3) (eC (.int 1))) aNil)) (e2 oIx (eVar 1) (eC (.int 2)))) [3]) aNil))))))
    sNil) sNil)
    (sSeq (sRet (eTup (aCons (eSl false (e2 oIx (eVar 1) (eC (.int 0))) (pSome (eC (.int 1))) pNone) (aCons (e2 oIx (eVar 1) (eC (.int 1))) (aCons (e2 oIx (eVar 1) (eC (.int 2))) (aCons (e2 oIx (eVar 1) (eC (.int 3))) aNil))))))
    sNil)))))
def f__law_variant (ca : CA) : List D → Mem → R D := runD 4 (b__law_variant ca)
def b__law_unfolded (ca : CA) : SX :=
    (sSeq (sSet 2 (eCall (callD 2 (f__law_take ca)) (aCons (eVar 0) (aCons (eCall fMin2 (aCons (eC (.int 9)) (aCons (e2 oSub (eC (.int 201)) (e2 oIx (eVar 1) (eC (.int 1)))) aNil))) aNil))))
    (sSeq (sIf (tBl (e2 oEq (eCall (callD 2 (f__law_take ca)) (aCons (eVar 0) (aCons (eC (.int 4)) aNil))) (eC (.int 0)))) (sSeq (sSet 2 (eCall (callD 2 (f__law_take ca)) (aCons (eVar 0) (aCons (e2 oSub (eC (.int 201)) (e2 oIx (eVar 1) (eC (.int 1)))) aNil))))
    sNil) sNil)
    (sSeq (sSet 3 (e2 (oAdd false) (eC (.int 1)) (eCall (callD 2 (f__law_take ca)) (aCons (eVar 0) (aCons (e2 oFdiv (eC (.int 30)) (e2 oIx (eVar 1) (eC (.int 2)))) aNil)))))
    (sSeq (sSet 4 (e2 (oAdd false) (e2 oIx (eVar 1) (eC (.int 1))) (eVar 2)))
    (sSeq (sSet 5 (eLc false (eArgs range1 (aCons (eVar 4) aNil)) (gaName 6) (tTru (eCall (callD 2 (f__law_has ca)) (aCons (eVar 1) (aCons (eVar 6) aNil)))) (eVar 6) [6]))
    (sSeq (sSet 7 (eLc false (eArgs range1 (aCons (e2 oMul (e2 oIx (eVar 1) (eC (.int 2))) (eVar 3)) aNil)) (gaName 8) (tTru (eCall (callD 2 (f__law_has ca)) (aCons (eVar 1) (aCons (e2 (oAdd false) (eVar 4) (eVar 8)) aNil)))) (eVar 8) [8]))
    (sSeq (sRet (eTup (aCons (eCall (callD 2 (f__law_order ca)) (aCons (eVar 0) (aCons (eVar 5) aNil))) (aCons (eVar 4) (aCons (e2 oMul (e2 oIx (eVar 1) (eC (.int 2))) (eVar 3)) (aCons (eCall (callD 2 (f__law_order ca)) (aCons (eVar 0) (aCons (eVar 7) aNil))) aNil))))))
    sNil)))))))
def f__law_unfolded (ca : CA) : List D → Mem → R D := runD 9 (b__law_unfolded ca)
def b__law_bent_row (ca : CA) : SX :=
    (sSeq (sSet 3 (eCall (callD 2 (f__law_take ca)) (aCons (eVar 0) (aCons (eC (.int 7)) aNil))))
    (sSeq (sSet 4 (eCall (callD 2 (f__law_take ca)) (aCons (eVar 0) (aCons (e2 (oAdd false) (eCall fLen (aCons (eVar 1) aNil)) (eC (.int 1))) aNil))))
    (sSeq (sSet 5 (eCall (callD 2 (f__law_take ca)) (aCons (eVar 0) (aCons (eC (.int 3)) aNil))))
    (sSeq (sSet 6 (eCall (callD 1 (f__law_odd ca)) (aCons (eVar 0) aNil)))
    (sSeq (sSet 7 (eCall (fList true) (aCons (eVar 1) aNil)))
    (sSeq (sIf (tBl (e2 oEq (eVar 3) (eC (.int 0)))) (sSeq (sDrop (eBM "list" (LstM fInsert) (eVar 7) (aCons (eVar 4) (aCons (e2 (oAdd false) (eVar 2) (eVar 5)) aNil))))
    sNil) (sSeq (sIf (tBl (e2 oEq (eVar 3) (eC (.int 1)))) (sSeq (sDrop (eBM "list" (LstM fInsert) (eVar 7) (aCons (eVar 4) (aCons (e2 oSub (e1 oNeg (eC (.int 1))) (eVar 5)) aNil))))
    sNil) (sSeq (sIf (tBl (e2 oEq (eVar 3) (eC (.int 2)))) (sSeq (sRet (e2 oIx (eLst false (aCons (eC .non) (aCons (eC (.int 7)) (aCons (eC (.str "")) (aCons (eC (.str "01")) (aCons (fun _ m => newD false [] [] m) (aCons (eC (.bl true)) aNil))))))) (eCall (callD 2 (f__law_take ca)) (aCons (eVar 0) (aCons (eC (.int 6)) aNil)))))
    sNil) (sSeq (sIf (tAnd' (tBl (e2 oLt (eVar 3) (eC (.int 5)))) (tBl (e2 oNe (eVar 1) (eLst false aNil)))) (sSeq (sDrop (eBM "list" (LstM fInsert) (eVar 7) (aCons (eVar 4) (aCons (e2 oIx (eVar 1) (e2 oMod (eCall fInt (aCons (e2 (oAdd false) (eVar 4) (eVar 5)) aNil)) (eCall fLen (aCons (eVar 1) aNil)))) aNil))))
    sNil) (sSeq (sIf (tAnd' (tBl (e2 oEq (eVar 3) (eC (.int 5)))) (tBl (e2 oNe (eVar 1) (eLst false aNil)))) (sSeq (sSub (eVar 6) (eVar 7) (e2 oMod (eCall fInt (aCons (eVar 4) aNil)) (eCall fLen (aCons (eVar 1) aNil))) setL)
    sNil) (sSeq (sDrop (eBM "list" (LstM fInsert) (eVar 7) (aCons (eVar 4) (aCons (eVar 6) aNil))))
    sNil))
    sNil))
    sNil))
    sNil))
    sNil))
    (sFz 7
    (sSeq (sIf (tBl (e2 oEq (eVar 5) (eC (.int 1)))) (sSeq (sRet (eCall fTuple (aCons (eVar 7) aNil)))
    sNil) sNil)
    (sSeq (sRet (eVar 7))
    sNil)))))))))
def f__law_bent_row (ca : CA) : List D → Mem → R D := runD 8 (b__law_bent_row ca)
def b_Rounds___init__ (ca : CA) : SX :=
    (sSeq (sIf (tOr' (tNot' (tTru (eCall (callD 1 (f__is_number ca)) (aCons (eVar 2) aNil)))) (tOr' (tNot' (tTru (eCall (callD 1 (f__is_number ca)) (aCons (eVar 3) aNil)))) (tBl (e2 oEq (eVar 3) (eC (.int 0)))))) (sSeq (sRaise (fun _ m => .ok ⟨.ref ca.c_InvalidRounds, none⟩ m))
    sNil) sNil)
    (sSeq (sIf (tOr' (tNot' (tTru (eCall (callD 2 (f__are_unlike_below ca)) (aCons (eVar 1) (aCons (eVar 2) aNil))))) (tNot' (tTru (eCall (callD 2 (f__are_unlike_below ca)) (aCons (eVar 4) (aCons (eVar 3) aNil)))))) (sSeq (sRaise (fun _ m => .ok ⟨.ref ca.c_InvalidRounds, none⟩ m))
    sNil) sNil)
    (sSeq (sSet 5 (eCall (callD 2 (f__least_period ca)) (aCons (eVar 4) (aCons (eVar 3) aNil))))
    (sSeq (sSet 6 (eSortS false (bnd (eVar 4) fun d _ m => iterD d m) (gaName 7) tT (e2 oMod (eVar 7) (eVar 5)) [7]))
    (sSeq (sSet 8 (eCall (callD 4 (f__least_start ca)) (aCons (eVar 1) (aCons (eVar 2) (aCons (eVar 5) (aCons (eVar 6) aNil))))))
    (sSeq (sFldS ca.c_Rounds "first" (eCall fTuple (aCons (eCall (fSorted false) (aCons (eLc false (bnd (eVar 1) fun d _ m => iterD d m) (gaName 9) (tBl (e2 oLt (eVar 9) (eVar 8))) (eVar 9) [9]) aNil)) aNil)) (eVar 0))
    (sSeq (sFldS ca.c_Rounds "start" (eVar 8) (eVar 0))
    (sSeq (sFldS ca.c_Rounds "period" (eVar 5) (eVar 0))
    (sSeq (sFldS ca.c_Rounds "late" (eCall fTuple (aCons (eCall (fSorted false) (aCons (eLc false (bnd (eVar 6) fun d _ m => iterD d m) (gaName 7) tT (e2 oMod (e2 oSub (e2 (oAdd false) (eVar 2) (eVar 7)) (eVar 8)) (eVar 5)) [7]) aNil)) aNil)) (eVar 0))
    sNil)))))))))
def f_Rounds___init__ (ca : CA) : List D → Mem → R D := runD 10 (b_Rounds___init__ ca)
def b__law_bent (ca : CA) : SX :=
    (sSeq (sSet 2 (eCall (fList false) (aCons (e2 oIx (eVar 1) (eC (.int 0))) aNil)))
    (sSeq (sSet 3 (eCall (fList false) (aCons (e2 oIx (eVar 1) (eC (.int 3))) aNil)))
    (sSeq (sSet 4 (eCall (callD 2 (f__law_take ca)) (aCons (eVar 0) (aCons (eC (.int 10)) aNil))))
    (sSeq (sIf (tBl (e2 oLt (eVar 4) (eC (.int 3)))) (sSeq (sRet (eTup (aCons (eCall (callD 3 (f__law_bent_row ca)) (aCons (eVar 0) (aCons (eVar 2) (aCons (e2 oIx (eVar 1) (eC (.int 1))) aNil)))) (aCons (e2 oIx (eVar 1) (eC (.int 1))) (aCons (e2 oIx (eVar 1) (eC (.int 2))) (aCons (eVar 3) aNil))))))
    sNil) sNil)
    (sSeq (sIf (tBl (e2 oLt (eVar 4) (eC (.int 6)))) (sSeq (sRet (eTup (aCons (eVar 2) (aCons (e2 oIx (eVar 1) (eC (.int 1))) (aCons (e2 oIx (eVar 1) (eC (.int 2))) (aCons (eCall (callD 3 (f__law_bent_row ca)) (aCons (eVar 0) (aCons (eVar 3) (aCons (e2 oIx (eVar 1) (eC (.int 2))) aNil)))) aNil))))))
    sNil) sNil)
    (sSeq (sIf (tBl (e2 oEq (eVar 4) (eC (.int 6)))) (sSeq (sRet (eTup (aCons (eVar 2) (aCons (eCall (callD 1 (f__law_odd ca)) (aCons (eVar 0) aNil)) (aCons (e2 oIx (eVar 1) (eC (.int 2))) (aCons (eVar 3) aNil))))))
    sNil) sNil)
    (sSeq (sIf (tBl (e2 oEq (eVar 4) (eC (.int 7)))) (sSeq (sRet (eTup (aCons (eVar 2) (aCons (e2 oIx (eVar 1) (eC (.int 1))) (aCons (eCall (callD 1 (f__law_odd ca)) (aCons (eVar 0) aNil)) (aCons (eVar 3) aNil))))))
    sNil) sNil)
    (sSeq (sIf (tAnd' (tBl (e2 oEq (eVar 4) (eC (.int 8)))) (tBl (e2 oNe (eVar 2) (eLst false aNil)))) (sSeq (sRet (eTup (aCons (eVar 2) (aCons (eCall (callD 2 (f__law_take ca)) (aCons (eVar 0) (aCons (e2 (oAdd false) (eCall fMaxL (aCons (eVar 2) aNil)) (eC (.int 1))) aNil))) (aCons (e2 oIx (eVar 1) (eC (.int 2))) (aCons (eVar 3) aNil))))))
    sNil) sNil)
    (sSeq (sIf (tAnd' (tBl (e2 oEq (eVar 4) (eC (.int 9)))) (tAnd' (tBl (e2 oNe (eVar 3) (eLst false aNil))) (tBl (e2 oGt (eCall fMaxL (aCons (eVar 3) aNil)) (eC (.int 0)))))) (sSeq (sRet (eTup (aCons (eVar 2) (aCons (e2 oIx (eVar 1) (eC (.int 1))) (aCons (e2 (oAdd false) (eC (.int 1)) (eCall (callD 2 (f__law_take ca)) (aCons (eVar 0) (aCons (eCall fMaxL (aCons (eVar 3) aNil)) aNil)))) (aCons (eVar 3) aNil))))))
    sNil) sNil)
    (sSeq (sIf (tBl (e2 oEq (eVar 4) (eC (.int 8)))) (sSeq (sRet (eTup (aCons (eVar 2) (aCons (e2 oSub (e1 oNeg (eC (.int 1))) (eCall (callD 2 (f__law_take ca)) (aCons (eVar 0) (aCons (eC (.int 3)) aNil)))) (aCons (e2 oIx (eVar 1) (eC (.int 2))) (aCons (eVar 3) aNil))))))
    sNil) sNil)
    (sSeq (sRet (eTup (aCons (eVar 2) (aCons (e2 oIx (eVar 1) (eC (.int 1))) (aCons (e2 oSub (eC (.int 0)) (eCall (callD 2 (f__law_take ca)) (aCons (eVar 0) (aCons (eC (.int 3)) aNil)))) (aCons (eVar 3) aNil))))))
    sNil)))))))))))
def f__law_bent (ca : CA) : List D → Mem → R D := runD 5 (b__law_bent ca)
def b__law_refused (ca : CA) : SX :=
    (sSeq (sTry 1 (fun v => if v = .ref ca.c_InvalidRounds then some true else none) (sSeq (sDrop (eCall (oMake ca.c_Rounds 5 (f_Rounds___init__ ca)) (aCons (e2 oIx (eVar 0) (eC (.int 0))) (aCons (e2 oIx (eVar 0) (eC (.int 1))) (aCons (e2 oIx (eVar 0) (eC (.int 2))) (aCons (e2 oIx (eVar 0) (eC (.int 3))) aNil))))))
    sNil) (fun ex => if ex.cls = .ref ca.c_InvalidRounds ∧ ex.fs = none then (fun _ _ m => .ret (.bl true) m) else sBad))
    (sSeq (sRet (eC (.bl false)))
    sNil))
def f__law_refused (ca : CA) : List D → Mem → R D := runD 2 (b__law_refused ca)
def lp__law_variants_right_1 (ca : CA) : SX :=
    (sSeq (sSet 4 (eCall (callD 2 (f__law_variant ca)) (aCons (eVar 0) (aCons (eVar 2) aNil))))
    (sSeq (sSet 5 (eCall (callD 1 (f__law_least ca)) (aCons (eVar 4) aNil)))
    (sSeq (sSet 6 (eCall (oMake ca.c_Rounds 5 (f_Rounds___init__ ca)) (aCons (eCall (fList false) (aCons (e2 oIx (eVar 4) (eC (.int 0))) aNil)) (aCons (e2 oIx (eVar 4) (eC (.int 1))) (aCons (e2 oIx (eVar 4) (eC (.int 2))) (aCons (eCall (fList false) (aCons (e2 oIx (eVar 4) (eC (.int 3))) aNil)) aNil))))))
    (sSeq (sIf (tOr' (tNot' (tTru (eCall (callD 2 (f__law_shows ca)) (aCons (eVar 6) (aCons (eVar 5) aNil))))) (tBl (e2 oNe (e2 (oOwn ca.c_Rounds 2 (f_Rounds___eq__ ca)) (eVar 1) (eVar 6)) (e2 oEq (eVar 5) (eVar 2))))) (sSeq (sRet (eC (.bl false)))
    sNil) sNil)
    sNil))))
def b__law_variants_right (ca : CA) : SX :=
    (sSeq (sFor (eArgs range1 (aCons (eC (.int 2)) aNil)) (gaName 3) (lp__law_variants_right_1 ca))
    (sSeq (sRet (eC (.bl true)))
    sNil))
def f__law_variants_right (ca : CA) : List D → Mem → R D := runD 7 (b__law_variants_right ca)
def lp_law_1 (ca : CA) : SX :=
    (sSeq (sIf (tNot' (tTru (eCall (callD 1 (f__law_refused ca)) (aCons (eCall (callD 2 (f__law_bent ca)) (aCons (eCall (callD 2 (f__law_box ca)) (aCons (eVar 0) (aCons (eVar 14) aNil))) (aCons (eVar 1) aNil))) aNil)))) (sSeq (sRet (eC (.bl false)))
    sNil) sNil)
    sNil)
def b_law (ca : CA) : SX :=
    (sSeq (sSet 1 (eCall (callD 2 (f__law_form ca)) (aCons (eCall (callD 2 (f__law_box ca)) (aCons (eVar 0) (aCons (eC (.int 0)) aNil))) (aCons (eC (.int 4)) aNil))))
    (sSeq (sSet 2 (eCall (callD 1 (f__law_least ca)) (aCons (eVar 1) aNil)))
    (sSeq (sSet 3 (eCall (callD 2 (f__law_box ca)) (aCons (eVar 0) (aCons (eC (.int 1)) aNil))))
    (sSeq (sSet 4 (eCall (callD 2 (f__law_order ca)) (aCons (eVar 3) (aCons (e2 oIx (eVar 1) (eC (.int 0))) aNil))))
    (sSeq (sSet 5 (eCall (callD 2 (f__law_order ca)) (aCons (eVar 3) (aCons (e2 oIx (eVar 1) (eC (.int 3))) aNil))))
    (sSeq (sSet 6 (eCall (fList true) (aCons (eVar 4) aNil)))
    (sSeq (sSet 7 (eCall (fList true) (aCons (eVar 5) aNil)))
    (sSeq (sSet 8 (eCall (oMake ca.c_Rounds 5 (f_Rounds___init__ ca)) (aCons (eVar 6) (aCons (e2 oIx (eVar 1) (eC (.int 1))) (aCons (e2 oIx (eVar 1) (eC (.int 2))) (aCons (eVar 7) aNil))))))
    (sSeq (sIf (tOr' (tNot' (tTru (eCall (callD 2 (f__law_shows ca)) (aCons (eVar 8) (aCons (eVar 2) aNil))))) (tOr' (tBl (e2 oNe (eVar 6) (eVar 4))) (tBl (e2 oNe (eVar 7) (eVar 5))))) (sSeq (sRet (eC (.bl false)))
    sNil) sNil)
    (sSeq (sDrop (eBM "list" (LstM fAppend) (eVar 6) (aCons (e2 oIx (eVar 1) (eC (.int 1))) aNil)))
    (sFz 6
    (sSeq (sDrop (eBM "list" (LstM fClear) (eVar 7) aNil))
    (sFz 7
    (sSeq (sSet 9 (eCall (callD 2 (f__law_unfolded ca)) (aCons (eVar 3) (aCons (eVar 1) aNil))))
    (sSeq (sSet 10 (eCall (oMake ca.c_Rounds 5 (f_Rounds___init__ ca)) (aCons (eCall fTuple (aCons (e2 oIx (eVar 9) (eC (.int 0))) aNil)) (aCons (e2 oIx (eVar 9) (eC (.int 1))) (aCons (e2 oIx (eVar 9) (eC (.int 2))) (aCons (eCall fTuple (aCons (e2 oIx (eVar 9) (eC (.int 3))) aNil)) aNil))))))
    (sSeq (sSet 11 (eCall (oMake ca.c_Rounds 5 (f_Rounds___init__ ca)) (aCons (e2 oIx (eVar 2) (eC (.int 0))) (aCons (e2 oIx (eVar 2) (eC (.int 1))) (aCons (e2 oIx (eVar 2) (eC (.int 2))) (aCons (eCall (fList false) (aCons (e2 oIx (eVar 2) (eC (.int 3))) aNil)) aNil))))))
    (sSeq (sIf (tOr' (tNot' (tTru (eCall (callD 2 (f__law_shows ca)) (aCons (eVar 8) (aCons (eVar 2) aNil))))) (tOr' (tNot' (tTru (eCall (callD 2 (f__law_shows ca)) (aCons (eVar 10) (aCons (eVar 2) aNil))))) (tNot' (tTru (eCall (callD 2 (f__law_shows ca)) (aCons (eVar 11) (aCons (eVar 2) aNil))))))) (sSeq (sRet (eC (.bl false)))
    sNil) sNil)
    (sSeq (sIf (tOr' (tBl (e2 (oIsB true) (e2 (oOwn ca.c_Rounds 2 (f_Rounds___eq__ ca)) (eVar 8) (eVar 10)) (eC (.bl true)))) (tOr' (tBl (e2 (oIsB true) (e2 (oOwn ca.c_Rounds 2 (f_Rounds___eq__ ca)) (eVar 10) (eVar 8)) (eC (.bl true)))) (tBl (e2 (oIsB true) (e2 (oOwn ca.c_Rounds 2 (f_Rounds___eq__ ca)) (eVar 11) (eVar 10)) (eC (.bl true)))))) (sSeq (sRet (eC (.bl false)))
    sNil) sNil)
    (sSeq (sSet 12 (eCall (callD 2 (f__law_near ca)) (aCons (eVar 3) (aCons (eVar 1) aNil))))
    (sSeq (sSet 13 (eCall (oMake ca.c_Rounds 5 (f_Rounds___init__ ca)) (aCons (eCall (fList false) (aCons (e2 oIx (eVar 12) (eC (.int 0))) aNil)) (aCons (e2 oIx (eVar 12) (eC (.int 1))) (aCons (e2 oIx (eVar 12) (eC (.int 2))) (aCons (eCall fTuple (aCons (e2 oIx (eVar 12) (eC (.int 3))) aNil)) aNil))))))
    (sSeq (sIf (tNot' (tTru (eCall (callD 2 (f__law_shows ca)) (aCons (eVar 13) (aCons (eCall (callD 1 (f__law_least ca)) (aCons (eVar 12) aNil)) aNil))))) (sSeq (sRet (eC (.bl false)))
    sNil) sNil)
    (sSeq (sIf (tOr' (tBl (e2 (oIsB true) (e2 (oOwn ca.c_Rounds 2 (f_Rounds___eq__ ca)) (eVar 8) (eVar 13)) (eC (.bl false)))) (tBl (e2 (oIsB true) (e2 (oOwn ca.c_Rounds 2 (f_Rounds___eq__ ca)) (eVar 13) (eVar 10)) (eC (.bl false))))) (sSeq (sRet (eC (.bl false)))
    sNil) sNil)
    (sSeq (sIf (tNot' (tTru (eCall (callD 3 (f__law_variants_right ca)) (aCons (eVar 3) (aCons (eVar 8) (aCons (eVar 2) aNil)))))) (sSeq (sRet (eC (.bl false)))
    sNil) sNil)
    (sSeq (sFor (eArgs range2 (aCons (eC (.int 2)) (aCons (eCall fMax2 (aCons (eC (.int 7)) (aCons (eCall fMin2 (aCons (eCall fLen (aCons (eVar 0) aNil)) (aCons (eC (.int 40)) aNil))) aNil))) aNil))) (gaName 14) (lp_law_1 ca))
    (sSeq (sIf (tNot' (tTru (eCall (callD 2 (f__law_shows ca)) (aCons (eCall (oMake ca.c_Rounds 5 (f_Rounds___init__ ca)) (aCons (eLst false aNil) (aCons (eC (.int 0)) (aCons (eC (.int 1)) (aCons (eLst false aNil) aNil))))) (aCons (eTup (aCons (eTup aNil) (aCons (eC (.int 0)) (aCons (eC (.int 1)) (aCons (eTup aNil) aNil))))) aNil))))) (sSeq (sRet (eC (.bl false)))
    sNil) sNil)
    (sSeq (sIf (tNot' (tTru (eCall (callD 2 (f__law_shows ca)) (aCons (eCall (oMake ca.c_Rounds 5 (f_Rounds___init__ ca)) (aCons (eTup aNil) (aCons (eC (.int 0)) (aCons (eC (.int 1)) (aCons (eTup (aCons (eC (.int 0)) aNil)) aNil))))) (aCons (eTup (aCons (eTup aNil) (aCons (eC (.int 0)) (aCons (eC (.int 1)) (aCons (eTup (aCons (eC (.int 0)) aNil)) aNil))))) aNil))))) (sSeq (sRet (eC (.bl false)))
    sNil) sNil)
    (sSeq (sSet 15 (eCall (oMake ca.c_Rounds 5 (f_Rounds___init__ ca)) (aCons (eCall fTuple (aCons (eVar 4) aNil)) (aCons (e2 oIx (eVar 1) (eC (.int 1))) (aCons (e2 oIx (eVar 1) (eC (.int 2))) (aCons (eCall (fList false) (aCons (eVar 5) aNil)) aNil))))))
    (sSeq (sIf (tOr' (tNot' (tTru (eCall (callD 2 (f__law_shows ca)) (aCons (eVar 15) (aCons (eVar 2) aNil))))) (tBl (e2 (oIsB true) (e2 (oOwn ca.c_Rounds 2 (f_Rounds___eq__ ca)) (eVar 15) (eVar 8)) (eC (.bl true))))) (sSeq (sRet (eC (.bl false)))
    sNil) sNil)
    (sSeq (sRet (eAnd (eCall (callD 2 (f__law_shows ca)) (aCons (eVar 8) (aCons (eVar 2) aNil))) (eAnd (eCall (callD 2 (f__law_shows ca)) (aCons (eVar 10) (aCons (eVar 2) aNil))) (eCall (callD 2 (f__law_shows ca)) (aCons (eVar 13) (aCons (eCall (callD 1 (f__law_least ca)) (aCons (eVar 12) aNil)) aNil))))))
    sNil)))))))))))))))))))))))))))))
def f_law (ca : CA) : List D → Mem → R D := runD 16 (b_law ca)
end
theorem bb_ValueError : bootBuiltins "ValueError" = some (.type "ValueError") := by decide +kernel
theorem hx_ {K : PySem.W.Frag} {mg : Str → Option Value} {ca : CA} (fx : Fx K mg ca) : ∀ v b, (fun v => if v = Value.ref ca.c_InvalidRounds then some true else none) v = some b → PySem.W.exmOne K v (.ref ca.c_InvalidRounds) = some b := by
  intro v b h
  dsimp only at h
  split at h
  · rename_i e
    subst e
    cases h
    exact fx.x_1
  · cases h
theorem hi_ (ca : CA) : ∀ (a : Addr) (d : Option Addr) (ex : Ex) (N : Nat) (loc : DL.Loc) (m : Mem), 1 < loc.length → SR.unset 1 ((fun (a : Addr) (_ : Option Addr) (ex : Ex) => if ex.cls = .ref ca.c_InvalidRounds ∧ ex.fs = none then (sSeq (sRet (eAnd (e1 (oIsE a .non true) (eVar 1)) (eAnd (e1 (oIsE a .non true) (eVar 1)) (eNot (e1 (oIsE a .non false) (eVar 1)))))) sNil) else sBad) a d ex N (loc.set 1 (some (exnV a d ex))) m) =
    (fun (ex : Ex) => if ex.cls = .ref ca.c_InvalidRounds ∧ ex.fs = none then (fun _ _ m => .ret (.bl true) m) else sBad) ex N loc m := by
  intro a d ex N loc m hl
  dsimp only
  split
  · rename_i h
    simp [sSeq, sRet, e1, bnd, eVar, hl, oIsE, exnV, h.2, R.bind, ofR, SR.unset, eAnd, eNot]
  · rfl

section
variable {P : Program} {w : World} {K : PySem.W.Frag} {mg : Str → Option Value} {base : Heap} {ca : CA}
theorem sc__is_number : FnScope ["value"] ["value"] (defScope s__is_number) := ⟨rfl, rfl, rfl, by decide +kernel, rfl, by decide +kernel, by decide +kernel⟩
theorem ok__is_number (F : FunAt K mg "_is_number" ["value"] s__is_number) (fx : Fx K mg ca) :
    DefOk P w K mg base 1 "_is_number" ["value"] (f__is_number ca) :=
  def_ok F sc__is_number fun f cdv A outer s H E C =>
    (dss_cons (ds_ret (de_and (de_isi (de_var 0) (cls_ty (by rfl) fx.n_int bb_int) kit_int (by rfl) fx.n_isinstance) (de_and (de_not (de_isi (de_var 0) (cls_ty (by rfl) fx.n_bool bb_bool) kit_bool (by rfl) fx.n_isinstance)) (de_one (de_cmp op_ge (O2.cmpI _ _) (de_var 0) de_int (by rfl))))))
    dss_nil)
theorem sc__least_period : FnScope ["late", "period", "parts", "step", "offset"] ["late", "period"] (defScope s__least_period) := ⟨rfl, rfl, rfl, by decide +kernel, rfl, by decide +kernel, by decide +kernel⟩
theorem ok__least_period (F : FunAt K mg "_least_period" ["late", "period"] s__least_period) (fx : Fx K mg ca) :
    DefOk P w K mg base 1 "_least_period" ["late", "period"] (f__least_period ca) :=
  def_ok F sc__least_period fun f cdv A outer s H E C =>
    (dss_cons (ds_for C (di_rangeN (by rfl) fx.n_range (da_cons (de_callB cr_len (OC.len _) (by rfl) fx.n_len bb_len (da_cons (de_var 0) da_nil)) (da_cons de_int (da_cons (de_op1 un_neg (O1.neg _) de_int) da_nil)))) (dg_name 2 C.nd rfl (by first | exact .inl rfl | exact .inr rfl)) (dss_cons (ds_if (dt_bool (dw_and (dt_cmp (op_eqD C.room.units) (O2.eq _) (de_op2 op_mod (O2.mod _) (de_callB cr_len (OC.len _) (by rfl) fx.n_len bb_len (da_cons (de_var 0) da_nil)) (de_var 2)) de_int (by rfl)) (dw_and1 (dt_cmp (op_eqD C.room.units) (O2.eq _) (de_op2 op_mod (O2.mod _) (de_var 1) (de_var 2)) de_int (by rfl))))) (dss_cons (ds_set 3 C rfl (by first | exact .inl rfl | exact .inr rfl) (de_op2 op_fdivW (O2.fdiv _) (de_var 1) (de_var 2)))
    (dss_cons (ds_if (dt_cmp (op_eqD C.room.units) (O2.eq _) (de_callB cr_srt (OC.sorted _ false) (by rfl) fx.n_sorted bb_sorted (da_cons (de_lc (own := [("offset", 4)]) false C (di_any (de_var 0)) (by show BlkOk ["late", "period", "parts", "step", "offset"] (defScope s__least_period) _ _; exact ⟨rfl, by decide +kernel, by decide +kernel, by decide +kernel, by decide +kernel⟩) (fun _ _ _ _ _ C => (dg_name 4 C.nd rfl (by first | exact .inl rfl | exact .inr rfl))) (fun _ _ _ _ _ C => dts_nil) (fun _ _ _ _ _ C => (de_op2 op_mod (O2.mod _) (de_op2 op_addA (O2.add _ false) (de_var 4) (de_var 3)) (de_var 1)))) da_nil)) (de_callB cr_srt (OC.sorted _ false) (by rfl) fx.n_sorted bb_sorted (da_cons (de_var 0) da_nil)) (by rfl)) (dss_cons (ds_ret (de_var 3))
    dss_nil) dss_nil)
    dss_nil)) dss_nil)
    dss_nil))
    (dss_cons (ds_ret de_int)
    dss_nil))
theorem sc__least_start : FnScope ["first", "start", "step", "offsets", "members", "offset", "known", "member", "lost", "number", "gained"] ["first", "start", "step", "offsets"] (defScope s__least_start) := ⟨rfl, rfl, rfl, by decide +kernel, rfl, by decide +kernel, by decide +kernel⟩
theorem ok__least_start (F : FunAt K mg "_least_start" ["first", "start", "step", "offsets"] s__least_start) (fx : Fx K mg ca) :
    DefOk P w K mg base 1 "_least_start" ["first", "start", "step", "offsets"] (f__least_start ca) :=
  def_ok F sc__least_start fun f cdv A outer s H E C =>
    (dss_cons (ds_set 4 C rfl (by first | exact .inl rfl | exact .inr rfl) (de_lst false (da_star (de_var 0) (da_star (de_lc (own := [("offset", 5)]) false C (di_any (de_var 3)) (by show BlkOk ["first", "start", "step", "offsets", "members", "offset", "known", "member", "lost", "number", "gained"] (defScope s__least_start) _ _; exact ⟨rfl, by decide +kernel, by decide +kernel, by decide +kernel, by decide +kernel⟩) (fun _ _ _ _ _ C => (dg_name 5 C.nd rfl (by first | exact .inl rfl | exact .inr rfl))) (fun _ _ _ _ _ C => dts_nil) (fun _ _ _ _ _ C => (de_op2 op_addA (O2.add _ false) (de_var 1) (de_var 5)))) da_nil))))
    (dss_cons (ds_set 6 C rfl (by first | exact .inl rfl | exact .inr rfl) (de_dc (own := [("member", 7)]) C (di_any (de_var 4)) (by show BlkOk ["first", "start", "step", "offsets", "members", "offset", "known", "member", "lost", "number", "gained"] (defScope s__least_start) _ _; exact ⟨rfl, by decide +kernel, by decide +kernel, by decide +kernel, by decide +kernel⟩) (fun _ _ _ _ _ C => (dg_name 7 C.nd rfl (by first | exact .inl rfl | exact .inr rfl))) (fun _ _ _ _ _ C => dts_nil) (fun _ _ _ _ _ C => (de_var 7)) (fun _ _ _ _ _ C => de_bl)))
    (dss_cons (ds_setLc (own := [("number", 9)]) false 8 C rfl rfl (di_any (de_var 0)) (by show BlkOk ["first", "start", "step", "offsets", "members", "offset", "known", "member", "lost", "number", "gained"] (defScope s__least_start) _ _; exact ⟨rfl, by decide +kernel, by decide +kernel, by decide +kernel, by decide +kernel⟩) (fun _ _ _ _ _ C => (dg_name 9 C.nd rfl (by first | exact .inl rfl | exact .inr rfl))) (fun _ _ _ _ _ C => (dts_one (dt_cmp (op_notInA C.room) (O2.isin _ true) (de_op2 op_addA (O2.add _ false) (de_var 9) (de_var 2)) (de_var 6) (by rfl)))) (fun _ _ _ _ _ C => (de_var 9)) (by rfl))
    (dss_cons (ds_setLc (own := [("member", 7)]) false 10 C rfl rfl (di_any (de_var 4)) (by show BlkOk ["first", "start", "step", "offsets", "members", "offset", "known", "member", "lost", "number", "gained"] (defScope s__least_start) _ _; exact ⟨rfl, by decide +kernel, by decide +kernel, by decide +kernel, by decide +kernel⟩) (fun _ _ _ _ _ C => (dg_name 7 C.nd rfl (by first | exact .inl rfl | exact .inr rfl))) (fun _ _ _ _ _ C => (dts_one (dt_bool (dw_and (dt_cmp op_ge (O2.cmpI _ _) (de_var 7) (de_var 2) (by rfl)) (dw_and1 (dt_cmp (op_notInA C.room) (O2.isin _ true) (de_op2 op_sub (O2.sub _) (de_var 7) (de_var 2)) (de_var 6) (by rfl))))))) (fun _ _ _ _ _ C => (de_op2 op_sub (O2.sub _) (de_var 7) (de_var 2))) (by rfl))
    (dss_cons (ds_ret (de_op2 op_addA (O2.add _ false) (de_maxDf C (by rfl) fx.n_max (de_lst false (da_star (de_var 8) (da_star (de_var 10) da_nil))) (de_op1 un_neg (O1.neg _) de_int)) de_int))
    dss_nil)))))
theorem sc__law_seed : FnScope ["script", "place", "total", "cell"] ["script", "place"] (defScope s__law_seed) := ⟨rfl, rfl, rfl, by decide +kernel, rfl, by decide +kernel, by decide +kernel⟩
theorem ok__law_seed (F : FunAt K mg "_law_seed" ["script", "place"] s__law_seed) (fx : Fx K mg ca) :
    DefOk P w K mg base 1 "_law_seed" ["script", "place"] (f__law_seed ca) :=
  def_ok F sc__law_seed fun f cdv A outer s H E C =>
    (dss_cons (ds_if (dt_cmp op_lt (O2.cmpI _ _) (de_var 1) (de_callB cr_len (OC.len _) (by rfl) fx.n_len bb_len (da_cons (de_var 0) da_nil)) (by rfl)) (dss_cons (ds_ret (de_callTy call_int1 (OC.int _) (by rfl) fx.n_int bb_int (da_cons (de_callB call_abs (OC.abs _) (by rfl) fx.n_abs bb_abs (da_cons (de_ix (de_var 0) (de_var 1)) da_nil)) da_nil)))
    dss_nil) dss_nil)
    (dss_cons (ds_set 2 C rfl (by first | exact .inl rfl | exact .inr rfl) (de_op2 op_addA (O2.add _ false) (de_op2 op_mulA (O2.mul _) (de_var 1) de_int) de_int))
    (dss_cons (ds_for C (di_any (de_sl false (de_var 0) dp_none (dp_some de_int))) (dg_name 3 C.nd rfl (by first | exact .inl rfl | exact .inr rfl)) (dss_cons (ds_set 2 C rfl (by first | exact .inl rfl | exact .inr rfl) (de_op2 op_mod (O2.mod _) (de_callTy call_int1 (OC.int _) (by rfl) fx.n_int bb_int (da_cons (de_op2 op_addA (O2.add _ false) (de_op2 op_addA (O2.add _ false) (de_op2 op_mulA (O2.mul _) (de_var 2) de_int) (de_op2 op_mod (O2.mod _) (de_callTy call_int1 (OC.int _) (by rfl) fx.n_int bb_int (da_cons (de_var 3) da_nil)) de_int)) de_int) da_nil)) de_int))
    dss_nil))
    (dss_cons (ds_ret (de_var 2))
    dss_nil))))
theorem sc__law_take : FnScope ["box", "many", "digit", "number"] ["box", "many"] (defScope s__law_take) := ⟨rfl, rfl, rfl, by decide +kernel, rfl, by decide +kernel, by decide +kernel⟩
theorem ok__law_take (F : FunAt K mg "_law_take" ["box", "many"] s__law_take) (fx : Fx K mg ca) :
    DefOk P w K mg base 1 "_law_take" ["box", "many"] (f__law_take ca) :=
  def_ok F sc__law_take fun f cdv A outer s H E C =>
    (dss_cons (ds_sub (de_op2 op_addA (O2.add _ false) (de_ix (de_var 0) de_int) de_int) (de_var 0) de_int set_list (OS.list _))
    (dss_cons (ds_if (dt_cmp op_gt (O2.cmpI _ _) (de_ix (de_var 0) de_int) de_int (by rfl)) (dss_cons (ds_set 2 C rfl (by first | exact .inl rfl | exact .inr rfl) (de_op2 op_mod (O2.mod _) (de_callTy call_int1 (OC.int _) (by rfl) fx.n_int bb_int (da_cons (de_ix (de_var 0) de_int) da_nil)) (de_var 1)))
    (dss_cons (ds_sub (de_op2 op_fdivW (O2.fdiv _) (de_callTy call_int1 (OC.int _) (by rfl) fx.n_int bb_int (da_cons (de_ix (de_var 0) de_int) da_nil)) (de_var 1)) (de_var 0) de_int set_list (OS.list _))
    (dss_cons (ds_ret (de_var 2))
    dss_nil))) dss_nil)
    (dss_cons (ds_set 3 C rfl (by first | exact .inl rfl | exact .inr rfl) (de_op2 op_mod (O2.mod _) (de_callTy call_int1 (OC.int _) (by rfl) fx.n_int bb_int (da_cons (de_op2 op_mulA (O2.mul _) (de_op2 op_mulA (O2.mul _) (de_op2 op_addA (O2.add _ false) (de_ix (de_var 0) de_int) de_int) (de_op2 op_addA (O2.add _ false) (de_ix (de_var 0) de_int) de_int)) de_int) da_nil)) de_int))
    (dss_cons (ds_set 3 C rfl (by first | exact .inl rfl | exact .inr rfl) (de_op2 op_mod (O2.mod _) (de_callTy call_int1 (OC.int _) (by rfl) fx.n_int bb_int (da_cons (de_op2 op_addA (O2.add _ false) (de_op2 op_addA (O2.add _ false) (de_op2 op_mulA (O2.mul _) (de_var 3) (de_var 3)) (de_op2 op_mulA (O2.mul _) (de_ix (de_var 0) de_int) de_int)) de_int) da_nil)) de_int))
    (dss_cons (ds_ret (de_op2 op_mod (O2.mod _) (de_callTy call_int1 (OC.int _) (by rfl) fx.n_int bb_int (da_cons (de_op2 op_fdivW (O2.fdiv _) (de_var 3) de_int) da_nil)) (de_var 1)))
    dss_nil)))))
theorem sc__law_is_number : FnScope ["value"] ["value"] (defScope s__law_is_number) := ⟨rfl, rfl, rfl, by decide +kernel, rfl, by decide +kernel, by decide +kernel⟩
theorem ok__law_is_number (F : FunAt K mg "_law_is_number" ["value"] s__law_is_number) (fx : Fx K mg ca) :
    DefOk P w K mg base 1 "_law_is_number" ["value"] (f__law_is_number ca) :=
  def_ok F sc__law_is_number fun f cdv A outer s H E C =>
    (dss_cons (ds_ret (de_and (de_isi (de_var 0) (cls_ty (by rfl) fx.n_int bb_int) kit_int (by rfl) fx.n_isinstance) (de_and (de_not (de_isi (de_var 0) (cls_ty (by rfl) fx.n_bool bb_bool) kit_bool (by rfl) fx.n_isinstance)) (de_one (de_cmp op_ge (O2.cmpI _ _) (de_var 0) de_int (by rfl))))))
    dss_nil)
theorem sc__law_has : FnScope ["form", "number"] ["form", "number"] (defScope s__law_has) := ⟨rfl, rfl, rfl, by decide +kernel, rfl, by decide +kernel, by decide +kernel⟩
theorem ok__law_has (F : FunAt K mg "_law_has" ["form", "number"] s__law_has) (fx : Fx K mg ca) :
    DefOk P w K mg base 1 "_law_has" ["form", "number"] (f__law_has ca) :=
  def_ok F sc__law_has fun f cdv A outer s H E C =>
    (dss_cons (ds_if (dt_cmp op_lt (O2.cmpI _ _) (de_var 1) (de_ix (de_var 0) de_int) (by rfl)) (dss_cons (ds_ret (de_cmp (op_inA C.room) (O2.isin _ false) (de_var 1) (de_ix (de_var 0) de_int) (by rfl)))
    dss_nil) dss_nil)
    (dss_cons (ds_ret (de_cmp (op_inA C.room) (O2.isin _ false) (de_op2 op_mod (O2.mod _) (de_callTy call_int1 (OC.int _) (by rfl) fx.n_int bb_int (da_cons (de_op2 op_sub (O2.sub _) (de_var 1) (de_ix (de_var 0) de_int)) da_nil)) (de_ix (de_var 0) de_int)) (de_ix (de_var 0) de_int) (by rfl)))
    dss_nil))
theorem sc__law_toggle : FnScope ["form", "at", "first", "late"] ["form", "at"] (defScope s__law_toggle) := ⟨rfl, rfl, rfl, by decide +kernel, rfl, by decide +kernel, by decide +kernel⟩
theorem ok__law_toggle (F : FunAt K mg "_law_toggle" ["form", "at"] s__law_toggle) (fx : Fx K mg ca) :
    DefOk P w K mg base 1 "_law_toggle" ["form", "at"] (f__law_toggle ca) :=
  def_ok F sc__law_toggle fun f cdv A outer s H E C =>
    (dss_cons (ds_set 2 C rfl (by first | exact .inl rfl | exact .inr rfl) (de_callTy call_list_of (OC.list _ true) (by rfl) fx.n_list bb_list (da_cons (de_ix (de_var 0) de_int) da_nil)))
    (dss_cons (ds_set 3 C rfl (by first | exact .inl rfl | exact .inr rfl) (de_callTy call_list_of (OC.list _ true) (by rfl) fx.n_list bb_list (da_cons (de_ix (de_var 0) de_int) da_nil)))
    (dss_cons (ds_if (dt_bool (dw_and (dt_cmp op_lt (O2.cmpI _ _) (de_var 1) (de_ix (de_var 0) de_int) (by rfl)) (dw_and1 (dt_cmp (op_inA C.room) (O2.isin _ false) (de_var 1) (de_var 2) (by rfl))))) (dss_cons (ds_expr (de_bm PySem.F.plainAttrs_list PySem.F.slot_list_remove PySem.F.type_list_remove mt_remove (OM.lst LM.remove _) (de_var 2) (da_cons (de_var 1) da_nil)))
    dss_nil) (dss_cons (ds_if (dt_cmp op_lt (O2.cmpI _ _) (de_var 1) (de_ix (de_var 0) de_int) (by rfl)) (dss_cons (ds_set 2 C rfl (by first | exact .inl rfl | exact .inr rfl) (de_callB cr_srt (OC.sorted _ true) (by rfl) fx.n_sorted bb_sorted (da_cons (de_op2 op_addA (O2.add _ false) (de_var 2) (de_lst false (da_cons (de_var 1) da_nil))) da_nil)))
    dss_nil) (dss_cons (ds_if (dt_cmp (op_inA C.room) (O2.isin _ false) (de_op2 op_sub (O2.sub _) (de_var 1) (de_ix (de_var 0) de_int)) (de_var 3) (by rfl)) (dss_cons (ds_expr (de_bm PySem.F.plainAttrs_list PySem.F.slot_list_remove PySem.F.type_list_remove mt_remove (OM.lst LM.remove _) (de_var 3) (da_cons (de_op2 op_sub (O2.sub _) (de_var 1) (de_ix (de_var 0) de_int)) da_nil)))
    dss_nil) (dss_cons (ds_set 3 C rfl (by first | exact .inl rfl | exact .inr rfl) (de_callB cr_srt (OC.sorted _ true) (by rfl) fx.n_sorted bb_sorted (da_cons (de_op2 op_addA (O2.add _ false) (de_var 3) (de_lst false (da_cons (de_op2 op_sub (O2.sub _) (de_var 1) (de_ix (de_var 0) de_int)) da_nil))) da_nil)))
    dss_nil))
    dss_nil))
    dss_nil))
    (dss_fz 2
    (dss_fz 3
    (dss_cons (ds_ret (de_tup (da_cons (de_var 2) (da_cons (de_ix (de_var 0) de_int) (da_cons (de_ix (de_var 0) de_int) (da_cons (de_var 3) da_nil))))))
    dss_nil))))))
theorem sc_Rounds___eq__ : FnScope ["self", "other"] ["self", "other"] (defScope s_Rounds___eq__) := ⟨rfl, rfl, rfl, by decide +kernel, rfl, by decide +kernel, by decide +kernel⟩
theorem ok_Rounds___eq__ (F : MethAt K ca.c_Rounds "__eq__" "Rounds.__eq__" ["self", "other"] s_Rounds___eq__) (fx : Fx K mg ca) :
    MethOk P w K mg base 1 ca.c_Rounds "__eq__" ["self", "other"] (f_Rounds___eq__ ca) :=
  meth_ok F sc_Rounds___eq__ fun f cdv A outer s H E C =>
    (dss_cons (ds_ret (de_and (de_isi (de_var 1) (cls_own (by rfl) fx.g_Rounds) (kit_cls fx.kc_Rounds) (by rfl) fx.n_isinstance) (de_and (de_cmp (op_eqD C.room.units) (O2.eq _) (de_fld fx.k_Rounds fx.na_Rounds_first (de_var 0)) (de_fld fx.k_Rounds fx.na_Rounds_first (de_var 1)) (by rfl)) (de_and (de_cmp (op_eqD C.room.units) (O2.eq _) (de_fld fx.k_Rounds fx.na_Rounds_start (de_var 0)) (de_fld fx.k_Rounds fx.na_Rounds_start (de_var 1)) (by rfl)) (de_and (de_cmp (op_eqD C.room.units) (O2.eq _) (de_fld fx.k_Rounds fx.na_Rounds_period (de_var 0)) (de_fld fx.k_Rounds fx.na_Rounds_period (de_var 1)) (by rfl)) (de_one (de_cmp (op_eqD C.room.units) (O2.eq _) (de_fld fx.k_Rounds fx.na_Rounds_late (de_var 0)) (de_fld fx.k_Rounds fx.na_Rounds_late (de_var 1)) (by rfl))))))))
    dss_nil)
theorem sc__are_unlike_below : FnScope ["values", "most", "value"] ["values", "most"] (defScope s__are_unlike_below) := ⟨rfl, rfl, rfl, by decide +kernel, rfl, by decide +kernel, by decide +kernel⟩
theorem ok__are_unlike_below (F : FunAt K mg "_are_unlike_below" ["values", "most"] s__are_unlike_below) (fx : Fx K mg ca) (d__is_number : DefOk P w K mg base 1 "_is_number" ["value"] (f__is_number ca)) :
    DefOk P w K mg base 2 "_are_unlike_below" ["values", "most"] (f__are_unlike_below ca) :=
  def_ok F sc__are_unlike_below fun f cdv A outer s H E C =>
    (dss_cons (ds_if (dt_not (dt_tru (de_isiT (de_var 0) (.cons (cls_ty (by rfl) fx.n_list bb_list) (.cons (cls_ty (by rfl) fx.n_tuple bb_tuple) .nil (by rfl)) (by rfl)) (by decide) kit_list_tuple (by rfl) fx.n_isinstance))) (dss_cons (ds_ret de_bl)
    dss_nil) dss_nil)
    (dss_cons (ds_if (dt_not (dt_tru (de_callB (cr_all C.calm) (OC.all _) (by rfl) fx.n_all bb_all (da_cons (de_lc (own := [("value", 2)]) false C (di_any (de_var 0)) (by show BlkOk ["values", "most", "value"] (defScope s__are_unlike_below) _ _; exact ⟨rfl, by decide +kernel, by decide +kernel, by decide +kernel, by decide +kernel⟩) (fun _ _ _ _ _ C => (dg_name 2 C.nd rfl (by first | exact .inl rfl | exact .inr rfl))) (fun _ _ _ _ _ C => dts_nil) (fun _ _ _ _ _ C => (de_and (de_call C d__is_number (by decide) (by rfl) (da_cons (de_var 2) da_nil)) (de_one (de_cmp op_lt (O2.cmpI _ _) (de_var 2) (de_var 1) (by rfl)))))) da_nil)))) (dss_cons (ds_ret de_bl)
    dss_nil) dss_nil)
    (dss_cons (ds_ret (de_cmp (op_eqD C.room.units) (O2.eq _) (de_lenSet C (by rfl) fx.n_len (by rfl) fx.n_set (de_var 0)) (de_callB cr_len (OC.len _) (by rfl) fx.n_len bb_len (da_cons (de_var 0) da_nil)) (by rfl)))
    dss_nil)))
theorem sc__law_box : FnScope ["script", "place", "cell", "most"] ["script", "place"] (defScope s__law_box) := ⟨rfl, rfl, rfl, by decide +kernel, rfl, by decide +kernel, by decide +kernel⟩
theorem ok__law_box (F : FunAt K mg "_law_box" ["script", "place"] s__law_box) (fx : Fx K mg ca) (d__law_seed : DefOk P w K mg base 1 "_law_seed" ["script", "place"] (f__law_seed ca)) :
    DefOk P w K mg base 2 "_law_box" ["script", "place"] (f__law_box ca) :=
  def_ok F sc__law_box fun f cdv A outer s H E C =>
    (dss_cons (ds_set 2 C rfl (by first | exact .inl rfl | exact .inr rfl) (de_call C d__law_seed (by decide) (by rfl) (da_cons (de_var 0) (da_cons (de_var 1) da_nil))))
    (dss_cons (ds_if (dt_cmp op_lt (O2.cmpI _ _) (de_var 2) (de_op2 op_pow (O2.pow _) de_int de_int) (by rfl)) (dss_cons (ds_ret (de_lst true (da_cons de_int (da_cons de_int (da_cons (de_op2 op_mod (O2.mod _) (de_callTy call_int1 (OC.int _) (by rfl) fx.n_int bb_int (da_cons (de_var 2) da_nil)) de_int) da_nil)))))
    dss_nil) dss_nil)
    (dss_cons (ds_set 3 C rfl (by first | exact .inl rfl | exact .inr rfl) (de_op2 op_mulA (O2.mul _) (de_op2 op_mulA (O2.mul _) (de_op2 op_mulA (O2.mul _) (de_op2 op_mulA (O2.mul _) (de_op2 op_pow (O2.pow _) de_int de_int) (de_op2 op_pow (O2.pow _) de_int de_int)) (de_op2 op_pow (O2.pow _) de_int de_int)) (de_op2 op_pow (O2.pow _) de_int de_int)) (de_op2 op_pow (O2.pow _) de_int de_int)))
    (dss_cons (ds_ret (de_lst true (da_cons (de_op2 op_mod (O2.mod _) (de_callTy call_int1 (OC.int _) (by rfl) fx.n_int bb_int (da_cons (de_var 2) da_nil)) (de_var 3)) (da_cons de_int (da_cons (de_op2 op_mod (O2.mod _) (de_callTy call_int1 (OC.int _) (by rfl) fx.n_int bb_int (da_cons (de_var 2) da_nil)) de_int) da_nil)))))
    dss_nil))))
theorem sc__law_least : FnScope ["form", "start", "marks", "number", "period", "part", "unlike", "at", "first", "late", "offset"] ["form"] (defScope s__law_least) := ⟨rfl, rfl, rfl, by decide +kernel, rfl, by decide +kernel, by decide +kernel⟩
theorem ok__law_least (F : FunAt K mg "_law_least" ["form"] s__law_least) (fx : Fx K mg ca) (d__law_has : DefOk P w K mg base 1 "_law_has" ["form", "number"] (f__law_has ca)) :
    DefOk P w K mg base 2 "_law_least" ["form"] (f__law_least ca) :=
  def_ok F sc__law_least fun f cdv A outer s H E C =>
    (dss_cons (ds_set 1 C rfl (by first | exact .inl rfl | exact .inr rfl) (de_ix (de_var 0) de_int))
    (dss_cons (ds_set 2 C rfl (by first | exact .inl rfl | exact .inr rfl) (de_lc (own := [("number", 3)]) false C (di_range1 (by rfl) fx.n_range (da_cons (de_op2 op_addA (O2.add _ false) (de_var 1) (de_op2 op_mulA (O2.mul _) de_int (de_ix (de_var 0) de_int))) da_nil)) (by show BlkOk ["form", "start", "marks", "number", "period", "part", "unlike", "at", "first", "late", "offset"] (defScope s__law_least) _ _; exact ⟨rfl, by decide +kernel, by decide +kernel, by decide +kernel, by decide +kernel⟩) (fun _ _ _ _ _ C => (dg_name 3 C.nd rfl (by first | exact .inl rfl | exact .inr rfl))) (fun _ _ _ _ _ C => dts_nil) (fun _ _ _ _ _ C => (de_call C d__law_has (by decide) (by rfl) (da_cons (de_var 0) (da_cons (de_var 3) da_nil))))))
    (dss_cons (ds_set 4 C rfl (by first | exact .inl rfl | exact .inr rfl) (de_ix (de_var 0) de_int))
    (dss_cons (ds_for C (di_rangeN (by rfl) fx.n_range (da_cons (de_ix (de_var 0) de_int) (da_cons de_int (da_cons (de_op1 un_neg (O1.neg _) de_int) da_nil)))) (dg_name 5 C.nd rfl (by first | exact .inl rfl | exact .inr rfl)) (dss_cons (ds_if (dt_cmp (op_eqD C.room.units) (O2.eq _) (de_op2 op_mod (O2.mod _) (de_callTy call_int1 (OC.int _) (by rfl) fx.n_int bb_int (da_cons (de_ix (de_var 0) de_int) da_nil)) (de_var 5)) de_int (by rfl)) (dss_cons (ds_setLc (own := [("at", 7)]) false 6 C rfl rfl (di_range2 (by rfl) fx.n_range (da_cons (de_var 1) (da_cons (de_op2 op_addA (O2.add _ false) (de_var 1) (de_ix (de_var 0) de_int)) da_nil))) (by show BlkOk ["form", "start", "marks", "number", "period", "part", "unlike", "at", "first", "late", "offset"] (defScope s__law_least) _ _; exact ⟨rfl, by decide +kernel, by decide +kernel, by decide +kernel, by decide +kernel⟩) (fun _ _ _ _ _ C => (dg_name 7 C.nd rfl (by first | exact .inl rfl | exact .inr rfl))) (fun _ _ _ _ _ C => (dts_one (dt_cmp (op_neD C.room.units) (O2.ne _) (de_ix (de_var 2) (de_var 7)) (de_ix (de_var 2) (de_op2 op_addA (O2.add _ false) (de_var 7) (de_var 5))) (by rfl)))) (fun _ _ _ _ _ C => (de_var 7)) (by rfl))
    (dss_cons (ds_if (dt_cmp (op_eqD C.room.units) (O2.eq _) (de_var 6) (de_lst false da_nil) (by rfl)) (dss_cons (ds_set 4 C rfl (by first | exact .inl rfl | exact .inr rfl) (de_var 5))
    dss_nil) dss_nil)
    dss_nil)) dss_nil)
    dss_nil))
    (dss_cons (ds_while FU C (dt_bool (dw_and (dt_cmp op_gt (O2.cmpI _ _) (de_var 1) de_int (by rfl)) (dw_and1 (dt_cmp (op_eqD C.room.units) (O2.eq _) (de_ix (de_var 2) (de_op2 op_sub (O2.sub _) (de_var 1) de_int)) (de_ix (de_var 2) (de_op2 op_addA (O2.add _ false) (de_op2 op_sub (O2.sub _) (de_var 1) de_int) (de_var 4))) (by rfl))))) (dss_cons (ds_set 1 C rfl (by first | exact .inl rfl | exact .inr rfl) (de_op2 op_sub (O2.sub _) (de_var 1) de_int))
    dss_nil))
    (dss_cons (ds_set 8 C rfl (by first | exact .inl rfl | exact .inr rfl) (de_callTy call_tuple_of (OC.tuple _) (by rfl) fx.n_tuple bb_tuple (da_cons (de_lc (own := [("number", 3)]) false C (di_range1 (by rfl) fx.n_range (da_cons (de_var 1) da_nil)) (by show BlkOk ["form", "start", "marks", "number", "period", "part", "unlike", "at", "first", "late", "offset"] (defScope s__law_least) _ _; exact ⟨rfl, by decide +kernel, by decide +kernel, by decide +kernel, by decide +kernel⟩) (fun _ _ _ _ _ C => (dg_name 3 C.nd rfl (by first | exact .inl rfl | exact .inr rfl))) (fun _ _ _ _ _ C => (dts_one (dt_tru (de_ix (de_var 2) (de_var 3))))) (fun _ _ _ _ _ C => (de_var 3))) da_nil)))
    (dss_cons (ds_set 9 C rfl (by first | exact .inl rfl | exact .inr rfl) (de_callTy call_tuple_of (OC.tuple _) (by rfl) fx.n_tuple bb_tuple (da_cons (de_lc (own := [("offset", 10)]) false C (di_range1 (by rfl) fx.n_range (da_cons (de_var 4) da_nil)) (by show BlkOk ["form", "start", "marks", "number", "period", "part", "unlike", "at", "first", "late", "offset"] (defScope s__law_least) _ _; exact ⟨rfl, by decide +kernel, by decide +kernel, by decide +kernel, by decide +kernel⟩) (fun _ _ _ _ _ C => (dg_name 10 C.nd rfl (by first | exact .inl rfl | exact .inr rfl))) (fun _ _ _ _ _ C => (dts_one (dt_tru (de_ix (de_var 2) (de_op2 op_addA (O2.add _ false) (de_var 1) (de_var 10)))))) (fun _ _ _ _ _ C => (de_var 10))) da_nil)))
    (dss_cons (ds_ret (de_tup (da_cons (de_var 8) (da_cons (de_var 1) (da_cons (de_var 4) (da_cons (de_var 9) da_nil))))))
    dss_nil))))))))
theorem sc__law_shows : FnScope ["made", "due", "told", "one"] ["made", "due"] (defScope s__law_shows) := ⟨rfl, rfl, rfl, by decide +kernel, rfl, by decide +kernel, by decide +kernel⟩
theorem ok__law_shows (F : FunAt K mg "_law_shows" ["made", "due"] s__law_shows) (fx : Fx K mg ca) (d__law_is_number : DefOk P w K mg base 1 "_law_is_number" ["value"] (f__law_is_number ca)) :
    DefOk P w K mg base 2 "_law_shows" ["made", "due"] (f__law_shows ca) :=
  def_ok F sc__law_shows fun f cdv A outer s H E C =>
    (dss_cons (ds_if (dt_not (dt_tru (de_isi (de_var 0) (cls_own (by rfl) fx.g_Rounds) (kit_cls fx.kc_Rounds) (by rfl) fx.n_isinstance))) (dss_cons (ds_ret de_bl)
    dss_nil) dss_nil)
    (dss_cons (ds_if (dt_bool (dw_or (dt_not (dt_tru (de_isi (de_fld fx.k_Rounds fx.na_Rounds_first (de_var 0)) (cls_ty (by rfl) fx.n_tuple bb_tuple) kit_tuple (by rfl) fx.n_isinstance))) (dw_or1 (dt_not (dt_tru (de_isi (de_fld fx.k_Rounds fx.na_Rounds_late (de_var 0)) (cls_ty (by rfl) fx.n_tuple bb_tuple) kit_tuple (by rfl) fx.n_isinstance)))))) (dss_cons (ds_ret de_bl)
    dss_nil) dss_nil)
    (dss_cons (ds_set 2 C rfl (by first | exact .inl rfl | exact .inr rfl) (de_op2 op_addA (O2.add _ false) (de_op2 op_addA (O2.add _ false) (de_callTy call_list_of (OC.list _ false) (by rfl) fx.n_list bb_list (da_cons (de_fld fx.k_Rounds fx.na_Rounds_first (de_var 0)) da_nil)) (de_callTy call_list_of (OC.list _ false) (by rfl) fx.n_list bb_list (da_cons (de_fld fx.k_Rounds fx.na_Rounds_late (de_var 0)) da_nil))) (de_lst false (da_cons (de_fld fx.k_Rounds fx.na_Rounds_start (de_var 0)) (da_cons (de_fld fx.k_Rounds fx.na_Rounds_period (de_var 0)) da_nil)))))
    (dss_cons (ds_if (dt_cmp (op_neD C.room.units) (O2.ne _) (de_lc (own := [("one", 3)]) false C (di_any (de_var 2)) (by show BlkOk ["made", "due", "told", "one"] (defScope s__law_shows) _ _; exact ⟨rfl, by decide +kernel, by decide +kernel, by decide +kernel, by decide +kernel⟩) (fun _ _ _ _ _ C => (dg_name 3 C.nd rfl (by first | exact .inl rfl | exact .inr rfl))) (fun _ _ _ _ _ C => (dts_one (dt_not (dt_tru (de_call C d__law_is_number (by decide) (by rfl) (da_cons (de_var 3) da_nil)))))) (fun _ _ _ _ _ C => (de_var 3))) (de_lst false da_nil) (by rfl)) (dss_cons (ds_ret de_bl)
    dss_nil) dss_nil)
    (dss_cons (ds_if (dt_bool (dw_or (dt_cmp (op_neD C.room.units) (O2.ne _) (de_fld fx.k_Rounds fx.na_Rounds_start (de_var 0)) (de_ix (de_var 1) de_int) (by rfl)) (dw_or1 (dt_cmp (op_neD C.room.units) (O2.ne _) (de_fld fx.k_Rounds fx.na_Rounds_period (de_var 0)) (de_ix (de_var 1) de_int) (by rfl))))) (dss_cons (ds_ret de_bl)
    dss_nil) dss_nil)
    (dss_cons (ds_ret (de_and (de_cmp (op_eqD C.room.units) (O2.eq _) (de_callTy call_list_of (OC.list _ false) (by rfl) fx.n_list bb_list (da_cons (de_fld fx.k_Rounds fx.na_Rounds_first (de_var 0)) da_nil)) (de_callTy call_list_of (OC.list _ false) (by rfl) fx.n_list bb_list (da_cons (de_ix (de_var 1) de_int) da_nil)) (by rfl)) (de_one (de_cmp (op_eqD C.room.units) (O2.eq _) (de_callTy call_list_of (OC.list _ false) (by rfl) fx.n_list bb_list (da_cons (de_fld fx.k_Rounds fx.na_Rounds_late (de_var 0)) da_nil)) (de_callTy call_list_of (OC.list _ false) (by rfl) fx.n_list bb_list (da_cons (de_ix (de_var 1) de_int) da_nil)) (by rfl)))))
    dss_nil))))))
theorem sc__law_form : FnScope ["box", "share", "period", "start", "parts", "part", "turn", "kind", "at", "wheel", "k", "settled", "odds", "early", "first", "late", "bent"] ["box", "share"] (defScope s__law_form) := ⟨rfl, rfl, rfl, by decide +kernel, rfl, by decide +kernel, by decide +kernel⟩
theorem ok__law_form (F : FunAt K mg "_law_form" ["box", "share"] s__law_form) (fx : Fx K mg ca) (d__law_take : DefOk P w K mg base 1 "_law_take" ["box", "many"] (f__law_take ca)) (d__law_toggle : DefOk P w K mg base 1 "_law_toggle" ["form", "at"] (f__law_toggle ca)) :
    DefOk P w K mg base 2 "_law_form" ["box", "share"] (f__law_form ca) :=
  def_ok F sc__law_form fun f cdv A outer s H E C =>
    (dss_cons (ds_set 2 C rfl (by first | exact .inl rfl | exact .inr rfl) (de_op2 op_addA (O2.add _ false) de_int (de_call C d__law_take (by decide) (by rfl) (da_cons (de_var 0) (da_cons de_int da_nil)))))
    (dss_cons (ds_set 3 C rfl (by first | exact .inl rfl | exact .inr rfl) (de_call C d__law_take (by decide) (by rfl) (da_cons (de_var 0) (da_cons de_int da_nil))))
    (dss_cons (ds_if (dt_cmp (op_eqD C.room.units) (O2.eq _) (de_call C d__law_take (by decide) (by rfl) (da_cons (de_var 0) (da_cons (de_var 1) da_nil))) de_int (by rfl)) (dss_cons (ds_set 2 C rfl (by first | exact .inl rfl | exact .inr rfl) (de_op2 op_addA (O2.add _ false) de_int (de_call C d__law_take (by decide) (by rfl) (da_cons (de_var 0) (da_cons de_int da_nil)))))
    (dss_cons (ds_set 3 C rfl (by first | exact .inl rfl | exact .inr rfl) (de_call C d__law_take (by decide) (by rfl) (da_cons (de_var 0) (da_cons de_int da_nil))))
    dss_nil)) dss_nil)
    (dss_cons (ds_setLc (own := [("part", 5)]) false 4 C rfl rfl (di_range2 (by rfl) fx.n_range (da_cons de_int (da_cons (de_op2 op_addA (O2.add _ false) (de_var 2) de_int) da_nil))) (by show BlkOk ["box", "share", "period", "start", "parts", "part", "turn", "kind", "at", "wheel", "k", "settled", "odds", "early", "first", "late", "bent"] (defScope s__law_form) _ _; exact ⟨rfl, by decide +kernel, by decide +kernel, by decide +kernel, by decide +kernel⟩) (fun _ _ _ _ _ C => (dg_name 5 C.nd rfl (by first | exact .inl rfl | exact .inr rfl))) (fun _ _ _ _ _ C => (dts_one (dt_cmp (op_eqD C.room.units) (O2.eq _) (de_op2 op_mod (O2.mod _) (de_callTy call_int1 (OC.int _) (by rfl) fx.n_int bb_int (da_cons (de_var 2) da_nil)) (de_var 5)) de_int (by rfl)))) (fun _ _ _ _ _ C => (de_var 5)) (by rfl))
    (dss_cons (ds_set 6 C rfl (by first | exact .inl rfl | exact .inr rfl) (de_ix (de_var 4) (de_call C d__law_take (by decide) (by rfl) (da_cons (de_var 0) (da_cons (de_callB cr_len (OC.len _) (by rfl) fx.n_len bb_len (da_cons (de_var 4) da_nil)) da_nil)))))
    (dss_cons (ds_if (dt_cmp (op_eqD C.room.units) (O2.eq _) (de_call C d__law_take (by decide) (by rfl) (da_cons (de_var 0) (da_cons de_int da_nil))) de_int (by rfl)) (dss_cons (ds_set 6 C rfl (by first | exact .inl rfl | exact .inr rfl) (de_var 2))
    dss_nil) dss_nil)
    (dss_cons (ds_set 7 C rfl (by first | exact .inl rfl | exact .inr rfl) (de_call C d__law_take (by decide) (by rfl) (da_cons (de_var 0) (da_cons de_int da_nil))))
    (dss_cons (ds_set 8 C rfl (by first | exact .inl rfl | exact .inr rfl) (de_call C d__law_take (by decide) (by rfl) (da_cons (de_var 0) (da_cons (de_var 6) da_nil))))
    (dss_cons (ds_set 9 C rfl (by first | exact .inl rfl | exact .inr rfl) (de_lc (own := [("k", 10)]) false C (di_range1 (by rfl) fx.n_range (da_cons (de_var 6) da_nil)) (by show BlkOk ["box", "share", "period", "start", "parts", "part", "turn", "kind", "at", "wheel", "k", "settled", "odds", "early", "first", "late", "bent"] (defScope s__law_form) _ _; exact ⟨rfl, by decide +kernel, by decide +kernel, by decide +kernel, by decide +kernel⟩) (fun _ _ _ _ _ C => (dg_name 10 C.nd rfl (by first | exact .inl rfl | exact .inr rfl))) (fun _ _ _ _ _ C => dts_nil) (fun _ _ _ _ _ C => (de_call C d__law_take (by decide) (by rfl) (da_cons (de_var 0) (da_cons de_int da_nil))))))
    (dss_cons (ds_if (dt_cmp op_lt (O2.cmpI _ _) (de_var 7) de_int (by rfl)) (dss_cons (ds_set 9 C rfl (by first | exact .inl rfl | exact .inr rfl) (de_lc (own := [("k", 10)]) false C (di_range1 (by rfl) fx.n_range (da_cons (de_var 6) da_nil)) (by show BlkOk ["box", "share", "period", "start", "parts", "part", "turn", "kind", "at", "wheel", "k", "settled", "odds", "early", "first", "late", "bent"] (defScope s__law_form) _ _; exact ⟨rfl, by decide +kernel, by decide +kernel, by decide +kernel, by decide +kernel⟩) (fun _ _ _ _ _ C => (dg_name 10 C.nd rfl (by first | exact .inl rfl | exact .inr rfl))) (fun _ _ _ _ _ C => dts_nil) (fun _ _ _ _ _ C => (de_var 7))))
    dss_nil) (dss_cons (ds_if (dt_cmp op_lt (O2.cmpI _ _) (de_var 7) de_int (by rfl)) (dss_cons (ds_set 9 C rfl (by first | exact .inl rfl | exact .inr rfl) (de_lc (own := [("k", 10)]) false C (di_range1 (by rfl) fx.n_range (da_cons (de_var 6) da_nil)) (by show BlkOk ["box", "share", "period", "start", "parts", "part", "turn", "kind", "at", "wheel", "k", "settled", "odds", "early", "first", "late", "bent"] (defScope s__law_form) _ _; exact ⟨rfl, by decide +kernel, by decide +kernel, by decide +kernel, by decide +kernel⟩) (fun _ _ _ _ _ C => (dg_name 10 C.nd rfl (by first | exact .inl rfl | exact .inr rfl))) (fun _ _ _ _ _ C => dts_nil) (fun _ _ _ _ _ C => (de_callTy call_int1 (OC.int _) (by rfl) fx.n_int bb_int (da_cons (de_cmp (op_eqD C.room.units) (O2.eq _) (de_var 10) (de_var 8) (by rfl)) da_nil)))))
    dss_nil) (dss_cons (ds_if (dt_cmp (op_eqD C.room.units) (O2.eq _) (de_var 7) de_int (by rfl)) (dss_cons (ds_set 9 C rfl (by first | exact .inl rfl | exact .inr rfl) (de_lc (own := [("k", 10)]) false C (di_range1 (by rfl) fx.n_range (da_cons (de_var 6) da_nil)) (by show BlkOk ["box", "share", "period", "start", "parts", "part", "turn", "kind", "at", "wheel", "k", "settled", "odds", "early", "first", "late", "bent"] (defScope s__law_form) _ _; exact ⟨rfl, by decide +kernel, by decide +kernel, by decide +kernel, by decide +kernel⟩) (fun _ _ _ _ _ C => (dg_name 10 C.nd rfl (by first | exact .inl rfl | exact .inr rfl))) (fun _ _ _ _ _ C => dts_nil) (fun _ _ _ _ _ C => (de_callTy call_int1 (OC.int _) (by rfl) fx.n_int bb_int (da_cons (de_cmp (op_neD C.room.units) (O2.ne _) (de_var 10) (de_var 8) (by rfl)) da_nil)))))
    dss_nil) dss_nil)
    dss_nil))
    dss_nil))
    (dss_cons (ds_set 11 C rfl (by first | exact .inl rfl | exact .inr rfl) (de_call C d__law_take (by decide) (by rfl) (da_cons (de_var 0) (da_cons (de_op2 op_addA (O2.add _ false) (de_var 3) de_int) da_nil))))
    (dss_cons (ds_set 12 C rfl (by first | exact .inl rfl | exact .inr rfl) (de_ix (de_lst false (da_cons de_int (da_cons de_int (da_cons de_int da_nil)))) (de_call C d__law_take (by decide) (by rfl) (da_cons (de_var 0) (da_cons de_int da_nil)))))
    (dss_cons (ds_set 13 C rfl (by first | exact .inl rfl | exact .inr rfl) (de_lc (own := [("k", 10)]) false C (di_range1 (by rfl) fx.n_range (da_cons (de_var 11) da_nil)) (by show BlkOk ["box", "share", "period", "start", "parts", "part", "turn", "kind", "at", "wheel", "k", "settled", "odds", "early", "first", "late", "bent"] (defScope s__law_form) _ _; exact ⟨rfl, by decide +kernel, by decide +kernel, by decide +kernel, by decide +kernel⟩) (fun _ _ _ _ _ C => (dg_name 10 C.nd rfl (by first | exact .inl rfl | exact .inr rfl))) (fun _ _ _ _ _ C => dts_nil) (fun _ _ _ _ _ C => (de_call C d__law_take (by decide) (by rfl) (da_cons (de_var 0) (da_cons (de_var 12) da_nil))))))
    (dss_cons (ds_setLc (own := [("k", 10)]) false 14 C rfl rfl (di_range1 (by rfl) fx.n_range (da_cons (de_var 11) da_nil)) (by show BlkOk ["box", "share", "period", "start", "parts", "part", "turn", "kind", "at", "wheel", "k", "settled", "odds", "early", "first", "late", "bent"] (defScope s__law_form) _ _; exact ⟨rfl, by decide +kernel, by decide +kernel, by decide +kernel, by decide +kernel⟩) (fun _ _ _ _ _ C => (dg_name 10 C.nd rfl (by first | exact .inl rfl | exact .inr rfl))) (fun _ _ _ _ _ C => (dts_one (dt_cmp (op_eqD C.room.units) (O2.eq _) (de_ix (de_var 13) (de_var 10)) de_int (by rfl)))) (fun _ _ _ _ _ C => (de_var 10)) (by rfl))
    (dss_cons (ds_set 14 C rfl (by first | exact .inl rfl | exact .inr rfl) (de_op2 op_addA (O2.add _ false) (de_var 14) (de_lc (own := [("k", 10)]) false C (di_range2 (by rfl) fx.n_range (da_cons (de_var 11) (da_cons (de_var 3) da_nil))) (by show BlkOk ["box", "share", "period", "start", "parts", "part", "turn", "kind", "at", "wheel", "k", "settled", "odds", "early", "first", "late", "bent"] (defScope s__law_form) _ _; exact ⟨rfl, by decide +kernel, by decide +kernel, by decide +kernel, by decide +kernel⟩) (fun _ _ _ _ _ C => (dg_name 10 C.nd rfl (by first | exact .inl rfl | exact .inr rfl))) (fun _ _ _ _ _ C => (dts_one (dt_cmp (op_eqD C.room.units) (O2.eq _) (de_ix (de_var 9) (de_op2 op_mod (O2.mod _) (de_callTy call_int1 (OC.int _) (by rfl) fx.n_int bb_int (da_cons (de_op2 op_sub (O2.sub _) (de_var 10) (de_var 3)) da_nil)) (de_var 6))) de_int (by rfl)))) (fun _ _ _ _ _ C => (de_var 10)))))
    (dss_cons (ds_setLc (own := [("k", 10)]) false 15 C rfl rfl (di_range1 (by rfl) fx.n_range (da_cons (de_var 2) da_nil)) (by show BlkOk ["box", "share", "period", "start", "parts", "part", "turn", "kind", "at", "wheel", "k", "settled", "odds", "early", "first", "late", "bent"] (defScope s__law_form) _ _; exact ⟨rfl, by decide +kernel, by decide +kernel, by decide +kernel, by decide +kernel⟩) (fun _ _ _ _ _ C => (dg_name 10 C.nd rfl (by first | exact .inl rfl | exact .inr rfl))) (fun _ _ _ _ _ C => (dts_one (dt_cmp (op_eqD C.room.units) (O2.eq _) (de_ix (de_var 9) (de_op2 op_mod (O2.mod _) (de_callTy call_int1 (OC.int _) (by rfl) fx.n_int bb_int (da_cons (de_var 10) da_nil)) (de_var 6))) de_int (by rfl)))) (fun _ _ _ _ _ C => (de_var 10)) (by rfl))
    (dss_cons (ds_set 16 C rfl (by first | exact .inl rfl | exact .inr rfl) (de_call C d__law_take (by decide) (by rfl) (da_cons (de_var 0) (da_cons de_int da_nil))))
    (dss_cons (ds_set 8 C rfl (by first | exact .inl rfl | exact .inr rfl) (de_call C d__law_take (by decide) (by rfl) (da_cons (de_var 0) (da_cons (de_op2 op_addA (O2.add _ false) (de_var 3) (de_var 2)) da_nil))))
    (dss_cons (ds_if (dt_cmp (op_eqD C.room.units) (O2.eq _) (de_var 16) de_int (by rfl)) (dss_cons (ds_ret (de_call C d__law_toggle (by decide) (by rfl) (da_cons (de_tup (da_cons (de_var 14) (da_cons (de_var 3) (da_cons (de_var 2) (da_cons (de_var 15) da_nil))))) (da_cons (de_var 8) da_nil))))
    dss_nil) dss_nil)
    (dss_cons (ds_ret (de_tup (da_cons (de_var 14) (da_cons (de_var 3) (da_cons (de_var 2) (da_cons (de_var 15) da_nil))))))
    dss_nil))))))))))))))))))))
theorem sc__law_order : FnScope ["box", "row", "cut", "back", "told", "one"] ["box", "row"] (defScope s__law_order) := ⟨rfl, rfl, rfl, by decide +kernel, rfl, by decide +kernel, by decide +kernel⟩
theorem ok__law_order (F : FunAt K mg "_law_order" ["box", "row"] s__law_order) (fx : Fx K mg ca) (d__law_take : DefOk P w K mg base 1 "_law_take" ["box", "many"] (f__law_take ca)) :
    DefOk P w K mg base 2 "_law_order" ["box", "row"] (f__law_order ca) :=
  def_ok F sc__law_order fun f cdv A outer s H E C =>
    (dss_cons (ds_if (dt_cmp op_gt (O2.cmpI _ _) (de_callB cr_len (OC.len _) (by rfl) fx.n_len bb_len (da_cons (de_var 1) da_nil)) de_int (by rfl)) (dss_cons (ds_set 2 C rfl (by first | exact .inl rfl | exact .inr rfl) (de_call C d__law_take (by decide) (by rfl) (da_cons (de_var 0) (da_cons (de_callB cr_len (OC.len _) (by rfl) fx.n_len bb_len (da_cons (de_var 1) da_nil)) da_nil))))
    (dss_cons (ds_set 3 C rfl (by first | exact .inl rfl | exact .inr rfl) (de_call C d__law_take (by decide) (by rfl) (da_cons (de_var 0) (da_cons de_int da_nil))))
    (dss_cons (ds_set 4 C rfl (by first | exact .inl rfl | exact .inr rfl) (de_op2 op_addA (O2.add _ false) (de_sl false (de_var 1) (dp_some (de_var 2)) dp_none) (de_sl false (de_var 1) dp_none (dp_some (de_var 2)))))
    (dss_cons (ds_if (dt_cmp (op_eqD C.room.units) (O2.eq _) (de_var 3) de_int (by rfl)) (dss_cons (ds_ret (de_rev false (de_var 4)))
    dss_nil) dss_nil)
    (dss_cons (ds_ret (de_var 4))
    dss_nil))))) dss_nil)
    (dss_cons (ds_set 4 C rfl (by first | exact .inl rfl | exact .inr rfl) (de_lst true da_nil))
    (dss_cons (ds_for C (di_any (de_var 1)) (dg_name 5 C.nd rfl (by first | exact .inl rfl | exact .inr rfl)) (dss_cons (ds_expr (de_bm PySem.F.plainAttrs_list PySem.F.slot_list_insert PySem.F.type_list_insert mt_insert (OM.lst LM.insert _) (de_var 4) (da_cons (de_call C d__law_take (by decide) (by rfl) (da_cons (de_var 0) (da_cons (de_op2 op_addA (O2.add _ false) (de_callB cr_len (OC.len _) (by rfl) fx.n_len bb_len (da_cons (de_var 4) da_nil)) de_int) da_nil))) (da_cons (de_var 5) da_nil))))
    dss_nil))
    (dss_fz 4
    (dss_cons (ds_ret (de_var 4))
    dss_nil)))))
theorem sc__law_odd : FnScope ["box"] ["box"] (defScope s__law_odd) := ⟨rfl, rfl, rfl, by decide +kernel, rfl, by decide +kernel, by decide +kernel⟩
theorem ok__law_odd (F : FunAt K mg "_law_odd" ["box"] s__law_odd) (fx : Fx K mg ca) (d__law_take : DefOk P w K mg base 1 "_law_take" ["box", "many"] (f__law_take ca)) :
    DefOk P w K mg base 2 "_law_odd" ["box"] (f__law_odd ca) :=
  def_ok F sc__law_odd fun f cdv A outer s H E C =>
    (dss_cons (ds_ret (de_ix (de_lst false (da_cons de_bl (da_cons de_bl (da_cons de_non (da_cons de_str (da_cons (de_op1 un_neg (O1.neg _) de_int) (da_cons (de_tup (da_cons de_int da_nil)) (da_cons (de_lst false (da_cons de_int da_nil)) da_nil)))))))) (de_call C d__law_take (by decide) (by rfl) (da_cons (de_var 0) (da_cons de_int da_nil)))))
    dss_nil)
theorem sc__law_near : FnScope ["box", "form", "way", "at"] ["box", "form"] (defScope s__law_near) := ⟨rfl, rfl, rfl, by decide +kernel, rfl, by decide +kernel, by decide +kernel⟩
theorem ok__law_near (F : FunAt K mg "_law_near" ["box", "form"] s__law_near) (fx : Fx K mg ca) (d__law_take : DefOk P w K mg base 1 "_law_take" ["box", "many"] (f__law_take ca)) (d__law_toggle : DefOk P w K mg base 1 "_law_toggle" ["form", "at"] (f__law_toggle ca)) :
    DefOk P w K mg base 2 "_law_near" ["box", "form"] (f__law_near ca) :=
  def_ok F sc__law_near fun f cdv A outer s H E C =>
    (dss_cons (ds_set 2 C rfl (by first | exact .inl rfl | exact .inr rfl) (de_call C d__law_take (by decide) (by rfl) (da_cons (de_var 0) (da_cons de_int da_nil))))
    (dss_cons (ds_set 3 C rfl (by first | exact .inl rfl | exact .inr rfl) (de_call C d__law_take (by decide) (by rfl) (da_cons (de_var 0) (da_cons (de_op2 op_addA (O2.add _ false) (de_ix (de_var 1) de_int) (de_ix (de_var 1) de_int)) da_nil))))
    (dss_cons (ds_if (dt_cmp (op_eqD C.room.units) (O2.eq _) (de_var 2) de_int (by rfl)) (dss_cons (ds_set 3 C rfl (by first | exact .inl rfl | exact .inr rfl) (de_callB (call_max2 C.calm) (OC.f2 _ _) (by rfl) fx.n_max bb_max (da_cons de_int (da_cons (de_op2 op_sub (O2.sub _) (de_ix (de_var 1) de_int) de_int) da_nil))))
    dss_nil) dss_nil)
    (dss_cons (ds_if (dt_cmp (op_eqD C.room.units) (O2.eq _) (de_var 2) de_int (by rfl)) (dss_cons (ds_set 3 C rfl (by first | exact .inl rfl | exact .inr rfl) (de_op2 op_sub (O2.sub _) (de_op2 op_addA (O2.add _ false) (de_ix (de_var 1) de_int) (de_ix (de_var 1) de_int)) de_int))
    dss_nil) dss_nil)
    (dss_cons (ds_ret (de_call C d__law_toggle (by decide) (by rfl) (da_cons (de_var 1) (da_cons (de_var 3) da_nil))))
    dss_nil)))))
theorem sc__law_variant : FnScope ["box", "due", "way", "one"] ["box", "due"] (defScope s__law_variant) := ⟨rfl, rfl, rfl, by decide +kernel, rfl, by decide +kernel, by decide +kernel⟩
theorem ok__law_variant (F : FunAt K mg "_law_variant" ["box", "due"] s__law_variant) (fx : Fx K mg ca) (d__law_take : DefOk P w K mg base 1 "_law_take" ["box", "many"] (f__law_take ca)) :
    DefOk P w K mg base 2 "_law_variant" ["box", "due"] (f__law_variant ca) :=
  def_ok F sc__law_variant fun f cdv A outer s H E C =>
    (dss_cons (ds_set 2 C rfl (by first | exact .inl rfl | exact .inr rfl) (de_call C d__law_take (by decide) (by rfl) (da_cons (de_var 0) (da_cons de_int da_nil))))
    (dss_cons (ds_if (dt_bool (dw_and (dt_cmp (op_eqD C.room.units) (O2.eq _) (de_var 2) de_int (by rfl)) (dw_and1 (dt_cmp op_lt (O2.cmpI _ _) (de_ix (de_var 1) de_int) de_int (by rfl))))) (dss_cons (ds_ret (de_tup (da_cons (de_ix (de_var 1) de_int) (da_cons (de_op2 op_addA (O2.add _ false) (de_ix (de_var 1) de_int) de_int) (da_cons (de_ix (de_var 1) de_int) (da_cons (de_ix (de_var 1) de_int) da_nil))))))
    dss_nil) dss_nil)
    (dss_cons (ds_if (dt_bool (dw_and (dt_cmp (op_eqD C.room.units) (O2.eq _) (de_var 2) de_int (by rfl)) (dw_and1 (dt_cmp op_lt (O2.cmpI _ _) (de_ix (de_var 1) de_int) de_int (by rfl))))) (dss_cons (ds_ret (de_tup (da_cons (de_ix (de_var 1) de_int) (da_cons (de_ix (de_var 1) de_int) (da_cons (de_op2 op_addA (O2.add _ false) (de_ix (de_var 1) de_int) de_int) (da_cons (de_ix (de_var 1) de_int) da_nil))))))
    dss_nil) dss_nil)
    (dss_cons (ds_if (dt_cmp (op_eqD C.room.units) (O2.eq _) (de_var 2) de_int (by rfl)) (dss_cons (ds_ret (de_tup (da_cons (de_ix (de_var 1) de_int) (da_cons (de_ix (de_var 1) de_int) (da_cons (de_ix (de_var 1) de_int) (da_cons (de_lc (own := [("one", 3)]) false C (di_any (de_ix (de_var 1) de_int)) (by show BlkOk ["box", "due", "way", "one"] (defScope s__law_variant) _ _; exact ⟨rfl, by decide +kernel, by decide +kernel, by decide +kernel, by decide +kernel⟩) (fun _ _ _ _ _ C => (dg_name 3 C.nd rfl (by first | exact .inl rfl | exact .inr rfl))) (fun _ _ _ _ _ C => dts_nil) (fun _ _ _ _ _ C => (de_op2 op_mod (O2.mod _) (de_callTy call_int1 (OC.int _) (by rfl) fx.n_int bb_int (da_cons (de_op2 op_addA (O2.add _ false) (de_var 3) de_int) da_nil)) (de_ix (de_var 1) de_int)))) da_nil))))))
    dss_nil) dss_nil)
    (dss_cons (ds_ret (de_tup (da_cons (de_sl false (de_ix (de_var 1) de_int) (dp_some de_int) dp_none) (da_cons (de_ix (de_var 1) de_int) (da_cons (de_ix (de_var 1) de_int) (da_cons (de_ix (de_var 1) de_int) da_nil))))))
    dss_nil)))))
theorem sc__law_unfolded : FnScope ["box", "form", "more", "times", "start", "first", "number", "late", "offset"] ["box", "form"] (defScope s__law_unfolded) := ⟨rfl, rfl, rfl, by decide +kernel, rfl, by decide +kernel, by decide +kernel⟩
theorem ok__law_unfolded (F : FunAt K mg "_law_unfolded" ["box", "form"] s__law_unfolded) (fx : Fx K mg ca) (d__law_take : DefOk P w K mg base 1 "_law_take" ["box", "many"] (f__law_take ca)) (d__law_has : DefOk P w K mg base 1 "_law_has" ["form", "number"] (f__law_has ca)) (d__law_order : DefOk P w K mg base 2 "_law_order" ["box", "row"] (f__law_order ca)) :
    DefOk P w K mg base 3 "_law_unfolded" ["box", "form"] (f__law_unfolded ca) :=
  def_ok F sc__law_unfolded fun f cdv A outer s H E C =>
    (dss_cons (ds_set 2 C rfl (by first | exact .inl rfl | exact .inr rfl) (de_call C d__law_take (by decide) (by rfl) (da_cons (de_var 0) (da_cons (de_callB (call_min2 C.calm) (OC.f2 _ _) (by rfl) fx.n_min bb_min (da_cons de_int (da_cons (de_op2 op_sub (O2.sub _) de_int (de_ix (de_var 1) de_int)) da_nil))) da_nil))))
    (dss_cons (ds_if (dt_cmp (op_eqD C.room.units) (O2.eq _) (de_call C d__law_take (by decide) (by rfl) (da_cons (de_var 0) (da_cons de_int da_nil))) de_int (by rfl)) (dss_cons (ds_set 2 C rfl (by first | exact .inl rfl | exact .inr rfl) (de_call C d__law_take (by decide) (by rfl) (da_cons (de_var 0) (da_cons (de_op2 op_sub (O2.sub _) de_int (de_ix (de_var 1) de_int)) da_nil))))
    dss_nil) dss_nil)
    (dss_cons (ds_set 3 C rfl (by first | exact .inl rfl | exact .inr rfl) (de_op2 op_addA (O2.add _ false) de_int (de_call C d__law_take (by decide) (by rfl) (da_cons (de_var 0) (da_cons (de_op2 op_fdivW (O2.fdiv _) de_int (de_ix (de_var 1) de_int)) da_nil)))))
    (dss_cons (ds_set 4 C rfl (by first | exact .inl rfl | exact .inr rfl) (de_op2 op_addA (O2.add _ false) (de_ix (de_var 1) de_int) (de_var 2)))
    (dss_cons (ds_setLc (own := [("number", 6)]) false 5 C rfl rfl (di_range1 (by rfl) fx.n_range (da_cons (de_var 4) da_nil)) (by show BlkOk ["box", "form", "more", "times", "start", "first", "number", "late", "offset"] (defScope s__law_unfolded) _ _; exact ⟨rfl, by decide +kernel, by decide +kernel, by decide +kernel, by decide +kernel⟩) (fun _ _ _ _ _ C => (dg_name 6 C.nd rfl (by first | exact .inl rfl | exact .inr rfl))) (fun _ _ _ _ _ C => (dts_one (dt_tru (de_call C d__law_has (by decide) (by rfl) (da_cons (de_var 1) (da_cons (de_var 6) da_nil)))))) (fun _ _ _ _ _ C => (de_var 6)) (by rfl))
    (dss_cons (ds_setLc (own := [("offset", 8)]) false 7 C rfl rfl (di_range1 (by rfl) fx.n_range (da_cons (de_op2 op_mulA (O2.mul _) (de_ix (de_var 1) de_int) (de_var 3)) da_nil)) (by show BlkOk ["box", "form", "more", "times", "start", "first", "number", "late", "offset"] (defScope s__law_unfolded) _ _; exact ⟨rfl, by decide +kernel, by decide +kernel, by decide +kernel, by decide +kernel⟩) (fun _ _ _ _ _ C => (dg_name 8 C.nd rfl (by first | exact .inl rfl | exact .inr rfl))) (fun _ _ _ _ _ C => (dts_one (dt_tru (de_call C d__law_has (by decide) (by rfl) (da_cons (de_var 1) (da_cons (de_op2 op_addA (O2.add _ false) (de_var 4) (de_var 8)) da_nil)))))) (fun _ _ _ _ _ C => (de_var 8)) (by rfl))
    (dss_cons (ds_ret (de_tup (da_cons (de_call C d__law_order (by decide) (by rfl) (da_cons (de_var 0) (da_cons (de_var 5) da_nil))) (da_cons (de_var 4) (da_cons (de_op2 op_mulA (O2.mul _) (de_ix (de_var 1) de_int) (de_var 3)) (da_cons (de_call C d__law_order (by decide) (by rfl) (da_cons (de_var 0) (da_cons (de_var 7) da_nil))) da_nil))))))
    dss_nil)))))))
theorem sc__law_bent_row : FnScope ["box", "row", "bound", "way", "at", "more", "odd", "bent"] ["box", "row", "bound"] (defScope s__law_bent_row) := ⟨rfl, rfl, rfl, by decide +kernel, rfl, by decide +kernel, by decide +kernel⟩
theorem ok__law_bent_row (F : FunAt K mg "_law_bent_row" ["box", "row", "bound"] s__law_bent_row) (fx : Fx K mg ca) (d__law_take : DefOk P w K mg base 1 "_law_take" ["box", "many"] (f__law_take ca)) (d__law_odd : DefOk P w K mg base 2 "_law_odd" ["box"] (f__law_odd ca)) :
    DefOk P w K mg base 3 "_law_bent_row" ["box", "row", "bound"] (f__law_bent_row ca) :=
  def_ok F sc__law_bent_row fun f cdv A outer s H E C =>
    (dss_cons (ds_set 3 C rfl (by first | exact .inl rfl | exact .inr rfl) (de_call C d__law_take (by decide) (by rfl) (da_cons (de_var 0) (da_cons de_int da_nil))))
    (dss_cons (ds_set 4 C rfl (by first | exact .inl rfl | exact .inr rfl) (de_call C d__law_take (by decide) (by rfl) (da_cons (de_var 0) (da_cons (de_op2 op_addA (O2.add _ false) (de_callB cr_len (OC.len _) (by rfl) fx.n_len bb_len (da_cons (de_var 1) da_nil)) de_int) da_nil))))
    (dss_cons (ds_set 5 C rfl (by first | exact .inl rfl | exact .inr rfl) (de_call C d__law_take (by decide) (by rfl) (da_cons (de_var 0) (da_cons de_int da_nil))))
    (dss_cons (ds_set 6 C rfl (by first | exact .inl rfl | exact .inr rfl) (de_call C d__law_odd (by decide) (by rfl) (da_cons (de_var 0) da_nil)))
    (dss_cons (ds_set 7 C rfl (by first | exact .inl rfl | exact .inr rfl) (de_callTy call_list_of (OC.list _ true) (by rfl) fx.n_list bb_list (da_cons (de_var 1) da_nil)))
    (dss_cons (ds_if (dt_cmp (op_eqD C.room.units) (O2.eq _) (de_var 3) de_int (by rfl)) (dss_cons (ds_expr (de_bm PySem.F.plainAttrs_list PySem.F.slot_list_insert PySem.F.type_list_insert mt_insert (OM.lst LM.insert _) (de_var 7) (da_cons (de_var 4) (da_cons (de_op2 op_addA (O2.add _ false) (de_var 2) (de_var 5)) da_nil))))
    dss_nil) (dss_cons (ds_if (dt_cmp (op_eqD C.room.units) (O2.eq _) (de_var 3) de_int (by rfl)) (dss_cons (ds_expr (de_bm PySem.F.plainAttrs_list PySem.F.slot_list_insert PySem.F.type_list_insert mt_insert (OM.lst LM.insert _) (de_var 7) (da_cons (de_var 4) (da_cons (de_op2 op_sub (O2.sub _) (de_op1 un_neg (O1.neg _) de_int) (de_var 5)) da_nil))))
    dss_nil) (dss_cons (ds_if (dt_cmp (op_eqD C.room.units) (O2.eq _) (de_var 3) de_int (by rfl)) (dss_cons (ds_ret (de_ix (de_lst false (da_cons de_non (da_cons de_int (da_cons de_str (da_cons de_str (da_cons (de_dnew false) (da_cons de_bl da_nil))))))) (de_call C d__law_take (by decide) (by rfl) (da_cons (de_var 0) (da_cons de_int da_nil)))))
    dss_nil) (dss_cons (ds_if (dt_bool (dw_and (dt_cmp op_lt (O2.cmpI _ _) (de_var 3) de_int (by rfl)) (dw_and1 (dt_cmp (op_neD C.room.units) (O2.ne _) (de_var 1) (de_lst false da_nil) (by rfl))))) (dss_cons (ds_expr (de_bm PySem.F.plainAttrs_list PySem.F.slot_list_insert PySem.F.type_list_insert mt_insert (OM.lst LM.insert _) (de_var 7) (da_cons (de_var 4) (da_cons (de_ix (de_var 1) (de_op2 op_mod (O2.mod _) (de_callTy call_int1 (OC.int _) (by rfl) fx.n_int bb_int (da_cons (de_op2 op_addA (O2.add _ false) (de_var 4) (de_var 5)) da_nil)) (de_callB cr_len (OC.len _) (by rfl) fx.n_len bb_len (da_cons (de_var 1) da_nil)))) da_nil))))
    dss_nil) (dss_cons (ds_if (dt_bool (dw_and (dt_cmp (op_eqD C.room.units) (O2.eq _) (de_var 3) de_int (by rfl)) (dw_and1 (dt_cmp (op_neD C.room.units) (O2.ne _) (de_var 1) (de_lst false da_nil) (by rfl))))) (dss_cons (ds_sub (de_var 6) (de_var 7) (de_op2 op_mod (O2.mod _) (de_callTy call_int1 (OC.int _) (by rfl) fx.n_int bb_int (da_cons (de_var 4) da_nil)) (de_callB cr_len (OC.len _) (by rfl) fx.n_len bb_len (da_cons (de_var 1) da_nil))) set_list (OS.list _))
    dss_nil) (dss_cons (ds_expr (de_bm PySem.F.plainAttrs_list PySem.F.slot_list_insert PySem.F.type_list_insert mt_insert (OM.lst LM.insert _) (de_var 7) (da_cons (de_var 4) (da_cons (de_var 6) da_nil))))
    dss_nil))
    dss_nil))
    dss_nil))
    dss_nil))
    dss_nil))
    (dss_fz 7
    (dss_cons (ds_if (dt_cmp (op_eqD C.room.units) (O2.eq _) (de_var 5) de_int (by rfl)) (dss_cons (ds_ret (de_callTy call_tuple_of (OC.tuple _) (by rfl) fx.n_tuple bb_tuple (da_cons (de_var 7) da_nil)))
    dss_nil) dss_nil)
    (dss_cons (ds_ret (de_var 7))
    dss_nil)))))))))
theorem sc_Rounds___init__ : FnScope ["self", "first", "start", "period", "late", "step", "offsets", "offset", "begin", "number"] ["self", "first", "start", "period", "late"] (defScope s_Rounds___init__) := ⟨rfl, rfl, rfl, by decide +kernel, rfl, by decide +kernel, by decide +kernel⟩
theorem ok_Rounds___init__ (F : MakeAt K mg "Rounds" ca.c_Rounds "Rounds.__init__" ["self", "first", "start", "period", "late"] s_Rounds___init__) (fx : Fx K mg ca) (d__is_number : DefOk P w K mg base 1 "_is_number" ["value"] (f__is_number ca)) (d__are_unlike_below : DefOk P w K mg base 2 "_are_unlike_below" ["values", "most"] (f__are_unlike_below ca)) (d__least_period : DefOk P w K mg base 1 "_least_period" ["late", "period"] (f__least_period ca)) (d__least_start : DefOk P w K mg base 1 "_least_start" ["first", "start", "step", "offsets"] (f__least_start ca)) :
    MakeOk P w K mg base 3 "Rounds" ca.c_Rounds ["self", "first", "start", "period", "late"] (f_Rounds___init__ ca) :=
  make_ok F sc_Rounds___init__ fun f cdv A outer s H E C =>
    (dss_cons (ds_if (dt_bool (dw_or (dt_not (dt_tru (de_call C d__is_number (by decide) (by rfl) (da_cons (de_var 2) da_nil)))) (dw_or (dt_not (dt_tru (de_call C d__is_number (by decide) (by rfl) (da_cons (de_var 3) da_nil)))) (dw_or1 (dt_cmp (op_eqD C.room.units) (O2.eq _) (de_var 3) de_int (by rfl)))))) (dss_cons (ds_raise C (dmk_text fx.t_InvalidRounds (by rfl)))
    dss_nil) dss_nil)
    (dss_cons (ds_if (dt_bool (dw_or (dt_not (dt_tru (de_call C d__are_unlike_below (by decide) (by rfl) (da_cons (de_var 1) (da_cons (de_var 2) da_nil))))) (dw_or1 (dt_not (dt_tru (de_call C d__are_unlike_below (by decide) (by rfl) (da_cons (de_var 4) (da_cons (de_var 3) da_nil)))))))) (dss_cons (ds_raise C (dmk_text fx.t_InvalidRounds (by rfl)))
    dss_nil) dss_nil)
    (dss_cons (ds_set 5 C rfl (by first | exact .inl rfl | exact .inr rfl) (de_call C d__least_period (by decide) (by rfl) (da_cons (de_var 4) (da_cons (de_var 3) da_nil))))
    (dss_cons (ds_set 6 C rfl (by first | exact .inl rfl | exact .inr rfl) (de_sortS (own := [("offset", 7)]) false C (di_any (de_var 4)) (by show BlkOk ["self", "first", "start", "period", "late", "step", "offsets", "offset", "begin", "number"] (defScope s_Rounds___init__) _ _; exact ⟨rfl, by decide +kernel, by decide +kernel, by decide +kernel, by decide +kernel⟩) (fun _ _ _ _ _ C => (dg_name 7 C.nd rfl (by first | exact .inl rfl | exact .inr rfl))) (fun _ _ _ _ _ C => dts_nil) (fun _ _ _ _ _ C => (de_op2 op_mod (O2.mod _) (de_var 7) (de_var 5))) (by rfl) fx.n_sorted))
    (dss_cons (ds_set 8 C rfl (by first | exact .inl rfl | exact .inr rfl) (de_call C d__least_start (by decide) (by rfl) (da_cons (de_var 1) (da_cons (de_var 2) (da_cons (de_var 5) (da_cons (de_var 6) da_nil))))))
    (dss_cons (ds_fld fx.k_Rounds fx.na_Rounds_first (de_callTy call_tuple_of (OC.tuple _) (by rfl) fx.n_tuple bb_tuple (da_cons (de_callB cr_srt (OC.sorted _ false) (by rfl) fx.n_sorted bb_sorted (da_cons (de_lc (own := [("number", 9)]) false C (di_any (de_var 1)) (by show BlkOk ["self", "first", "start", "period", "late", "step", "offsets", "offset", "begin", "number"] (defScope s_Rounds___init__) _ _; exact ⟨rfl, by decide +kernel, by decide +kernel, by decide +kernel, by decide +kernel⟩) (fun _ _ _ _ _ C => (dg_name 9 C.nd rfl (by first | exact .inl rfl | exact .inr rfl))) (fun _ _ _ _ _ C => (dts_one (dt_cmp op_lt (O2.cmpI _ _) (de_var 9) (de_var 8) (by rfl)))) (fun _ _ _ _ _ C => (de_var 9))) da_nil)) da_nil)) (de_var 0))
    (dss_cons (ds_fld fx.k_Rounds fx.na_Rounds_start (de_var 8) (de_var 0))
    (dss_cons (ds_fld fx.k_Rounds fx.na_Rounds_period (de_var 5) (de_var 0))
    (dss_cons (ds_fld fx.k_Rounds fx.na_Rounds_late (de_callTy call_tuple_of (OC.tuple _) (by rfl) fx.n_tuple bb_tuple (da_cons (de_callB cr_srt (OC.sorted _ false) (by rfl) fx.n_sorted bb_sorted (da_cons (de_lc (own := [("offset", 7)]) false C (di_any (de_var 6)) (by show BlkOk ["self", "first", "start", "period", "late", "step", "offsets", "offset", "begin", "number"] (defScope s_Rounds___init__) _ _; exact ⟨rfl, by decide +kernel, by decide +kernel, by decide +kernel, by decide +kernel⟩) (fun _ _ _ _ _ C => (dg_name 7 C.nd rfl (by first | exact .inl rfl | exact .inr rfl))) (fun _ _ _ _ _ C => dts_nil) (fun _ _ _ _ _ C => (de_op2 op_mod (O2.mod _) (de_op2 op_sub (O2.sub _) (de_op2 op_addA (O2.add _ false) (de_var 2) (de_var 7)) (de_var 8)) (de_var 5)))) da_nil)) da_nil)) (de_var 0))
    dss_nil)))))))))
theorem sc__law_bent : FnScope ["box", "form", "first", "late", "way"] ["box", "form"] (defScope s__law_bent) := ⟨rfl, rfl, rfl, by decide +kernel, rfl, by decide +kernel, by decide +kernel⟩
theorem ok__law_bent (F : FunAt K mg "_law_bent" ["box", "form"] s__law_bent) (fx : Fx K mg ca) (d__law_take : DefOk P w K mg base 1 "_law_take" ["box", "many"] (f__law_take ca)) (d__law_bent_row : DefOk P w K mg base 3 "_law_bent_row" ["box", "row", "bound"] (f__law_bent_row ca)) (d__law_odd : DefOk P w K mg base 2 "_law_odd" ["box"] (f__law_odd ca)) :
    DefOk P w K mg base 4 "_law_bent" ["box", "form"] (f__law_bent ca) :=
  def_ok F sc__law_bent fun f cdv A outer s H E C =>
    (dss_cons (ds_set 2 C rfl (by first | exact .inl rfl | exact .inr rfl) (de_callTy call_list_of (OC.list _ false) (by rfl) fx.n_list bb_list (da_cons (de_ix (de_var 1) de_int) da_nil)))
    (dss_cons (ds_set 3 C rfl (by first | exact .inl rfl | exact .inr rfl) (de_callTy call_list_of (OC.list _ false) (by rfl) fx.n_list bb_list (da_cons (de_ix (de_var 1) de_int) da_nil)))
    (dss_cons (ds_set 4 C rfl (by first | exact .inl rfl | exact .inr rfl) (de_call C d__law_take (by decide) (by rfl) (da_cons (de_var 0) (da_cons de_int da_nil))))
    (dss_cons (ds_if (dt_cmp op_lt (O2.cmpI _ _) (de_var 4) de_int (by rfl)) (dss_cons (ds_ret (de_tup (da_cons (de_call C d__law_bent_row (by decide) (by rfl) (da_cons (de_var 0) (da_cons (de_var 2) (da_cons (de_ix (de_var 1) de_int) da_nil)))) (da_cons (de_ix (de_var 1) de_int) (da_cons (de_ix (de_var 1) de_int) (da_cons (de_var 3) da_nil))))))
    dss_nil) dss_nil)
    (dss_cons (ds_if (dt_cmp op_lt (O2.cmpI _ _) (de_var 4) de_int (by rfl)) (dss_cons (ds_ret (de_tup (da_cons (de_var 2) (da_cons (de_ix (de_var 1) de_int) (da_cons (de_ix (de_var 1) de_int) (da_cons (de_call C d__law_bent_row (by decide) (by rfl) (da_cons (de_var 0) (da_cons (de_var 3) (da_cons (de_ix (de_var 1) de_int) da_nil)))) da_nil))))))
    dss_nil) dss_nil)
    (dss_cons (ds_if (dt_cmp (op_eqD C.room.units) (O2.eq _) (de_var 4) de_int (by rfl)) (dss_cons (ds_ret (de_tup (da_cons (de_var 2) (da_cons (de_call C d__law_odd (by decide) (by rfl) (da_cons (de_var 0) da_nil)) (da_cons (de_ix (de_var 1) de_int) (da_cons (de_var 3) da_nil))))))
    dss_nil) dss_nil)
    (dss_cons (ds_if (dt_cmp (op_eqD C.room.units) (O2.eq _) (de_var 4) de_int (by rfl)) (dss_cons (ds_ret (de_tup (da_cons (de_var 2) (da_cons (de_ix (de_var 1) de_int) (da_cons (de_call C d__law_odd (by decide) (by rfl) (da_cons (de_var 0) da_nil)) (da_cons (de_var 3) da_nil))))))
    dss_nil) dss_nil)
    (dss_cons (ds_if (dt_bool (dw_and (dt_cmp (op_eqD C.room.units) (O2.eq _) (de_var 4) de_int (by rfl)) (dw_and1 (dt_cmp (op_neD C.room.units) (O2.ne _) (de_var 2) (de_lst false da_nil) (by rfl))))) (dss_cons (ds_ret (de_tup (da_cons (de_var 2) (da_cons (de_call C d__law_take (by decide) (by rfl) (da_cons (de_var 0) (da_cons (de_op2 op_addA (O2.add _ false) (de_callB (cr_max C.calm) (OC.maxL _) (by rfl) fx.n_max bb_max (da_cons (de_var 2) da_nil)) de_int) da_nil))) (da_cons (de_ix (de_var 1) de_int) (da_cons (de_var 3) da_nil))))))
    dss_nil) dss_nil)
    (dss_cons (ds_if (dt_bool (dw_and (dt_cmp (op_eqD C.room.units) (O2.eq _) (de_var 4) de_int (by rfl)) (dw_and (dt_cmp (op_neD C.room.units) (O2.ne _) (de_var 3) (de_lst false da_nil) (by rfl)) (dw_and1 (dt_cmp op_gt (O2.cmpI _ _) (de_callB (cr_max C.calm) (OC.maxL _) (by rfl) fx.n_max bb_max (da_cons (de_var 3) da_nil)) de_int (by rfl)))))) (dss_cons (ds_ret (de_tup (da_cons (de_var 2) (da_cons (de_ix (de_var 1) de_int) (da_cons (de_op2 op_addA (O2.add _ false) de_int (de_call C d__law_take (by decide) (by rfl) (da_cons (de_var 0) (da_cons (de_callB (cr_max C.calm) (OC.maxL _) (by rfl) fx.n_max bb_max (da_cons (de_var 3) da_nil)) da_nil)))) (da_cons (de_var 3) da_nil))))))
    dss_nil) dss_nil)
    (dss_cons (ds_if (dt_cmp (op_eqD C.room.units) (O2.eq _) (de_var 4) de_int (by rfl)) (dss_cons (ds_ret (de_tup (da_cons (de_var 2) (da_cons (de_op2 op_sub (O2.sub _) (de_op1 un_neg (O1.neg _) de_int) (de_call C d__law_take (by decide) (by rfl) (da_cons (de_var 0) (da_cons de_int da_nil)))) (da_cons (de_ix (de_var 1) de_int) (da_cons (de_var 3) da_nil))))))
    dss_nil) dss_nil)
    (dss_cons (ds_ret (de_tup (da_cons (de_var 2) (da_cons (de_ix (de_var 1) de_int) (da_cons (de_op2 op_sub (O2.sub _) de_int (de_call C d__law_take (by decide) (by rfl) (da_cons (de_var 0) (da_cons de_int da_nil)))) (da_cons (de_var 3) da_nil))))))
    dss_nil)))))))))))
theorem sc__law_refused : FnScope ["bent", "e"] ["bent"] (defScope s__law_refused) := ⟨rfl, rfl, rfl, by decide +kernel, rfl, by decide +kernel, by decide +kernel⟩
theorem ok__law_refused (F : FunAt K mg "_law_refused" ["bent"] s__law_refused) (fx : Fx K mg ca) (d_Rounds___init__ : MakeOk P w K mg base 3 "Rounds" ca.c_Rounds ["self", "first", "start", "period", "late"] (f_Rounds___init__ ca)) :
    DefOk P w K mg base 5 "_law_refused" ["bent"] (f__law_refused ca) :=
  def_ok F sc__law_refused fun f cdv A outer s H E C =>
    (dss_cons (ds_try (c := .ref ca.c_InvalidRounds) (exm := (fun v => if v = .ref ca.c_InvalidRounds then some true else none)) (fs := (fun ex => if ex.cls = .ref ca.c_InvalidRounds ∧ ex.fs = none then (fun _ _ m => .ret (.bl true) m) else sBad)) (fun a _ ex => if ex.cls = .ref ca.c_InvalidRounds ∧ ex.fs = none then (sSeq (sRet (eAnd (e1 (oIsE a .non true) (eVar 1)) (eAnd (e1 (oIsE a .non true) (eVar 1)) (eNot (e1 (oIsE a .non false) (eVar 1)))))) sNil) else sBad) C rfl rfl rfl rfl ⟨by rfl, by decide, .inl fx.t_InvalidRounds.g⟩ (hx_ fx)
      (fun W' pn xe C => (dss_cons (ds_expr (de_make C d_Rounds___init__ (by decide) (by rfl) (da_cons (de_ix (de_var 0) de_int) (da_cons (de_ix (de_var 0) de_int) (da_cons (de_ix (de_var 0) de_int) (da_cons (de_ix (de_var 0) de_int) da_nil))))))
    dss_nil))
      (fun a oe ex cls d pn ec ed hz hv => by
        by_cases h : ex.cls = .ref ca.c_InvalidRounds ∧ ex.fs = none
        · rw [if_pos h]
          have e1 : cls = .ref ca.c_InvalidRounds := ec.symm.trans h.1
          have e2 : d = none := ed h.2
          subst e1 e2
          exact dss_cons (ds_ret (de_and (de_isE fx.x_2 hz hv (de_var 1) (cls_own (by rfl) fx.g_SumError) fx.x_3 (by rfl) fx.n_isinstance) (de_and (de_isE fx.x_2 hz hv (de_var 1) (cls_ty (by rfl) fx.n_ValueError bb_ValueError) fx.x_4 (by rfl) fx.n_isinstance) (de_one (de_not (de_isE fx.x_2 hz hv (de_var 1) (cls_own (by rfl) fx.g_InvalidText) fx.x_5 (by rfl) fx.n_isinstance)))))) dss_nil
        · rw [if_neg h]
          exact dss_never)
      (hi_ ca))
    (dss_cons (ds_ret de_bl)
    dss_nil))
theorem sc__law_variants_right : FnScope ["box", "made", "due", "turn", "form", "least", "other"] ["box", "made", "due"] (defScope s__law_variants_right) := ⟨rfl, rfl, rfl, by decide +kernel, rfl, by decide +kernel, by decide +kernel⟩
theorem ok__law_variants_right (F : FunAt K mg "_law_variants_right" ["box", "made", "due"] s__law_variants_right) (fx : Fx K mg ca) (d__law_variant : DefOk P w K mg base 2 "_law_variant" ["box", "due"] (f__law_variant ca)) (d__law_least : DefOk P w K mg base 2 "_law_least" ["form"] (f__law_least ca)) (d_Rounds___init__ : MakeOk P w K mg base 3 "Rounds" ca.c_Rounds ["self", "first", "start", "period", "late"] (f_Rounds___init__ ca)) (d__law_shows : DefOk P w K mg base 2 "_law_shows" ["made", "due"] (f__law_shows ca)) (d_Rounds___eq__ : MethOk P w K mg base 1 ca.c_Rounds "__eq__" ["self", "other"] (f_Rounds___eq__ ca)) :
    DefOk P w K mg base 5 "_law_variants_right" ["box", "made", "due"] (f__law_variants_right ca) :=
  def_ok F sc__law_variants_right fun f cdv A outer s H E C =>
    (dss_cons (ds_for C (di_range1 (by rfl) fx.n_range (da_cons de_int da_nil)) (dg_name 3 C.nd rfl (by first | exact .inl rfl | exact .inr rfl)) (dss_cons (ds_set 4 C rfl (by first | exact .inl rfl | exact .inr rfl) (de_call C d__law_variant (by decide) (by rfl) (da_cons (de_var 0) (da_cons (de_var 2) da_nil))))
    (dss_cons (ds_set 5 C rfl (by first | exact .inl rfl | exact .inr rfl) (de_call C d__law_least (by decide) (by rfl) (da_cons (de_var 4) da_nil)))
    (dss_cons (ds_set 6 C rfl (by first | exact .inl rfl | exact .inr rfl) (de_make C d_Rounds___init__ (by decide) (by rfl) (da_cons (de_callTy call_list_of (OC.list _ false) (by rfl) fx.n_list bb_list (da_cons (de_ix (de_var 4) de_int) da_nil)) (da_cons (de_ix (de_var 4) de_int) (da_cons (de_ix (de_var 4) de_int) (da_cons (de_callTy call_list_of (OC.list _ false) (by rfl) fx.n_list bb_list (da_cons (de_ix (de_var 4) de_int) da_nil)) da_nil))))))
    (dss_cons (ds_if (dt_bool (dw_or (dt_not (dt_tru (de_call C d__law_shows (by decide) (by rfl) (da_cons (de_var 6) (da_cons (de_var 5) da_nil))))) (dw_or1 (dt_cmp (op_neD C.room.units) (O2.ne _) (de_cmp (op_ownEq d_Rounds___eq__ C.room (by decide)) O2.own (de_var 1) (de_var 6) (by rfl)) (de_cmp (op_eqD C.room.units) (O2.eq _) (de_var 5) (de_var 2) (by rfl)) (by rfl))))) (dss_cons (ds_ret de_bl)
    dss_nil) dss_nil)
    dss_nil)))))
    (dss_cons (ds_ret de_bl)
    dss_nil))
theorem sc_law : FnScope ["script", "form", "due", "box", "first", "late", "row", "wheel", "made", "other", "twin", "again", "near", "mate", "place", "last"] ["script"] (defScope s_law) := ⟨rfl, rfl, rfl, by decide +kernel, rfl, by decide +kernel, by decide +kernel⟩
theorem ok_law (F : FunAt K mg "law" ["script"] s_law) (fx : Fx K mg ca) (d__law_form : DefOk P w K mg base 2 "_law_form" ["box", "share"] (f__law_form ca)) (d__law_box : DefOk P w K mg base 2 "_law_box" ["script", "place"] (f__law_box ca)) (d__law_least : DefOk P w K mg base 2 "_law_least" ["form"] (f__law_least ca)) (d__law_order : DefOk P w K mg base 2 "_law_order" ["box", "row"] (f__law_order ca)) (d_Rounds___init__ : MakeOk P w K mg base 3 "Rounds" ca.c_Rounds ["self", "first", "start", "period", "late"] (f_Rounds___init__ ca)) (d__law_shows : DefOk P w K mg base 2 "_law_shows" ["made", "due"] (f__law_shows ca)) (d__law_unfolded : DefOk P w K mg base 3 "_law_unfolded" ["box", "form"] (f__law_unfolded ca)) (d_Rounds___eq__ : MethOk P w K mg base 1 ca.c_Rounds "__eq__" ["self", "other"] (f_Rounds___eq__ ca)) (d__law_near : DefOk P w K mg base 2 "_law_near" ["box", "form"] (f__law_near ca)) (d__law_variants_right : DefOk P w K mg base 5 "_law_variants_right" ["box", "made", "due"] (f__law_variants_right ca)) (d__law_refused : DefOk P w K mg base 5 "_law_refused" ["bent"] (f__law_refused ca)) (d__law_bent : DefOk P w K mg base 4 "_law_bent" ["box", "form"] (f__law_bent ca)) :
    DefOk P w K mg base 6 "law" ["script"] (f_law ca) :=
  def_ok F sc_law fun f cdv A outer s H E C =>
    (dss_cons (ds_set 1 C rfl (by first | exact .inl rfl | exact .inr rfl) (de_call C d__law_form (by decide) (by rfl) (da_cons (de_call C d__law_box (by decide) (by rfl) (da_cons (de_var 0) (da_cons de_int da_nil))) (da_cons de_int da_nil))))
    (dss_cons (ds_set 2 C rfl (by first | exact .inl rfl | exact .inr rfl) (de_call C d__law_least (by decide) (by rfl) (da_cons (de_var 1) da_nil)))
    (dss_cons (ds_set 3 C rfl (by first | exact .inl rfl | exact .inr rfl) (de_call C d__law_box (by decide) (by rfl) (da_cons (de_var 0) (da_cons de_int da_nil))))
    (dss_cons (ds_set 4 C rfl (by first | exact .inl rfl | exact .inr rfl) (de_call C d__law_order (by decide) (by rfl) (da_cons (de_var 3) (da_cons (de_ix (de_var 1) de_int) da_nil))))
    (dss_cons (ds_set 5 C rfl (by first | exact .inl rfl | exact .inr rfl) (de_call C d__law_order (by decide) (by rfl) (da_cons (de_var 3) (da_cons (de_ix (de_var 1) de_int) da_nil))))
    (dss_cons (ds_set 6 C rfl (by first | exact .inl rfl | exact .inr rfl) (de_callTy call_list_of (OC.list _ true) (by rfl) fx.n_list bb_list (da_cons (de_var 4) da_nil)))
    (dss_cons (ds_set 7 C rfl (by first | exact .inl rfl | exact .inr rfl) (de_callTy call_list_of (OC.list _ true) (by rfl) fx.n_list bb_list (da_cons (de_var 5) da_nil)))
    (dss_cons (ds_set 8 C rfl (by first | exact .inl rfl | exact .inr rfl) (de_make C d_Rounds___init__ (by decide) (by rfl) (da_cons (de_var 6) (da_cons (de_ix (de_var 1) de_int) (da_cons (de_ix (de_var 1) de_int) (da_cons (de_var 7) da_nil))))))
    (dss_cons (ds_if (dt_bool (dw_or (dt_not (dt_tru (de_call C d__law_shows (by decide) (by rfl) (da_cons (de_var 8) (da_cons (de_var 2) da_nil))))) (dw_or (dt_cmp (op_neD C.room.units) (O2.ne _) (de_var 6) (de_var 4) (by rfl)) (dw_or1 (dt_cmp (op_neD C.room.units) (O2.ne _) (de_var 7) (de_var 5) (by rfl)))))) (dss_cons (ds_ret de_bl)
    dss_nil) dss_nil)
    (dss_cons (ds_expr (de_bm PySem.F.plainAttrs_list PySem.F.slot_list_append PySem.F.type_list_append mt_append (OM.lst LM.append _) (de_var 6) (da_cons (de_ix (de_var 1) de_int) da_nil)))
    (dss_fz 6
    (dss_cons (ds_expr (de_bm0 PySem.F.plainAttrs_list PySem.F.slot_list_clear PySem.F.type_list_clear mt_clear (OM.lst LM.clear _) (de_var 7)))
    (dss_fz 7
    (dss_cons (ds_set 9 C rfl (by first | exact .inl rfl | exact .inr rfl) (de_call C d__law_unfolded (by decide) (by rfl) (da_cons (de_var 3) (da_cons (de_var 1) da_nil))))
    (dss_cons (ds_set 10 C rfl (by first | exact .inl rfl | exact .inr rfl) (de_make C d_Rounds___init__ (by decide) (by rfl) (da_cons (de_callTy call_tuple_of (OC.tuple _) (by rfl) fx.n_tuple bb_tuple (da_cons (de_ix (de_var 9) de_int) da_nil)) (da_cons (de_ix (de_var 9) de_int) (da_cons (de_ix (de_var 9) de_int) (da_cons (de_callTy call_tuple_of (OC.tuple _) (by rfl) fx.n_tuple bb_tuple (da_cons (de_ix (de_var 9) de_int) da_nil)) da_nil))))))
    (dss_cons (ds_set 11 C rfl (by first | exact .inl rfl | exact .inr rfl) (de_make C d_Rounds___init__ (by decide) (by rfl) (da_cons (de_ix (de_var 2) de_int) (da_cons (de_ix (de_var 2) de_int) (da_cons (de_ix (de_var 2) de_int) (da_cons (de_callTy call_list_of (OC.list _ false) (by rfl) fx.n_list bb_list (da_cons (de_ix (de_var 2) de_int) da_nil)) da_nil))))))
    (dss_cons (ds_if (dt_bool (dw_or (dt_not (dt_tru (de_call C d__law_shows (by decide) (by rfl) (da_cons (de_var 8) (da_cons (de_var 2) da_nil))))) (dw_or (dt_not (dt_tru (de_call C d__law_shows (by decide) (by rfl) (da_cons (de_var 10) (da_cons (de_var 2) da_nil))))) (dw_or1 (dt_not (dt_tru (de_call C d__law_shows (by decide) (by rfl) (da_cons (de_var 11) (da_cons (de_var 2) da_nil))))))))) (dss_cons (ds_ret de_bl)
    dss_nil) dss_nil)
    (dss_cons (ds_if (dt_bool (dw_or (dt_cmp op_notBl (O2.notB _) (de_cmp (op_ownEq d_Rounds___eq__ C.room (by decide)) O2.own (de_var 8) (de_var 10) (by rfl)) de_bl (by rfl)) (dw_or (dt_cmp op_notBl (O2.notB _) (de_cmp (op_ownEq d_Rounds___eq__ C.room (by decide)) O2.own (de_var 10) (de_var 8) (by rfl)) de_bl (by rfl)) (dw_or1 (dt_cmp op_notBl (O2.notB _) (de_cmp (op_ownEq d_Rounds___eq__ C.room (by decide)) O2.own (de_var 11) (de_var 10) (by rfl)) de_bl (by rfl)))))) (dss_cons (ds_ret de_bl)
    dss_nil) dss_nil)
    (dss_cons (ds_set 12 C rfl (by first | exact .inl rfl | exact .inr rfl) (de_call C d__law_near (by decide) (by rfl) (da_cons (de_var 3) (da_cons (de_var 1) da_nil))))
    (dss_cons (ds_set 13 C rfl (by first | exact .inl rfl | exact .inr rfl) (de_make C d_Rounds___init__ (by decide) (by rfl) (da_cons (de_callTy call_list_of (OC.list _ false) (by rfl) fx.n_list bb_list (da_cons (de_ix (de_var 12) de_int) da_nil)) (da_cons (de_ix (de_var 12) de_int) (da_cons (de_ix (de_var 12) de_int) (da_cons (de_callTy call_tuple_of (OC.tuple _) (by rfl) fx.n_tuple bb_tuple (da_cons (de_ix (de_var 12) de_int) da_nil)) da_nil))))))
    (dss_cons (ds_if (dt_not (dt_tru (de_call C d__law_shows (by decide) (by rfl) (da_cons (de_var 13) (da_cons (de_call C d__law_least (by decide) (by rfl) (da_cons (de_var 12) da_nil)) da_nil))))) (dss_cons (ds_ret de_bl)
    dss_nil) dss_nil)
    (dss_cons (ds_if (dt_bool (dw_or (dt_cmp op_notBl (O2.notB _) (de_cmp (op_ownEq d_Rounds___eq__ C.room (by decide)) O2.own (de_var 8) (de_var 13) (by rfl)) de_bl (by rfl)) (dw_or1 (dt_cmp op_notBl (O2.notB _) (de_cmp (op_ownEq d_Rounds___eq__ C.room (by decide)) O2.own (de_var 13) (de_var 10) (by rfl)) de_bl (by rfl))))) (dss_cons (ds_ret de_bl)
    dss_nil) dss_nil)
    (dss_cons (ds_if (dt_not (dt_tru (de_call C d__law_variants_right (by decide) (by rfl) (da_cons (de_var 3) (da_cons (de_var 8) (da_cons (de_var 2) da_nil)))))) (dss_cons (ds_ret de_bl)
    dss_nil) dss_nil)
    (dss_cons (ds_for C (di_range2 (by rfl) fx.n_range (da_cons de_int (da_cons (de_callB (call_max2 C.calm) (OC.f2 _ _) (by rfl) fx.n_max bb_max (da_cons de_int (da_cons (de_callB (call_min2 C.calm) (OC.f2 _ _) (by rfl) fx.n_min bb_min (da_cons (de_callB cr_len (OC.len _) (by rfl) fx.n_len bb_len (da_cons (de_var 0) da_nil)) (da_cons de_int da_nil))) da_nil))) da_nil))) (dg_name 14 C.nd rfl (by first | exact .inl rfl | exact .inr rfl)) (dss_cons (ds_if (dt_not (dt_tru (de_call C d__law_refused (by decide) (by rfl) (da_cons (de_call C d__law_bent (by decide) (by rfl) (da_cons (de_call C d__law_box (by decide) (by rfl) (da_cons (de_var 0) (da_cons (de_var 14) da_nil))) (da_cons (de_var 1) da_nil))) da_nil)))) (dss_cons (ds_ret de_bl)
    dss_nil) dss_nil)
    dss_nil))
    (dss_cons (ds_if (dt_not (dt_tru (de_call C d__law_shows (by decide) (by rfl) (da_cons (de_make C d_Rounds___init__ (by decide) (by rfl) (da_cons (de_lst false da_nil) (da_cons de_int (da_cons de_int (da_cons (de_lst false da_nil) da_nil))))) (da_cons (de_tup (da_cons (de_tup da_nil) (da_cons de_int (da_cons de_int (da_cons (de_tup da_nil) da_nil))))) da_nil))))) (dss_cons (ds_ret de_bl)
    dss_nil) dss_nil)
    (dss_cons (ds_if (dt_not (dt_tru (de_call C d__law_shows (by decide) (by rfl) (da_cons (de_make C d_Rounds___init__ (by decide) (by rfl) (da_cons (de_tup da_nil) (da_cons de_int (da_cons de_int (da_cons (de_tup (da_cons de_int da_nil)) da_nil))))) (da_cons (de_tup (da_cons (de_tup da_nil) (da_cons de_int (da_cons de_int (da_cons (de_tup (da_cons de_int da_nil)) da_nil))))) da_nil))))) (dss_cons (ds_ret de_bl)
    dss_nil) dss_nil)
    (dss_cons (ds_set 15 C rfl (by first | exact .inl rfl | exact .inr rfl) (de_make C d_Rounds___init__ (by decide) (by rfl) (da_cons (de_callTy call_tuple_of (OC.tuple _) (by rfl) fx.n_tuple bb_tuple (da_cons (de_var 4) da_nil)) (da_cons (de_ix (de_var 1) de_int) (da_cons (de_ix (de_var 1) de_int) (da_cons (de_callTy call_list_of (OC.list _ false) (by rfl) fx.n_list bb_list (da_cons (de_var 5) da_nil)) da_nil))))))
    (dss_cons (ds_if (dt_bool (dw_or (dt_not (dt_tru (de_call C d__law_shows (by decide) (by rfl) (da_cons (de_var 15) (da_cons (de_var 2) da_nil))))) (dw_or1 (dt_cmp op_notBl (O2.notB _) (de_cmp (op_ownEq d_Rounds___eq__ C.room (by decide)) O2.own (de_var 15) (de_var 8) (by rfl)) de_bl (by rfl))))) (dss_cons (ds_ret de_bl)
    dss_nil) dss_nil)
    (dss_cons (ds_ret (de_and (de_call C d__law_shows (by decide) (by rfl) (da_cons (de_var 8) (da_cons (de_var 2) da_nil))) (de_and (de_call C d__law_shows (by decide) (by rfl) (da_cons (de_var 10) (da_cons (de_var 2) da_nil))) (de_one (de_call C d__law_shows (by decide) (by rfl) (da_cons (de_var 13) (da_cons (de_call C d__law_least (by decide) (by rfl) (da_cons (de_var 12) da_nil)) da_nil)))))))
    dss_nil)))))))))))))))))))))))))))))
/-- the defs of the text under their names -/
structure Defs (K : PySem.W.Frag) (mg : Str → Option Value) (ca : CA) : Prop where
  a__is_number : FunAt K mg "_is_number" ["value"] s__is_number
  a__least_period : FunAt K mg "_least_period" ["late", "period"] s__least_period
  a__least_start : FunAt K mg "_least_start" ["first", "start", "step", "offsets"] s__least_start
  a__law_seed : FunAt K mg "_law_seed" ["script", "place"] s__law_seed
  a__law_take : FunAt K mg "_law_take" ["box", "many"] s__law_take
  a__law_is_number : FunAt K mg "_law_is_number" ["value"] s__law_is_number
  a__law_has : FunAt K mg "_law_has" ["form", "number"] s__law_has
  a__law_toggle : FunAt K mg "_law_toggle" ["form", "at"] s__law_toggle
  a_Rounds___eq__ : MethAt K ca.c_Rounds "__eq__" "Rounds.__eq__" ["self", "other"] s_Rounds___eq__
  a__are_unlike_below : FunAt K mg "_are_unlike_below" ["values", "most"] s__are_unlike_below
  a__law_box : FunAt K mg "_law_box" ["script", "place"] s__law_box
  a__law_least : FunAt K mg "_law_least" ["form"] s__law_least
  a__law_shows : FunAt K mg "_law_shows" ["made", "due"] s__law_shows
  a__law_form : FunAt K mg "_law_form" ["box", "share"] s__law_form
  a__law_order : FunAt K mg "_law_order" ["box", "row"] s__law_order
  a__law_odd : FunAt K mg "_law_odd" ["box"] s__law_odd
  a__law_near : FunAt K mg "_law_near" ["box", "form"] s__law_near
  a__law_variant : FunAt K mg "_law_variant" ["box", "due"] s__law_variant
  a__law_unfolded : FunAt K mg "_law_unfolded" ["box", "form"] s__law_unfolded
  a__law_bent_row : FunAt K mg "_law_bent_row" ["box", "row", "bound"] s__law_bent_row
  a_Rounds___init__ : MakeAt K mg "Rounds" ca.c_Rounds "Rounds.__init__" ["self", "first", "start", "period", "late"] s_Rounds___init__
  a__law_bent : FunAt K mg "_law_bent" ["box", "form"] s__law_bent
  a__law_refused : FunAt K mg "_law_refused" ["bent"] s__law_refused
  a__law_variants_right : FunAt K mg "_law_variants_right" ["box", "made", "due"] s__law_variants_right
  a_law : FunAt K mg "law" ["script"] s_law
/-- the whole -/
theorem top_ok {f : Addr} {fd : FuncData} (F : Fun K "law" "law" s_law f fd) (fx : Fx K mg ca) (df : Defs K mg ca) : FnOk P w K mg base (L2.CX P w) 6 f fd ["script"] (spD K 1 (f_law ca)) := by
  have d__is_number : DefOk P w K mg base 1 "_is_number" ["value"] (f__is_number ca) := ok__is_number df.a__is_number fx
  have d__least_period : DefOk P w K mg base 1 "_least_period" ["late", "period"] (f__least_period ca) := ok__least_period df.a__least_period fx
  have d__least_start : DefOk P w K mg base 1 "_least_start" ["first", "start", "step", "offsets"] (f__least_start ca) := ok__least_start df.a__least_start fx
  have d__law_seed : DefOk P w K mg base 1 "_law_seed" ["script", "place"] (f__law_seed ca) := ok__law_seed df.a__law_seed fx
  have d__law_take : DefOk P w K mg base 1 "_law_take" ["box", "many"] (f__law_take ca) := ok__law_take df.a__law_take fx
  have d__law_is_number : DefOk P w K mg base 1 "_law_is_number" ["value"] (f__law_is_number ca) := ok__law_is_number df.a__law_is_number fx
  have d__law_has : DefOk P w K mg base 1 "_law_has" ["form", "number"] (f__law_has ca) := ok__law_has df.a__law_has fx
  have d__law_toggle : DefOk P w K mg base 1 "_law_toggle" ["form", "at"] (f__law_toggle ca) := ok__law_toggle df.a__law_toggle fx
  have d_Rounds___eq__ : MethOk P w K mg base 1 ca.c_Rounds "__eq__" ["self", "other"] (f_Rounds___eq__ ca) := ok_Rounds___eq__ df.a_Rounds___eq__ fx
  have d__are_unlike_below : DefOk P w K mg base 2 "_are_unlike_below" ["values", "most"] (f__are_unlike_below ca) := ok__are_unlike_below df.a__are_unlike_below fx d__is_number
  have d__law_box : DefOk P w K mg base 2 "_law_box" ["script", "place"] (f__law_box ca) := ok__law_box df.a__law_box fx d__law_seed
  have d__law_least : DefOk P w K mg base 2 "_law_least" ["form"] (f__law_least ca) := ok__law_least df.a__law_least fx d__law_has
  have d__law_shows : DefOk P w K mg base 2 "_law_shows" ["made", "due"] (f__law_shows ca) := ok__law_shows df.a__law_shows fx d__law_is_number
  have d__law_form : DefOk P w K mg base 2 "_law_form" ["box", "share"] (f__law_form ca) := ok__law_form df.a__law_form fx d__law_take d__law_toggle
  have d__law_order : DefOk P w K mg base 2 "_law_order" ["box", "row"] (f__law_order ca) := ok__law_order df.a__law_order fx d__law_take
  have d__law_odd : DefOk P w K mg base 2 "_law_odd" ["box"] (f__law_odd ca) := ok__law_odd df.a__law_odd fx d__law_take
  have d__law_near : DefOk P w K mg base 2 "_law_near" ["box", "form"] (f__law_near ca) := ok__law_near df.a__law_near fx d__law_take d__law_toggle
  have d__law_variant : DefOk P w K mg base 2 "_law_variant" ["box", "due"] (f__law_variant ca) := ok__law_variant df.a__law_variant fx d__law_take
  have d__law_unfolded : DefOk P w K mg base 3 "_law_unfolded" ["box", "form"] (f__law_unfolded ca) := ok__law_unfolded df.a__law_unfolded fx d__law_take d__law_has d__law_order
  have d__law_bent_row : DefOk P w K mg base 3 "_law_bent_row" ["box", "row", "bound"] (f__law_bent_row ca) := ok__law_bent_row df.a__law_bent_row fx d__law_take d__law_odd
  have d_Rounds___init__ : MakeOk P w K mg base 3 "Rounds" ca.c_Rounds ["self", "first", "start", "period", "late"] (f_Rounds___init__ ca) := ok_Rounds___init__ df.a_Rounds___init__ fx d__is_number d__are_unlike_below d__least_period d__least_start
  have d__law_bent : DefOk P w K mg base 4 "_law_bent" ["box", "form"] (f__law_bent ca) := ok__law_bent df.a__law_bent fx d__law_take d__law_bent_row d__law_odd
  have d__law_refused : DefOk P w K mg base 5 "_law_refused" ["bent"] (f__law_refused ca) := ok__law_refused df.a__law_refused fx d_Rounds___init__
  have d__law_variants_right : DefOk P w K mg base 5 "_law_variants_right" ["box", "made", "due"] (f__law_variants_right ca) := ok__law_variants_right df.a__law_variants_right fx d__law_variant d__law_least d_Rounds___init__ d__law_shows d_Rounds___eq__
  exact fn_D F sc_law fun cdv A outer s H E C =>
    (dss_cons (ds_set 1 C rfl (by first | exact .inl rfl | exact .inr rfl) (de_call C d__law_form (by decide) (by rfl) (da_cons (de_call C d__law_box (by decide) (by rfl) (da_cons (de_var 0) (da_cons de_int da_nil))) (da_cons de_int da_nil))))
    (dss_cons (ds_set 2 C rfl (by first | exact .inl rfl | exact .inr rfl) (de_call C d__law_least (by decide) (by rfl) (da_cons (de_var 1) da_nil)))
    (dss_cons (ds_set 3 C rfl (by first | exact .inl rfl | exact .inr rfl) (de_call C d__law_box (by decide) (by rfl) (da_cons (de_var 0) (da_cons de_int da_nil))))
    (dss_cons (ds_set 4 C rfl (by first | exact .inl rfl | exact .inr rfl) (de_call C d__law_order (by decide) (by rfl) (da_cons (de_var 3) (da_cons (de_ix (de_var 1) de_int) da_nil))))
    (dss_cons (ds_set 5 C rfl (by first | exact .inl rfl | exact .inr rfl) (de_call C d__law_order (by decide) (by rfl) (da_cons (de_var 3) (da_cons (de_ix (de_var 1) de_int) da_nil))))
    (dss_cons (ds_set 6 C rfl (by first | exact .inl rfl | exact .inr rfl) (de_callTy call_list_of (OC.list _ true) (by rfl) fx.n_list bb_list (da_cons (de_var 4) da_nil)))
    (dss_cons (ds_set 7 C rfl (by first | exact .inl rfl | exact .inr rfl) (de_callTy call_list_of (OC.list _ true) (by rfl) fx.n_list bb_list (da_cons (de_var 5) da_nil)))
    (dss_cons (ds_set 8 C rfl (by first | exact .inl rfl | exact .inr rfl) (de_make C d_Rounds___init__ (by decide) (by rfl) (da_cons (de_var 6) (da_cons (de_ix (de_var 1) de_int) (da_cons (de_ix (de_var 1) de_int) (da_cons (de_var 7) da_nil))))))
    (dss_cons (ds_if (dt_bool (dw_or (dt_not (dt_tru (de_call C d__law_shows (by decide) (by rfl) (da_cons (de_var 8) (da_cons (de_var 2) da_nil))))) (dw_or (dt_cmp (op_neD C.room.units) (O2.ne _) (de_var 6) (de_var 4) (by rfl)) (dw_or1 (dt_cmp (op_neD C.room.units) (O2.ne _) (de_var 7) (de_var 5) (by rfl)))))) (dss_cons (ds_ret de_bl)
    dss_nil) dss_nil)
    (dss_cons (ds_expr (de_bm PySem.F.plainAttrs_list PySem.F.slot_list_append PySem.F.type_list_append mt_append (OM.lst LM.append _) (de_var 6) (da_cons (de_ix (de_var 1) de_int) da_nil)))
    (dss_fz 6
    (dss_cons (ds_expr (de_bm0 PySem.F.plainAttrs_list PySem.F.slot_list_clear PySem.F.type_list_clear mt_clear (OM.lst LM.clear _) (de_var 7)))
    (dss_fz 7
    (dss_cons (ds_set 9 C rfl (by first | exact .inl rfl | exact .inr rfl) (de_call C d__law_unfolded (by decide) (by rfl) (da_cons (de_var 3) (da_cons (de_var 1) da_nil))))
    (dss_cons (ds_set 10 C rfl (by first | exact .inl rfl | exact .inr rfl) (de_make C d_Rounds___init__ (by decide) (by rfl) (da_cons (de_callTy call_tuple_of (OC.tuple _) (by rfl) fx.n_tuple bb_tuple (da_cons (de_ix (de_var 9) de_int) da_nil)) (da_cons (de_ix (de_var 9) de_int) (da_cons (de_ix (de_var 9) de_int) (da_cons (de_callTy call_tuple_of (OC.tuple _) (by rfl) fx.n_tuple bb_tuple (da_cons (de_ix (de_var 9) de_int) da_nil)) da_nil))))))
    (dss_cons (ds_set 11 C rfl (by first | exact .inl rfl | exact .inr rfl) (de_make C d_Rounds___init__ (by decide) (by rfl) (da_cons (de_ix (de_var 2) de_int) (da_cons (de_ix (de_var 2) de_int) (da_cons (de_ix (de_var 2) de_int) (da_cons (de_callTy call_list_of (OC.list _ false) (by rfl) fx.n_list bb_list (da_cons (de_ix (de_var 2) de_int) da_nil)) da_nil))))))
    (dss_cons (ds_if (dt_bool (dw_or (dt_not (dt_tru (de_call C d__law_shows (by decide) (by rfl) (da_cons (de_var 8) (da_cons (de_var 2) da_nil))))) (dw_or (dt_not (dt_tru (de_call C d__law_shows (by decide) (by rfl) (da_cons (de_var 10) (da_cons (de_var 2) da_nil))))) (dw_or1 (dt_not (dt_tru (de_call C d__law_shows (by decide) (by rfl) (da_cons (de_var 11) (da_cons (de_var 2) da_nil))))))))) (dss_cons (ds_ret de_bl)
    dss_nil) dss_nil)
    (dss_cons (ds_if (dt_bool (dw_or (dt_cmp op_notBl (O2.notB _) (de_cmp (op_ownEq d_Rounds___eq__ C.room (by decide)) O2.own (de_var 8) (de_var 10) (by rfl)) de_bl (by rfl)) (dw_or (dt_cmp op_notBl (O2.notB _) (de_cmp (op_ownEq d_Rounds___eq__ C.room (by decide)) O2.own (de_var 10) (de_var 8) (by rfl)) de_bl (by rfl)) (dw_or1 (dt_cmp op_notBl (O2.notB _) (de_cmp (op_ownEq d_Rounds___eq__ C.room (by decide)) O2.own (de_var 11) (de_var 10) (by rfl)) de_bl (by rfl)))))) (dss_cons (ds_ret de_bl)
    dss_nil) dss_nil)
    (dss_cons (ds_set 12 C rfl (by first | exact .inl rfl | exact .inr rfl) (de_call C d__law_near (by decide) (by rfl) (da_cons (de_var 3) (da_cons (de_var 1) da_nil))))
    (dss_cons (ds_set 13 C rfl (by first | exact .inl rfl | exact .inr rfl) (de_make C d_Rounds___init__ (by decide) (by rfl) (da_cons (de_callTy call_list_of (OC.list _ false) (by rfl) fx.n_list bb_list (da_cons (de_ix (de_var 12) de_int) da_nil)) (da_cons (de_ix (de_var 12) de_int) (da_cons (de_ix (de_var 12) de_int) (da_cons (de_callTy call_tuple_of (OC.tuple _) (by rfl) fx.n_tuple bb_tuple (da_cons (de_ix (de_var 12) de_int) da_nil)) da_nil))))))
    (dss_cons (ds_if (dt_not (dt_tru (de_call C d__law_shows (by decide) (by rfl) (da_cons (de_var 13) (da_cons (de_call C d__law_least (by decide) (by rfl) (da_cons (de_var 12) da_nil)) da_nil))))) (dss_cons (ds_ret de_bl)
    dss_nil) dss_nil)
    (dss_cons (ds_if (dt_bool (dw_or (dt_cmp op_notBl (O2.notB _) (de_cmp (op_ownEq d_Rounds___eq__ C.room (by decide)) O2.own (de_var 8) (de_var 13) (by rfl)) de_bl (by rfl)) (dw_or1 (dt_cmp op_notBl (O2.notB _) (de_cmp (op_ownEq d_Rounds___eq__ C.room (by decide)) O2.own (de_var 13) (de_var 10) (by rfl)) de_bl (by rfl))))) (dss_cons (ds_ret de_bl)
    dss_nil) dss_nil)
    (dss_cons (ds_if (dt_not (dt_tru (de_call C d__law_variants_right (by decide) (by rfl) (da_cons (de_var 3) (da_cons (de_var 8) (da_cons (de_var 2) da_nil)))))) (dss_cons (ds_ret de_bl)
    dss_nil) dss_nil)
    (dss_cons (ds_for C (di_range2 (by rfl) fx.n_range (da_cons de_int (da_cons (de_callB (call_max2 C.calm) (OC.f2 _ _) (by rfl) fx.n_max bb_max (da_cons de_int (da_cons (de_callB (call_min2 C.calm) (OC.f2 _ _) (by rfl) fx.n_min bb_min (da_cons (de_callB cr_len (OC.len _) (by rfl) fx.n_len bb_len (da_cons (de_var 0) da_nil)) (da_cons de_int da_nil))) da_nil))) da_nil))) (dg_name 14 C.nd rfl (by first | exact .inl rfl | exact .inr rfl)) (dss_cons (ds_if (dt_not (dt_tru (de_call C d__law_refused (by decide) (by rfl) (da_cons (de_call C d__law_bent (by decide) (by rfl) (da_cons (de_call C d__law_box (by decide) (by rfl) (da_cons (de_var 0) (da_cons (de_var 14) da_nil))) (da_cons (de_var 1) da_nil))) da_nil)))) (dss_cons (ds_ret de_bl)
    dss_nil) dss_nil)
    dss_nil))
    (dss_cons (ds_if (dt_not (dt_tru (de_call C d__law_shows (by decide) (by rfl) (da_cons (de_make C d_Rounds___init__ (by decide) (by rfl) (da_cons (de_lst false da_nil) (da_cons de_int (da_cons de_int (da_cons (de_lst false da_nil) da_nil))))) (da_cons (de_tup (da_cons (de_tup da_nil) (da_cons de_int (da_cons de_int (da_cons (de_tup da_nil) da_nil))))) da_nil))))) (dss_cons (ds_ret de_bl)
    dss_nil) dss_nil)
    (dss_cons (ds_if (dt_not (dt_tru (de_call C d__law_shows (by decide) (by rfl) (da_cons (de_make C d_Rounds___init__ (by decide) (by rfl) (da_cons (de_tup da_nil) (da_cons de_int (da_cons de_int (da_cons (de_tup (da_cons de_int da_nil)) da_nil))))) (da_cons (de_tup (da_cons (de_tup da_nil) (da_cons de_int (da_cons de_int (da_cons (de_tup (da_cons de_int da_nil)) da_nil))))) da_nil))))) (dss_cons (ds_ret de_bl)
    dss_nil) dss_nil)
    (dss_cons (ds_set 15 C rfl (by first | exact .inl rfl | exact .inr rfl) (de_make C d_Rounds___init__ (by decide) (by rfl) (da_cons (de_callTy call_tuple_of (OC.tuple _) (by rfl) fx.n_tuple bb_tuple (da_cons (de_var 4) da_nil)) (da_cons (de_ix (de_var 1) de_int) (da_cons (de_ix (de_var 1) de_int) (da_cons (de_callTy call_list_of (OC.list _ false) (by rfl) fx.n_list bb_list (da_cons (de_var 5) da_nil)) da_nil))))))
    (dss_cons (ds_if (dt_bool (dw_or (dt_not (dt_tru (de_call C d__law_shows (by decide) (by rfl) (da_cons (de_var 15) (da_cons (de_var 2) da_nil))))) (dw_or1 (dt_cmp op_notBl (O2.notB _) (de_cmp (op_ownEq d_Rounds___eq__ C.room (by decide)) O2.own (de_var 15) (de_var 8) (by rfl)) de_bl (by rfl))))) (dss_cons (ds_ret de_bl)
    dss_nil) dss_nil)
    (dss_cons (ds_ret (de_and (de_call C d__law_shows (by decide) (by rfl) (da_cons (de_var 8) (da_cons (de_var 2) da_nil))) (de_and (de_call C d__law_shows (by decide) (by rfl) (da_cons (de_var 10) (da_cons (de_var 2) da_nil))) (de_one (de_call C d__law_shows (by decide) (by rfl) (da_cons (de_var 13) (da_cons (de_call C d__law_least (by decide) (by rfl) (da_cons (de_var 12) da_nil)) da_nil)))))))
    dss_nil)))))))))))))))))))))))))))))
end
end K18

/-! K18A: the box of draws. -/
namespace K18
open PySem PySem.Spec PyProof.Rows L2 DL
structure Bag where
  a : Int
  b : Int
  c : Int
  hc : 0 ≤ c ∧ c < 2 ^ 32
abbrev bagO (B : Bag) : DO := .lst [.int B.a, .int B.b, .int B.c]
theorem at0 {x y z : D} : atI [x, y, z] 0 = some x := rfl
theorem at1 {x y z : D} : atI [x, y, z] 1 = some y := rfl
theorem at2 {x y z : D} : atI [x, y, z] 2 = some z := rfl
theorem divOk {i j : Int} (h : 0 < j) (h2 : j < 2 ^ 64) : CDivW i j := by
  refine ⟨h, ?_⟩
  have : j.natAbs < 2 ^ 64 := by omega
  have := (Nat.log2_lt (by omega)).mpr this
  omega
theorem bagUnd {n : Nat} {m : Mem} {B : Bag} (h : Und m) : Und (m.set n (bagO B)) := h.set (by simp [DO.und])
theorem bag_set {m : Mem} {n : Nat} {B B' : Bag} (h : m[n]? = some (bagO B)) : (m.set n (bagO B'))[n]? = some (bagO B') := set_get h
theorem take_ok (ca : CA) {n : Nat} {B : Bag} {z : Int} {m : Mem} (h : m[n]? = some (bagO B)) (hz : 0 < z) (hz2 : z < 2 ^ 64) :
    ∃ (v : Nat) (B' : Bag), (v : Int) < z ∧ f__law_take ca [.obj n, .int z] m = .ok (nD v) (m.set n (bagO B')) := by
  have i0 : ∀ {m' : Mem} {B : Bag}, m'[n]? = some (bagO B) → oIx (.obj n) (.int 0) m' = .ok (.int B.a) m' := fun h => oIx_obj h at0
  have i1 : ∀ {m' : Mem} {B : Bag}, m'[n]? = some (bagO B) → oIx (.obj n) (.int 1) m' = .ok (.int B.b) m' := fun h => oIx_obj h at1
  have i2 : ∀ {m' : Mem} {B : Bag}, m'[n]? = some (bagO B) → oIx (.obj n) (.int 2) m' = .ok (.int B.c) m' := fun h => oIx_obj h at2
  obtain ⟨b1, hb1⟩ : ∃ b1 : Int, b1 = B.b + 1 := ⟨_, rfl⟩
  have s1 := setL_ok (d := .int b1) h (show ixN 3 1 = some 1 from rfl)
  have h1 : (m.set n (bagO ⟨B.a, b1, B.c, B.hc⟩))[n]? = some (bagO ⟨B.a, b1, B.c, B.hc⟩) := set_get h
  unfold f__law_take runD b__law_take
  by_cases ha : 0 < B.a
  · refine ⟨(B.a % z).toNat, ⟨B.a / z, b1, B.c, B.hc⟩, ?_, ?_⟩
    · have := Int.emod_nonneg B.a (show z ≠ 0 by omega)
      have := Int.emod_lt_of_pos B.a hz
      omega
    · have e : ((B.a % z).toNat : Int) = B.a % z := Int.toNat_of_nonneg (Int.emod_nonneg _ (by omega))
      have s2 := setL_ok (d := .int (B.a / z)) h1 (show ixN 3 0 = some 0 from rfl)
      simp only [List.set, List.set_set] at s1 s2
      simp [startD, i0 h, i1 h, ← hb1, s1, i0 h1, ha, oMod_int hz, oFdiv_int (divOk hz hz2), s2, e]
      rw [trunc_same (by simp)]
      show R.ok (D.int _) _ = R.ok (D.int _) _
      rw [e]
  · obtain ⟨x, hx⟩ : ∃ x : Int, x = ((B.c + 131) * (b1 + 17) * 48271) % 2147483647 := ⟨_, rfl⟩
    have x1 : 0 ≤ x ∧ x < 2147483647 := by rw [hx]; exact ⟨Int.emod_nonneg _ (by decide), Int.emod_lt_of_pos _ (by decide)⟩
    obtain ⟨y, hy⟩ : ∃ y : Int, y = (x * x + b1 * 69621 + 7) % 2147483399 := ⟨_, rfl⟩
    refine ⟨(y / 16 % z).toNat, ⟨B.a, b1, B.c, B.hc⟩, ?_, ?_⟩
    · have := Int.emod_nonneg (y / 16) (show z ≠ 0 by omega)
      have := Int.emod_lt_of_pos (y / 16) hz
      omega
    · have e : ((y / 16 % z).toNat : Int) = y / 16 % z := Int.toNat_of_nonneg (Int.emod_nonneg _ (by omega))
      have hc := B.hc
      simp only [List.set] at s1
      simp [startD, i0 h, i1 h, ← hb1, s1, i0 h1, ha, i1 h1, i2 h1, oMul_int (mulOk_l (i := B.c + 131) (by omega)), oMul_int (mulOk_r (show -(2 ^ 64) < (48271 : Int) ∧ (48271 : Int) < 2 ^ 64 by decide)),
        oMul_int (mulOk_r (show -(2 ^ 64) < (69621 : Int) ∧ (69621 : Int) < 2 ^ 64 by decide)), oMod_int, ← hx, oMul_int (mulOk_l (i := x) (by omega)), ← hy, oFdiv_int (divOk (show (0 : Int) < 16 by decide) (by decide)), hz, oMod_int hz, e]
      rw [trunc_same (by simp)]
      show R.ok (D.int _) _ = R.ok (D.int _) _
      rw [e]
/-! ### draws one by one -/
theorem draws_ok (ca : CA) {n i : Nat} {B : Bag} {z : Int} {fi : ES} {te : EX} {vs : List Nat} {loc : DL.Loc} {m0 m : Mem} {ds : List D} (hf : fi loc m0 = .ok (.st ds) m) (hU : Und m) (h : m[n]? = some (bagO B)) (hz : 0 < z) (hz2 : z < 2 ^ 64) (hl : ds.length ≤ sizeLine)
    (he : ∀ d ∈ ds, ∀ m1, te ((wipeD loc vs).set i (some d)) m1 = f__law_take ca [.obj n, .int z] m1) :
    ∃ (us : List Nat) (B' : Bag), us.length = ds.length ∧ (∀ u ∈ us, (u : Int) < z) ∧ eLc false fi (gaName i) tT te vs loc m0 = .ok (.lst (us.map nD)) (m.set n (bagO B')) := by
  obtain ⟨acc, m1, e, hl1, us, B', h1, h2, h3, h4⟩ := eLc_run (tt := tT) (te := te) (vs := vs) (ga := gaName i) (fun k acc m1 => ∃ (us : List Nat) (B' : Bag), us.length = k ∧ (∀ u ∈ us, (u : Int) < z) ∧ acc = us.map nD ∧ m1 = m.set n (bagO B')) hf hl
    (fun k d acc m1 hd hl1 hI => by
      obtain ⟨us, B1, h1, h2, rfl, rfl⟩ := hI
      have hn : n < m.length := (List.getElem?_eq_some_iff.mp h).1
      have hg : (m.set n (bagO B1) ++ [DO.lst (us.map nD)])[n]? = some (bagO B1) := get_left (bag_set h)
      obtain ⟨v, B2, hv, ev⟩ := take_ok ca hg hz hz2
      refine ⟨_, rfl, true, m.set n (bagO B1), rfl, hl1, .inr ⟨rfl, nD v, m.set n (bagO B2), ?_, by simp, us ++ [v], B2, by simp [h1], ?_, by simp, rfl⟩⟩
      · rw [he d (List.mem_of_getElem? hd), ev, set_left (bag_set h), List.set_set]
      · intro u hu
        rcases List.mem_append.mp hu with q | q
        · exact h2 u q
        · rw [List.mem_singleton] at q; subst q; exact hv)
    (fun acc m1 hl1 hI => by
      obtain ⟨us, B1, h1, h2, rfl, rfl⟩ := hI
      refine ⟨unds_all.mpr fun d hd => ?_, ?_⟩
      · obtain ⟨u, _, rfl⟩ := List.mem_map.mp hd
        simp
      · have := bagUnd (n := n) (B := B1) hU
        unfold Und at this
        rwa [hl1] at this)
    ⟨[], B, rfl, by simp, rfl, by
      apply List.ext_getElem?
      intro j
      rw [List.getElem?_set]
      split
      · rename_i ej
        subst ej
        rw [if_pos (List.getElem?_eq_some_iff.mp h).1, h]
      · rfl⟩
  subst h3 h4
  exact ⟨us, B', h1, h2, e⟩
end K18

/-! K18B: seeds, boxes. -/
namespace K18
open PySem PySem.Spec PyProof.Rows L2 DL
theorem oPow_int {i j : Int} {m : Mem} (h : CPow i j) : oPow (.int i) (.int j) m = .ok (.int (i ^ j.toNat)) m := if_pos h
def T18 : Int := 10 ^ 18
def T60 : Int := 10 ^ 60
def P2 : Int := T60 * T60
def P3 : Int := P2 * T60
def P4 : Int := P3 * T60
def P5 : Int := P4 * T60
theorem p18 {m : Mem} : oPow (.int 10) (.int 18) m = .ok (.int T18) m := oPow_int ⟨by decide, by decide, by decide⟩
theorem p60 {m : Mem} : oPow (.int 10) (.int 60) m = .ok (.int T60) m := oPow_int ⟨by decide, by decide, by decide⟩
theorem mu2 {m : Mem} : oMul (.int T60) (.int T60) m = .ok (.int P2) m := oMul_int (.inr (by unfold CMulW; decide +kernel))
theorem mu3 {m : Mem} : oMul (.int P2) (.int T60) m = .ok (.int P3) m := oMul_int (.inr (by unfold CMulW; decide +kernel))
theorem mu4 {m : Mem} : oMul (.int P3) (.int T60) m = .ok (.int P4) m := oMul_int (.inr (by unfold CMulW; decide +kernel))
theorem mu5 {m : Mem} : oMul (.int P4) (.int T60) m = .ok (.int P5) m := oMul_int (.inr (by unfold CMulW; decide +kernel))
theorem P5_pos : 0 < P5 := by decide +kernel
theorem cut63 (xs : List D) : DL.cutD xs none (some 63) = xs.take 63 := by
  unfold DL.cutD
  have e1 : HT.sIx xs.length 0 none = 0 := rfl
  have e2 : HT.sIx xs.length xs.length (some 63) = min 63 xs.length := by
    unfold HT.sIx
    simp
    try omega
  rw [e1, e2]
  simp
theorem seed_ok (ca : CA) (ns : List Int) (k : Nat) (m : Mem) : ∃ v : Int, 0 ≤ v ∧ f__law_seed ca [.ro (ns.map D.int), nD k] m = .ok (.int v) m := by
  unfold f__law_seed runD b__law_seed
  have hlen : fLen [.ro (ns.map D.int)] m = .ok (.int ns.length) m := by simp [fLen, lenD, rget]
  by_cases hk : k < ns.length
  · obtain ⟨z, hz⟩ : ∃ z, ns[k]? = some z := ⟨ns[k], List.getElem?_eq_getElem hk⟩
    have hat : atI (ns.map D.int) (k : Int) = some (.int z) := by
      unfold atI ixN
      simp [hk]
      exact (List.getElem?_eq_some_iff.mp hz).2
    refine ⟨if z < 0 then -z else z, by split <;> omega, ?_⟩
    simp [startD, hlen, oIx_ro hat, fAbs, hk]
    rw [trunc_same rfl]
  · have go : ∃ (loc : DL.Loc) (v : Int), 0 ≤ v ∧ loc[2]? = some (some (.int v)) ∧ forS (gaName 3) (lp__law_seed_1 ca) (.st ((ns.map D.int).take 63)) [some (.ro (ns.map D.int)), some (nD k), some (.int (k * 7919 + 12345)), none] m = .nx loc m := by
      obtain ⟨l2, m2, e, w, v, hw⟩ := forD_all (ga := gaName 3) (body := lp__law_seed_1 ca) (I := fun _ l m' => m' = m ∧ ∃ (v : Int) (x3 : Option D), 0 ≤ v ∧ l = [some (.ro (ns.map D.int)), some (nD k), some (.int v), x3]) ((ns.map D.int).take 63)
        (loc := [some (.ro (ns.map D.int)), some (nD k), some (.int (k * 7919 + 12345)), none]) (m := m) (fun i d l m' hd hI => by
          obtain ⟨rfl, v, x3, hv, rfl⟩ := hI
          have hd2 : d ∈ ns.map D.int := List.mem_of_mem_take (List.mem_of_getElem? hd)
          obtain ⟨c, _, rfl⟩ := List.mem_map.mp hd2
          refine ⟨_, [some (.ro (ns.map D.int)), some (nD k), some (.int ((v * 1103 + c % 1000003 + 1) % 2147483647)), some (.int c)], m', rfl, .inl ?_, rfl, _, _, Int.emod_nonneg _ (by decide), rfl⟩
          unfold lp__law_seed_1
          simp [oMul_int (mulOk_r (show -(2 ^ 64) < (1103 : Int) ∧ (1103 : Int) < 2 ^ 64 by decide)), oMod_int]) ⟨rfl, _, none, by omega, rfl⟩
      subst w
      obtain ⟨x3, h0, rfl⟩ := hw
      exact ⟨_, v, h0, rfl, e⟩
    obtain ⟨loc, v, h0, hv, e⟩ := go
    refine ⟨v, h0, ?_⟩
    have hsl : oSl false (.ro (ns.map D.int)) none (some 63) m = .ok (.lst ((ns.map D.int).take 63)) m := by
      simp [oSl, rget, newL, cut63]
    have hv2 : ∀ m', eVar 2 loc m' = .ok (.int v) m' := fun m' => by simp [eVar, hv]
    simp [startD, hlen, hk, oMul_int (mulOk_r (show -(2 ^ 64) < (7919 : Int) ∧ (7919 : Int) < 2 ^ 64 by decide)), hsl]
    simp [e, hv2]
    rw [trunc_same rfl]
theorem box_ok (ca : CA) (ns : List Int) (k : Nat) (m : Mem) : ∃ B : Bag, f__law_box ca [.ro (ns.map D.int), nD k] m = .ok (.obj m.length) (m ++ [bagO B]) := by
  obtain ⟨v, h0, e⟩ := seed_ok ca ns k m
  unfold f__law_box runD b__law_box
  have hc : 0 ≤ v % 2147483629 ∧ v % 2147483629 < 2 ^ 32 := ⟨Int.emod_nonneg _ (by decide), by have := Int.emod_lt_of_pos v (show (0 : Int) < 2147483629 by decide); omega⟩
  have lim : (3 : Nat) ≤ sizeLine := by rw [sizeLine_eq]; decide
  by_cases h : v < T18
  · refine ⟨⟨0, 0, v % 2147483629, hc⟩, ?_⟩
    simp [startD, e, p18, h, oMod_int, newLs_obj, lim]
    simp [trunc, D.und]
  · refine ⟨⟨v % P5, 0, v % 2147483629, hc⟩, ?_⟩
    simp [startD, e, p18, h, p60, mu2, mu3, mu4, mu5, oMod_int P5_pos, oMod_int, newLs_obj, lim]
    simp [trunc, D.und]
end K18

/-! K18C: forms as data; _law_has, _law_least. -/
namespace K18
open PySem PySem.Spec PyProof.Rows L2 DL M18
/-- a list or a tuple of numbers -/
def sqD (b : Bool) (L : List Nat) : D := if b = true then .lst (L.map nD) else .tup (L.map nD)
@[simp] theorem sqD_t (L : List Nat) : sqD true L = .lst (L.map nD) := rfl
@[simp] theorem sqD_f (L : List Nat) : sqD false L = .tup (L.map nD) := rfl
def frmD (b c : Bool) (f : Frm) : D := .tup [sqD b f.first, nD f.s, nD f.q, sqD c f.late]
theorem smallR {i : Int} (h1 : 0 ≤ i) (h2 : i ≤ 1000000) : SmallR i := ⟨by omega, by omega⟩
theorem szL {n : Nat} (h : n ≤ 1000000) : n ≤ sizeLine := by rw [sizeLine_eq]; omega
theorem undN {L : List Nat} {N : Nat} : D.unds N (L.map nD) = true := unds_map (fun _ => by simp) L
@[simp] theorem und_sq {b : Bool} {L : List Nat} {N : Nat} : (sqD b L).und N = true := by cases b <;> simp [undN]
@[simp] theorem und_frm {b c : Bool} {f : Frm} {N : Nat} : (frmD b c f).und N = true := by simp [frmD]
theorem f0 {b c : Bool} {f : Frm} {m : Mem} : oIx (frmD b c f) (.int 0) m = .ok (sqD b f.first) m := oIx_tup rfl
theorem f1 {b c : Bool} {f : Frm} {m : Mem} : oIx (frmD b c f) (.int 1) m = .ok (nD f.s) m := oIx_tup rfl
theorem f2 {b c : Bool} {f : Frm} {m : Mem} : oIx (frmD b c f) (.int 2) m = .ok (nD f.q) m := oIx_tup rfl
theorem f3 {b c : Bool} {f : Frm} {m : Mem} : oIx (frmD b c f) (.int 3) m = .ok (sqD c f.late) m := oIx_tup rfl
theorem nums_sq {b : Bool} {L : List Nat} {m : Mem} : numsD m (sqD b L) = some (L.map fun n : Nat => (n : Int)) := by
  cases b
  · show (seqOf m (.tup (L.map nD))).bind intsD = _
    simp [seqOf]
  · show (seqOf m (.lst (L.map nD))).bind intsD = _
    simp [seqOf, rget, lget]
theorem keys_sq {b : Bool} {L : List Nat} {m : Mem} : keysOf m (sqD b L) = none := by cases b <;> rfl
theorem in_cast {n : Nat} {L : List Nat} : ((n : Int) ∈ L.map fun k : Nat => (k : Int)) ↔ n ∈ L := by
  rw [List.mem_map]
  constructor
  · rintro ⟨k, hk, e⟩
    have : k = n := by omega
    subst this; exact hk
  · intro h; exact ⟨n, h, rfl⟩
theorem oIn_sq {neg b : Bool} {n : Nat} {L : List Nat} {m : Mem} : oIn neg (nD n) (sqD b L) m = .ok (.bl (if neg then !decide (n ∈ L) else decide (n ∈ L))) m := by
  have : inD m (nD n) (sqD b L) = some (decide (n ∈ L)) := by
    unfold inD
    rw [keys_sq]
    show (numsD m (sqD b L)).map _ = _
    rw [nums_sq, Option.map_some]
    congr 1
    exact decide_eq_decide.mpr in_cast
  unfold oIn
  rw [this]
theorem nat_sub {a b : Nat} (h : b ≤ a) : (a : Int) - (b : Int) = ((a - b : Nat) : Int) := by omega
theorem has_ok (ca : CA) {b c : Bool} {f : Frm} (hq : 0 < f.q) (n : Nat) (m : Mem) : f__law_has ca [frmD b c f, nD n] m = .ok (.bl (has f n)) m := by
  unfold f__law_has runD b__law_has
  by_cases h : n < f.s
  · simp [startD, f1, f0, h, oIn_sq, has]
    rw [trunc_same rfl]
  · obtain ⟨k, hk⟩ : ∃ k, k = n - f.s := ⟨_, rfl⟩
    have e1 : (n : Int) - (f.s : Int) = (k : Int) := by omega
    have e2 : oMod (.int (k : Int)) (nD f.q) m = .ok (nD (k % f.q)) m := by
      rw [oMod_int (by omega)]
      rfl
    have eh : has f n = decide (k % f.q ∈ f.late) := by simp [has, h, hk]
    rw [eh]
    simp [startD, f1, f2, f3, h, e1, e2, oIn_sq]
    rw [trunc_same rfl]
end K18

/-! K18D: _law_least finds the least form. -/
namespace K18
open PySem PySem.Spec PyProof.Rows L2 DL M18
theorem bl_ix {L : List Bool} {k : Nat} {b : Bool} (h : L[k]? = some b) {m : Mem} : oIx (.lst (L.map D.bl)) (nD k) m = .ok (.bl b) m := by
  refine oIx_lst ?_
  have hk : k < L.length := (List.getElem?_eq_some_iff.mp h).1
  have e := (List.getElem?_eq_some_iff.mp h).2
  unfold atI ixN
  simp [hk, e]
theorem EncN : Enc nD (fun n : Nat => PyData.int n) 0 := ⟨fun _ => rfl, fun a b => by
  have := Enc.int.eq (a : Int) (b : Int)
  rw [this]
  exact decide_eq_decide.mpr ⟨fun h => by omega, fun h => by omega⟩, fun a => by simp [PyData.canLay0], fun a => by simp [PyData.depth]⟩
theorem oEq_nil {L : List Nat} {m : Mem} : oEq (.lst (L.map nD)) (.lst []) m = .ok (.bl (decide (L = []))) m := by
  have := EncN.lst.oEq (m := m) (by decide) L []
  simpa using this
abbrev marks (p : Pr) (n : Nat) : D := .lst ((List.range n).map fun k => .bl (p k))
theorem mark_ix {p : Pr} {n k : Nat} (h : k < n) {m : Mem} : oIx (marks p n) (nD k) m = .ok (.bl (p k)) m := by
  have := bl_ix (L := (List.range n).map p) (k := k) (b := p k) (by simp [h]) (m := m)
  rw [List.map_map] at this
  exact this
section
variable (ca : CA) {p : Pr} {s q N : Nat} {fd : D} {m : Mem} (hU : Und m) (hf1 : oIx fd (.int 1) m = .ok (nD s) m) (hf2 : ∀ m, oIx fd (.int 2) m = .ok (nD q) m)
include hU hf2
/-- the loop over the parts -/
theorem parts_ok (hq : 0 < q) (hper : Per p s q) (hb : s + 2 * q ≤ 100000) :
    ∃ (P : Nat) (x5 x6 x7 : Option D), Per p s P ∧ P ∣ q ∧ (∀ r, r ∣ q → Per p s r → P ≤ r) ∧
      forS (gaName 5) (lp__law_least_1 ca) (.st (rangeD (q : Int) (-1) q)) [some fd, some (nD s), some (marks p (s + 2 * q)), none, some (nD q), none, none, none, none, none, none] m = .nx [some fd, some (nD s), some (marks p (s + 2 * q)), none, some (nD P), x5, x6, x7, none, none, none] m := by
  rw [rangeD_down]
  obtain ⟨l2, m2, e, w⟩ := forD_all (ga := gaName 5) (body := lp__law_least_1 ca) (I := fun i l m' => m' = m ∧ ∃ (P : Nat) (x5 x6 x7 : Option D), Per p s P ∧ P ∣ q ∧ (∀ r, r ∣ q → Per p s r → q - i < r → P ≤ r) ∧
      l = [some fd, some (nD s), some (marks p (s + 2 * q)), none, some (nD P), x5, x6, x7, none, none, none]) ((List.range q).map fun i => nD (q - i)) (loc := [some fd, some (nD s), some (marks p (s + 2 * q)), none, some (nD q), none, none, none, none, none, none]) (m := m)
    (fun i d l m' hd hI => by
      obtain ⟨rfl, P, x5, x6, x7, h1, h2, h3, rfl⟩ := hI
      rw [List.getElem?_map, Option.map_eq_some_iff] at hd
      obtain ⟨j, hj, rfl⟩ := hd
      have hjq : i < q ∧ j = i := by
        have := List.getElem?_eq_some_iff.mp hj
        obtain ⟨a, b⟩ := this
        simp at a b
        exact ⟨a, b.symm⟩
      obtain ⟨hiq, rfl⟩ := hjq
      obtain ⟨t, ht⟩ : ∃ t, t = q - j := ⟨_, rfl⟩
      rw [← ht]
      have ht0 : 0 < t := by omega
      have em : oMod (nD q) (nD t) m' = .ok (nD (q % t)) m' := by rw [oMod_int (by omega)]; rfl
      unfold lp__law_least_1
      by_cases hd : q % t = 0
      · have dv : t ∣ q := Nat.dvd_of_mod_eq_zero hd
        -- the list of the unlike
        have lc : eLc false (eArgs range2 (aCons (eVar 1) (aCons (DL.e2 (oAdd false) (eVar 1) (DL.e2 oIx (eVar 0) (eC (.int 2)))) aNil))) (gaName 7) (tBl (DL.e2 oNe (DL.e2 oIx (eVar 2) (eVar 7)) (DL.e2 oIx (eVar 2) (DL.e2 (oAdd false) (eVar 7) (eVar 5))))) (eVar 7) [7]
            [some fd, some (nD s), some (marks p (s + 2 * q)), none, some (nD P), some (nD t), x6, x7, none, none, none] m' = .ok (.lst (((List.range q).filter fun k => !decide (p (s + k) = p (s + k + t))).map fun k => nD (s + k))) m' := by
          refine lcA (g := fun k => nD (s + k)) (p := fun k => !decide (p (s + k) = p (s + k + t))) (f := fun k => nD (s + k)) (s := .st ((List.range q).map fun i => nD (s + i))) ?_ srcSt (by simp; exact szL (by omega)) ?_ ?_ (fun _ _ _ => by simp) hU
          · have e1 : ((s : Int) + (q : Int) - (s : Int)).toNat = q := by omega
            simp [hf2]
            rw [range2_ok (smallR (by omega) (by omega)) (smallR (by omega) (by omega)), e1, rangeD_from]
          · intro a ha x
            have ha := List.mem_range.mp ha
            have hle := Nat.le_of_dvd hq dv
            obtain ⟨u, hu⟩ : ∃ u, u = s + a := ⟨_, rfl⟩
            obtain ⟨u2, hu2⟩ : ∃ u2, u2 = u + t := ⟨_, rfl⟩
            have e2 : ((u : Int) + (t : Int)) = (u2 : Int) := by omega
            rw [← hu, ← hu2]
            simp [wipeD, mark_ix (p := p) (n := s + 2 * q) (k := u) (by omega), e2, mark_ix (p := p) (n := s + 2 * q) (k := u2) (by omega)]
          · intro a ha _ x
            simp [wipeD]
        have eqn : oEq (.lst (((List.range q).filter fun k => !decide (p (s + k) = p (s + k + t))).map fun k => nD (s + k))) (.lst []) m' = .ok (.bl (decide (((List.range q).filter fun k => !decide (p (s + k) = p (s + k + t))) = []))) m' := by
          have := oEq_nil (L := ((List.range q).filter fun k => !decide (p (s + k) = p (s + k + t))).map fun k => s + k) (m := m')
          rw [List.map_map] at this
          simp only [List.map_eq_nil_iff] at this
          exact this
        obtain ⟨U, hUU⟩ : ∃ U, U = (List.range q).filter fun k => !decide (p (s + k) = p (s + k + t)) := ⟨_, rfl⟩
        rw [← hUU] at lc eqn
        by_cases hn : U = []
        · have hp : Per p s t := per_of hper ht0 fun n h1 h2 => by
            have := List.filter_eq_nil_iff.mp (hUU.symm.trans hn) (n - s) (List.mem_range.mpr (by omega))
            simp only [Bool.not_eq_true', decide_eq_false_iff_not, Classical.not_not] at this
            rw [show s + (n - s) = n by omega] at this
            exact this.symm
          refine ⟨_, [some fd, some (nD s), some (marks p (s + 2 * q)), none, some (nD t), some (nD t), some (.lst (U.map fun k => nD (s + k))), x7, none, none, none], m', rfl, .inl ?_, rfl, t, _, _, _, hp, dv, fun r hr1 hr2 hr3 => ?_, rfl⟩
          · have dn : decide (U = []) = true := decide_eq_true hn
            rw [dn] at eqn
            simp [hf2, em, hd, lc, eqn, newLs_lst (show ([] : List D).length ≤ sizeLine from Nat.zero_le _)]
          · by_cases e : q - j = r
            · omega
            · omega
        · refine ⟨_, [some fd, some (nD s), some (marks p (s + 2 * q)), none, some (nD P), some (nD t), some (.lst (U.map fun k => nD (s + k))), x7, none, none, none], m', rfl, .inl ?_, rfl, P, _, _, _, h1, h2, fun r hr1 hr2 hr3 => ?_, rfl⟩
          · have dn : decide (U = []) = false := decide_eq_false hn
            rw [dn] at eqn
            simp [hf2, em, hd, lc, eqn, newLs_lst (show ([] : List D).length ≤ sizeLine from Nat.zero_le _)]
          · by_cases e : r = t
            · subst e
              refine absurd ?_ hn
              rw [hUU, List.filter_eq_nil_iff]
              intro a ha
              simp [hr2.2 (s + a) (by omega)]
            · exact h3 r hr1 hr2 (by omega)
      · refine ⟨_, [some fd, some (nD s), some (marks p (s + 2 * q)), none, some (nD P), some (nD t), x6, x7, none, none, none], m', rfl, .inl ?_, rfl, P, _, _, _, h1, h2, fun r hr1 hr2 hr3 => ?_, rfl⟩
        · have hd2 : ¬ ((q : Int) % (t : Int)) = 0 := by omega
          simp [hf2, em, hd2]
        · by_cases e : r = t
          · subst e; exact absurd (Nat.mod_eq_zero_of_dvd hr1) hd
          · exact h3 r hr1 hr2 (by omega)) ⟨rfl, q, none, none, none, hper, Nat.dvd_refl _, fun r hr1 hr2 hr3 => by have := Nat.le_of_dvd hq hr1; omega, rfl⟩
  obtain ⟨rfl, P, x5, x6, x7, h1, h2, h3, rfl⟩ := w
  refine ⟨P, x5, x6, x7, h1, h2, fun r a b => h3 r a b ?_, e⟩
  have := b.1
  simp
  omega
end
end K18

/-! K18E: _law_least, its end. -/
namespace K18
open PySem PySem.Spec PyProof.Rows L2 DL M18
/-- a form of two tuples -/
abbrev lstD (p : Pr) (s q : Nat) : D := frmD false false (formOf p s q)
section
variable (ca : CA) {p : Pr} {s q N : Nat} {fd : D} {m : Mem} {x5 x6 x7 : Option D}
theorem back_loop {P : Nat} (hP : P ≤ q) : ∀ (S fuel : Nat), S < fuel → S ≤ s → Per p S P → ∃ S', S' ≤ S ∧ Per p S' P ∧ (S' = 0 ∨ p (S' - 1 + P) ≠ p (S' - 1)) ∧
    whileD (tAnd' (tBl (e2 oGt (eVar 1) (eC (.int 0)))) (tBl (e2 oEq (e2 oIx (eVar 2) (e2 oSub (eVar 1) (eC (.int 1)))) (e2 oIx (eVar 2) (e2 (oAdd false) (e2 oSub (eVar 1) (eC (.int 1))) (eVar 4)))))) (lp__law_least_2 ca) fuel
      [some fd, some (nD S), some (marks p (s + 2 * q)), none, some (nD P), x5, x6, x7, none, none, none] m = .nx [some fd, some (nD S'), some (marks p (s + 2 * q)), none, some (nD P), x5, x6, x7, none, none, none] m
  | 0, fuel, hf, hs, hp => by
    obtain ⟨k, rfl⟩ : ∃ k, fuel = k + 1 := ⟨fuel - 1, by omega⟩
    refine ⟨0, Nat.le_refl _, hp, .inl rfl, ?_⟩
    unfold whileD
    simp
    rfl
  | S + 1, fuel, hf, hs, hp => by
    obtain ⟨k, rfl⟩ : ∃ k, fuel = k + 1 := ⟨fuel - 1, by omega⟩
    have e1 : ((S + 1 : Nat) : Int) - 1 = (S : Int) := by omega
    have hc : (tAnd' (tBl (e2 oGt (eVar 1) (eC (.int 0)))) (tBl (e2 oEq (e2 oIx (eVar 2) (e2 oSub (eVar 1) (eC (.int 1)))) (e2 oIx (eVar 2) (e2 (oAdd false) (e2 oSub (eVar 1) (eC (.int 1))) (eVar 4)))))) [some fd, some (nD (S + 1)), some (marks p (s + 2 * q)), none, some (nD P), x5, x6, x7, none, none, none] m =
        .ok (decide (p S = p (S + P))) m := by
      obtain ⟨S1, h1⟩ : ∃ S1, S1 = S + 1 := ⟨_, rfl⟩
      obtain ⟨S2, h2⟩ : ∃ S2, S2 = S + P := ⟨_, rfl⟩
      have e1 : (S1 : Int) - 1 = (S : Int) := by omega
      have e2 : (S : Int) + (P : Int) = (S2 : Int) := by omega
      have e3 : 0 < S1 := by omega
      rw [← h1, ← h2]
      simp [e1, e2, e3, mark_ix (p := p) (n := s + 2 * q) (k := S) (by omega), mark_ix (p := p) (n := s + 2 * q) (k := S2) (by omega)]
    unfold whileD
    rw [hc]
    by_cases h : p S = p (S + P)
    · obtain ⟨S', a1, a2, a3, a4⟩ := back_loop hP S k (by omega) (by omega) (hp.down h.symm)
      refine ⟨S', by omega, a2, a3, ?_⟩
      have eb : lp__law_least_2 ca m.length [some fd, some (nD (S + 1)), some (marks p (s + 2 * q)), none, some (nD P), x5, x6, x7, none, none, none] m = .nx [some fd, some (nD S), some (marks p (s + 2 * q)), none, some (nD P), x5, x6, x7, none, none, none] m := by
        unfold lp__law_least_2
        obtain ⟨S1, h1⟩ : ∃ S1, S1 = S + 1 := ⟨_, rfl⟩
        have e1 : (S1 : Int) - 1 = (S : Int) := by omega
        rw [← h1]
        simp [e1]
      rw [decide_eq_true h]
      simp only [ofR, if_true]
      rw [eb]
      exact a4
    · refine ⟨S + 1, Nat.le_refl _, hp, .inr (fun z => h z.symm), ?_⟩
      rw [decide_eq_false h]
      rfl
/-- the form told is the least one -/
theorem least_ok {b c : Bool} {f : Frm} (h : Ok f) (hb : f.s + 2 * f.q ≤ 100000) (m : Mem) (hU : Und m) : ∃ s' q', Lst (has f) s' q' ∧ s' ≤ f.s ∧ q' ∣ f.q ∧ f__law_least ca [frmD b c f] m = .ok (lstD (has f) s' q') m := by
  have hq := h.q0
  have hper := has_per h
  obtain ⟨P, x5, x6, x7, p1, p2, p3, p4⟩ := parts_ok ca (p := has f) (s := f.s) (q := f.q) (fd := frmD b c f) hU (fun m => f2) hq hper hb
  have hPq := Nat.le_of_dvd hq p2
  obtain ⟨S, s1, s2, s3, s4⟩ := back_loop ca (p := has f) (s := f.s) (q := f.q) (fd := frmD b c f) (m := m) (x5 := x5) (x6 := x6) (x7 := x7) hPq f.s FU (by unfold FU; omega) (Nat.le_refl _) p1
  have few := few_of hper p1 p3
  refine ⟨S, P, ⟨s2, few, low_of s3⟩, s1, p2, ?_⟩
  have lc1 : eLc false (eArgs range1 (aCons (DL.e2 (oAdd false) (eVar 1) (DL.e2 oMul (eC (.int 2)) (DL.e2 oIx (eVar 0) (eC (.int 2))))) aNil)) (gaName 3) tT (eCall (callD 2 (f__law_has ca)) (aCons (eVar 0) (aCons (eVar 3) aNil))) [3]
      [some (frmD b c f), some (nD f.s), none, none, none, none, none, none, none, none, none] m = .ok (marks (has f) (f.s + 2 * f.q)) m := by
    refine lcT (g := nD) (f := fun k => .bl (has f k)) (i := 3) (te := eCall (callD 2 (f__law_has ca)) (aCons (eVar 0) (aCons (eVar 3) aNil))) (vs := [3])
      (fi := eArgs range1 (aCons (DL.e2 (oAdd false) (eVar 1) (DL.e2 oMul (eC (.int 2)) (DL.e2 oIx (eVar 0) (eC (.int 2))))) aNil))
      (loc := [some (frmD b c f), some (nD f.s), none, none, none, none, none, none, none, none, none]) (m0 := m) (m := m) (s := .st ((List.range (f.s + 2 * f.q)).map nD)) (L := List.range (f.s + 2 * f.q)) (by
        have e1 : ((f.s : Int) + 2 * (f.q : Int)).toNat = f.s + 2 * f.q := by omega
        simp [f2, oMul_int (mulOk_l (show -(2 ^ 64) < (2 : Int) ∧ (2 : Int) < 2 ^ 64 by decide))]
        rw [range1_ok (smallR (by omega) (by omega)), e1, rangeD_nat]) srcSt (by simp; exact szL (by omega))
      (fun a _ x => by simp [wipeD, has_ok ca hq]) (fun _ _ => by simp) hU
  have m2 : ∀ {k : Nat}, k < f.s + 2 * f.q → ∀ m, oIx (marks (has f) (f.s + 2 * f.q)) (nD k) m = .ok (.bl (has f k)) m := fun h m => mark_ix h
  have lc2 : ∀ y10 : Option D, eLc false (eArgs range1 (aCons (eVar 1) aNil)) (gaName 3) (tTru (DL.e2 oIx (eVar 2) (eVar 3))) (eVar 3) [3] [some (frmD b c f), some (nD S), some (marks (has f) (f.s + 2 * f.q)), none, some (nD P), x5, x6, x7, none, none, y10] m = .ok (.lst ((firsts (has f) S).map nD)) m := by
    intro y10
    refine lcA (g := nD) (p := has f) (f := nD) (s := .st ((List.range S).map nD)) ?_ srcSt (by simp; exact szL (by omega)) (fun a ha x => ?_) (fun a _ _ x => by simp [wipeD]) (fun _ _ _ => by simp) hU
    · simp
      rw [range1_ok (smallR (by omega) (by omega)), Int.toNat_natCast, rangeD_nat]
    · have ha := List.mem_range.mp ha
      simp [wipeD, m2 (show a < f.s + 2 * f.q by omega)]
  have lc3 : ∀ y8 : Option D, eLc false (eArgs range1 (aCons (eVar 4) aNil)) (gaName 10) (tTru (DL.e2 oIx (eVar 2) (DL.e2 (oAdd false) (eVar 1) (eVar 10)))) (eVar 10) [10] [some (frmD b c f), some (nD S), some (marks (has f) (f.s + 2 * f.q)), none, some (nD P), x5, x6, x7, y8, none, none] m = .ok (.lst ((lates (has f) S P).map nD)) m := by
    intro y8
    refine lcA (g := nD) (p := fun i => has f (S + i)) (f := nD) (s := .st ((List.range P).map nD)) ?_ srcSt (by simp; exact szL (by omega)) (fun a ha x => ?_) (fun a _ _ x => by simp [wipeD]) (fun _ _ _ => by simp) hU
    · simp
      rw [range1_ok (smallR (by omega) (by omega)), Int.toNat_natCast, rangeD_nat]
    · have ha := List.mem_range.mp ha
      obtain ⟨u, hu⟩ : ∃ u, u = S + a := ⟨_, rfl⟩
      have e1 : (S : Int) + (a : Int) = (u : Int) := by omega
      rw [← hu]
      simp [wipeD, e1, m2 (show u < f.s + 2 * f.q by omega)]
  have rn : rangeN [nD f.q, .int 0, .int (-1)] m = .ok (.st (rangeD (f.q : Int) (-1) f.q)) m := by
    rw [rangeN_ok (smallR (by omega) (by omega)) (smallR (by omega) (by omega))]
    simp
  unfold f__law_least runD b__law_least
  have wh : ∀ loc m, sWhile FU (tAnd' (tBl (DL.e2 oGt (eVar 1) (eC (.int 0)))) (tBl (DL.e2 oEq (DL.e2 oIx (eVar 2) (DL.e2 oSub (eVar 1) (eC (.int 1)))) (DL.e2 oIx (eVar 2) (DL.e2 (oAdd false) (DL.e2 oSub (eVar 1) (eC (.int 1))) (eVar 4)))))) (lp__law_least_2 ca) m.length loc m =
    whileD (tAnd' (tBl (DL.e2 oGt (eVar 1) (eC (.int 0)))) (tBl (DL.e2 oEq (DL.e2 oIx (eVar 2) (DL.e2 oSub (eVar 1) (eC (.int 1)))) (DL.e2 oIx (eVar 2) (DL.e2 (oAdd false) (DL.e2 oSub (eVar 1) (eC (.int 1))) (eVar 4)))))) (lp__law_least_2 ca) FU loc m := fun _ _ => rfl
  simp only [startD, List.length, Nat.sub_self, List.replicate, List.map, List.append]
  have z4 : (4 : Nat) ≤ sizeLine := szL (by decide)
  simp [f1, f2, oNeg, lc1, rn, p4, wh, s4, lc2, lc3, newT_tup, z4]
  rw [trunc_same rfl]
  rfl
end
end K18

/-! K18F: sequences handed to the class; numbers; _are_unlike_below. -/
namespace K18
open PySem PySem.Spec PyProof.Rows L2 DL M18
/-- d is a list or a tuple of these -/
def SqIs (m : Mem) (d : D) (ds : List D) : Prop := d = .lst ds ∨ d = .tup ds ∨ ∃ n, d = .obj n ∧ m[n]? = some (.lst ds)
section
variable {m : Mem} {d : D} {ds : List D}
theorem SqIs.sq {b : Bool} {L : List Nat} : SqIs m (sqD b L) (L.map nD) := by cases b <;> simp [SqIs]
theorem SqIs.app {x : Mem} (h : SqIs m d ds) : SqIs (m ++ x) d ds := by
  rcases h with h | h | ⟨n, h, e⟩
  · exact .inl h
  · exact .inr (.inl h)
  · exact .inr (.inr ⟨n, h, get_left e⟩)
theorem SqIs.iter (h : SqIs m d ds) : ∃ s, iterD d m = .ok s m ∧ SrcIs s m ds := by
  rcases h with h | h | ⟨n, h, e⟩
  · subst h; exact ⟨_, rfl, .inl rfl⟩
  · subst h; exact ⟨_, rfl, .inl rfl⟩
  · subst h; exact ⟨_, iterD_obj e, .inr ⟨n, rfl, e⟩⟩
theorem SqIs.seq (h : SqIs m d ds) : seqOf m d = some ds := by
  rcases h with h | h | ⟨n, h, e⟩
  · subst h; rfl
  · subst h; rfl
  · subst h; simp [seqOf, rget, lget, e]
theorem SqIs.nums (h : SqIs m d ds) : numsD m d = intsD ds := by unfold numsD; rw [h.seq]; rfl
theorem SqIs.len (h : SqIs m d ds) : fLen [d] m = .ok (.int ds.length) m := by
  rcases h with h | h | ⟨n, h, e⟩
  · subst h; simp [fLen, lenD, rget, lget]
  · subst h; simp [fLen, lenD]
  · subst h; simp [fLen, lenD, rget, lget, e]
theorem SqIs.isi (h : SqIs m d ds) : oIsi (kitT ["list", "tuple"]) d m = .ok (.bl true) m := by
  rcases h with h | h | ⟨n, h, e⟩
  · subst h; rfl
  · subst h; rfl
  · subst h
    unfold oIsi tyD
    simp only [e]
    rfl
end
/-- a number below M -/
def okD (M : Nat) : D → Bool
  | .int i => decide (0 ≤ i ∧ i < M)
  | _ => false
def isN : D → Bool
  | .int i => decide (0 ≤ i)
  | _ => false
/-- plain data of a known type -/
def PlD : D → Prop
  | .obj _ => False
  | .ins _ _ _ => False
  | .cls _ => False
  | .ty _ => False
  | .exn _ _ _ _ => False
  | .ro _ => False
  | _ => True
theorem num_ok (ca : CA) {d : D} (h : PlD d) (m : Mem) : f__is_number ca [d] m = .ok (.bl (isN d)) m := by
  unfold f__is_number runD b__is_number
  cases d with
  | int i =>
    have e1 : oIsi (kitT ["int"]) (.int i) m = .ok (.bl true) m := rfl
    have e2 : oIsi (kitT ["bool"]) (.int i) m = .ok (.bl false) m := rfl
    simp [startD, e1, e2, isN]
    rw [trunc_same rfl]
  | bl b =>
    have e1 : oIsi (kitT ["int"]) (.bl b) m = .ok (.bl true) m := rfl
    have e2 : oIsi (kitT ["bool"]) (.bl b) m = .ok (.bl true) m := rfl
    simp [startD, e1, e2, isN]
    rw [trunc_same rfl]
  | non =>
    have e1 : oIsi (kitT ["int"]) .non m = .ok (.bl false) m := rfl
    simp [startD, e1, isN]
    rw [trunc_same rfl]
  | str x =>
    have e1 : oIsi (kitT ["int"]) (.str x) m = .ok (.bl false) m := rfl
    simp [startD, e1, isN]
    rw [trunc_same rfl]
  | tup x =>
    have e1 : oIsi (kitT ["int"]) (.tup x) m = .ok (.bl false) m := rfl
    simp [startD, e1, isN]
    rw [trunc_same rfl]
  | lst x =>
    have e1 : oIsi (kitT ["int"]) (.lst x) m = .ok (.bl false) m := rfl
    simp [startD, e1, isN]
    rw [trunc_same rfl]
  | dic x y =>
    have e1 : oIsi (kitT ["int"]) (.dic x y) m = .ok (.bl false) m := rfl
    simp [startD, e1, isN]
    rw [trunc_same rfl]
  | _ => exact h.elim
theorem lnum_ok (ca : CA) (n : Nat) (m : Mem) : f__law_is_number ca [nD n] m = .ok (.bl true) m := by
  unfold f__law_is_number runD b__law_is_number
  have e1 : oIsi (kitT ["int"]) (nD n) m = .ok (.bl true) m := rfl
  have e2 : oIsi (kitT ["bool"]) (nD n) m = .ok (.bl false) m := rfl
  simp [startD, e1, e2]
  rw [trunc_same rfl]
section
variable (ca : CA) {m : Mem} {d : D} {ds : List D} {M : Nat}
theorem below_lc (hU : Und m) (h : SqIs m d ds) (hp : ∀ x ∈ ds, PlD x) (hz : ds.length ≤ 1000) : eLc false (bnd (eVar 0) fun d _ m => iterD d m) (gaName 2) tT (eAnd (eCall (callD 1 (f__is_number ca)) (aCons (eVar 2) aNil)) (e2 oLt (eVar 2) (eVar 1))) [2] [some d, some (nD M), none] m =
    .ok (.lst (ds.map fun x => .bl (okD M x))) m := by
  obtain ⟨s, e, hs⟩ := h.iter
  refine lcT (g := id) (L := ds) (s := s) (by simp [e]) (by simpa using hs) (szL (by omega)) (fun a ha x => ?_) (fun _ _ => by simp) hU
  have hn := num_ok ca (hp a ha)
  have h2 : isN a = true → oLt a (nD M) (m ++ [x]) = .ok (.bl (okD M a)) (m ++ [x]) := by
    intro hi
    cases a with
    | int i =>
      have : 0 ≤ i := by simpa [isN] using hi
      simp [okD, this]
    | _ => cases hi
  cases hb : isN a with
  | true =>
    have h2 := h2 hb
    simp [wipeD, hn, hb, h2]
  | false =>
    have : okD M a = false := by
      cases a with
      | int i =>
        have : ¬ 0 ≤ i := by simpa [isN] using hb
        simp [okD, this]
      | _ => rfl
    simp [wipeD, hn, hb, this]
/-- numbers below M, unlike or not -/
theorem unlike_yes (hU : Und m) {L : List Nat} (h : SqIs m d (L.map nD)) (hM : ∀ n ∈ L, n < M) (hz : L.length ≤ 1000) : f__are_unlike_below ca [d, nD M] m = .ok (.bl (decide L.Nodup)) m := by
  have lc := below_lc ca (M := M) hU h (fun x hx => by obtain ⟨n, _, rfl⟩ := List.mem_map.mp hx; trivial) (by simpa using hz)
  have all : fAll [.lst ((L.map nD).map fun x => .bl (okD M x))] m = .ok (.bl true) m := by
    have e : (L.map nD).map (fun x => D.bl (okD M x)) = (L.map fun _ => true).map D.bl := by
      rw [List.map_map, List.map_map]
      apply List.map_congr_left
      intro n hn
      have := hM n hn
      simp [okD, this]
    rw [e]
    simp only [fAll, rget, lget, Option.bind_some, blsD_map]
    congr 2
    simp
  have ls : oLenSet d m = .ok (.int (uniqI (L.map fun n : Nat => (n : Int))).length) m := by
    unfold oLenSet
    rw [h.nums, intsD_nat]
    simp [hz]
  have nd : decide ((uniqI (L.map fun n : Nat => (n : Int))).length = L.length) = decide L.Nodup := by
    refine decide_eq_decide.mpr ?_
    have := uniq_len (ns := L.map fun n : Nat => (n : Int))
    rw [List.length_map] at this
    rw [this]
    constructor
    · intro h
      exact List.Pairwise.of_map _ (fun a b hne e => hne (by rw [e])) h
    · intro h
      exact List.Pairwise.map _ (fun a b hne e => hne (by omega)) h
  unfold f__are_unlike_below runD b__are_unlike_below
  have hl := h.len
  rw [List.length_map] at hl
  have hi := h.isi
  generalize (L.map nD).map (fun x => D.bl (okD M x)) = Z at lc all
  simp [startD, hi, lc, all, ls, hl]
  rw [trunc_same rfl, ← nd]
  congr 2
  exact decide_eq_decide.mpr ⟨fun h => by omega, fun h => by omega⟩
theorem unlike_no (hU : Und m) (h : SqIs m d ds) (hp : ∀ x ∈ ds, PlD x) (hz : ds.length ≤ 1000) {x : D} (hx : x ∈ ds) (hno : okD M x = false) : f__are_unlike_below ca [d, nD M] m = .ok (.bl false) m := by
  have lc := below_lc ca (M := M) hU h hp hz
  have all : fAll [.lst (ds.map fun x => .bl (okD M x))] m = .ok (.bl false) m := by
    have e : ds.map (fun x => D.bl (okD M x)) = (ds.map (okD M)).map D.bl := by rw [List.map_map]; rfl
    rw [e]
    simp only [fAll, rget, lget, Option.bind_some, blsD_map]
    congr 2
    rw [List.all_eq_false]
    exact ⟨false, List.mem_map.mpr ⟨x, hx, hno⟩, by simp⟩
  unfold f__are_unlike_below runD b__are_unlike_below
  simp [startD, h.isi, lc, all]
  rw [trunc_same rfl]
theorem unlike_not (hd : oIsi (kitT ["list", "tuple"]) d m = .ok (.bl false) m) : f__are_unlike_below ca [d, nD M] m = .ok (.bl false) m := by
  unfold f__are_unlike_below runD b__are_unlike_below
  simp [startD, hd]
  rw [trunc_same rfl]
end
end K18

/-! K18G: _least_period. -/
namespace K18
open PySem PySem.Spec PyProof.Rows L2 DL M18
abbrev castL (L : List Nat) : List Int := L.map fun n : Nat => (n : Int)
theorem cast_perm {A B : List Nat} : (castL A).Perm (castL B) ↔ A.Perm B := by
  constructor
  · intro h
    have h2 := h.map Int.toNat
    rw [List.map_map, List.map_map] at h2
    have e : ∀ L : List Nat, L.map (Int.toNat ∘ fun n : Nat => (n : Int)) = L := fun L => by
      have : (Int.toNat ∘ fun n : Nat => (n : Int)) = id := funext fun n => Int.toNat_natCast n
      rw [this, List.map_id]
    rwa [e, e] at h2
  · exact fun h => h.map _
theorem srt_eq {A B : List Nat} : srtI (castL A) = srtI (castL B) ↔ A.Perm B := by
  rw [← cast_perm]
  constructor
  · intro h
    exact (srtI_perm _).symm.trans (h ▸ srtI_perm _)
  · intro h
    exact srtI_of ((srtI_perm _).trans h) (srtI_asc _)
theorem stepN_yes {L : List Nat} {q k : Nat} (hk : 0 < k) (t : TurnOk L q k) : stepN L q k = q / k := by
  obtain ⟨j, rfl⟩ : ∃ j, k = j + 1 := ⟨k - 1, by omega⟩
  unfold stepN
  rw [if_pos t]
theorem stepN_no {L : List Nat} {q k : Nat} (hk : 0 < k) (t : ¬ TurnOk L q k) : stepN L q k = stepN L q (k - 1) := by
  obtain ⟨j, rfl⟩ : ∃ j, k = j + 1 := ⟨k - 1, by omega⟩
  conv => lhs; unfold stepN
  rw [if_neg t]
  rfl
section
variable (ca : CA) {m : Mem} {d : D} {L : List Nat} {q : Nat}
theorem sorted_sq (h : SqIs m d (L.map nD)) : fSorted false [d] m = .ok (.lst ((srtI (castL L)).map D.int)) m := by
  unfold fSorted
  simp only [h.nums, intsD_nat]
  rfl
theorem period_ok (hU : Und m) (h : SqIs m d (L.map nD)) (hq : 0 < q) (hz : L.length ≤ 1000) (hz2 : q ≤ 100000) : f__least_period ca [d, nD q] m = .ok (nD (stepN L q L.length)) m := by
  have hlen := h.len
  rw [List.length_map] at hlen
  obtain ⟨n, hn⟩ : ∃ n, n = L.length := ⟨_, rfl⟩
  have loop := forD_run (ga := gaName 2) (body := lp__least_period_1 ca) (I := fun i l m' => m' = m ∧ stepN L q n = stepN L q (n - i) ∧ ∃ x2 x3 x4 : Option D, l = [some d, some (nD q), x2, x3, x4])
    (B := fun _ _ => False) (T := fun r m' => r = nD (stepN L q n) ∧ m' = m) ((List.range n).map fun i => nD (n - i)) 0 [some d, some (nD q), none, none, none] m
    (fun i dd l m' hd hI => by
      obtain ⟨rfl, hst, x2, x3, x4, rfl⟩ := hI
      rw [Nat.zero_add] at hst ⊢
      rw [List.getElem?_map, Option.map_eq_some_iff] at hd
      obtain ⟨j, hj, rfl⟩ := hd
      have hjq : i < n ∧ j = i := by
        obtain ⟨a, b⟩ := List.getElem?_eq_some_iff.mp hj
        simp at a b
        exact ⟨a, b.symm⟩
      obtain ⟨hin, rfl⟩ := hjq
      obtain ⟨k, hk⟩ : ∃ k, k = n - j := ⟨_, rfl⟩
      rw [← hk] at hst ⊢
      have hk0 : 0 < k := by omega
      have ej : n - (j + 1) = k - 1 := by omega
      refine ⟨_, rfl, ?_⟩
      have em1 : oMod (nD n) (nD k) m' = .ok (nD (n % k)) m' := by rw [oMod_int (by omega)]; rfl
      have em2 : oMod (nD q) (nD k) m' = .ok (nD (q % k)) m' := by rw [oMod_int (by omega)]; rfl
      rw [← hn] at hlen
      unfold lp__least_period_1
      by_cases c1 : n % k = 0
      · by_cases c2 : q % k = 0
        · obtain ⟨t, ht⟩ : ∃ t, t = q / k := ⟨_, rfl⟩
          have ed : oFdiv (nD q) (nD k) m' = .ok (nD t) m' := by rw [oFdiv_int (divOk (by omega) (by omega)), ht]; rfl
          obtain ⟨src, es, hs⟩ := h.iter
          have lc : eLc false (bnd (eVar 0) fun d _ m => iterD d m) (gaName 4) tT (e2 oMod (e2 (oAdd false) (eVar 4) (eVar 3)) (eVar 1)) [4] [some d, some (nD q), some (nD k), some (nD t), x4] m' = .ok (.lst ((L.map fun o => (o + t) % q).map nD)) m' := by
            rw [List.map_map]
            refine lcT (g := nD) (L := L) (s := src) (by simp [es]) hs (szL (by omega)) (fun a ha x => ?_) (fun _ _ => by simp) hU
            obtain ⟨u, hu⟩ : ∃ u, u = a + t := ⟨_, rfl⟩
            have e3 : (a : Int) + (t : Int) = (u : Int) := by omega
            have e4 : ∀ m, oMod (nD u) (nD q) m = .ok (nD (u % q)) m := fun m => by rw [oMod_int (by omega)]; rfl
            show _ = R.ok (nD ((a + t) % q)) _
            rw [← hu]
            simp [wipeD, e3, e4]
          have s1 := sorted_sq (m := m') (d := .lst ((L.map fun o => (o + t) % q).map nD)) (L := L.map fun o => (o + t) % q) (.inl rfl)
          have s2 := sorted_sq h
          have eq := Enc.int.lst.oEq (m := m') (by decide) (srtI (castL (L.map fun o => (o + t) % q))) (srtI (castL L))
          have dec : decide (srtI (castL (L.map fun o => (o + t) % q)) = srtI (castL L)) = decide ((L.map fun o => (o + t) % q).Perm L) := decide_eq_decide.mpr srt_eq
          rw [dec] at eq
          generalize (L.map fun o => (o + t) % q).map nD = Z at lc s1
          generalize srtI (castL (L.map fun o => (o + t) % q)) = Z1 at s1 eq
          generalize srtI (castL L) = Z2 at s2 eq
          by_cases c3 : (L.map fun o => (o + t) % q).Perm L
          · have tk : TurnOk L q k := ⟨hn ▸ c1, c2, ht ▸ c3⟩
            rw [decide_eq_true c3] at eq
            refine .inr (.inr ⟨nD t, m', ?_, by rw [hst, stepN_yes hk0 tk, ht], rfl⟩)
            simp [gaName, hlen, em1, em2, c1, c2, ed, lc, s1, s2, eq]
          · have tk : ¬ TurnOk L q k := fun z => c3 (by rw [ht]; exact z.2.2)
            rw [decide_eq_false c3] at eq
            refine .inl ⟨[some d, some (nD q), some (nD k), some (nD t), x4], m', .inl ?_, rfl, by rw [ej, hst, stepN_no hk0 tk], _, _, _, rfl⟩
            simp [gaName, hlen, em1, em2, c1, c2, ed, lc, s1, s2, eq]
        · have tk : ¬ TurnOk L q k := fun z => c2 z.2.1
          refine .inl ⟨[some d, some (nD q), some (nD k), x3, x4], m', .inl ?_, rfl, by rw [ej, hst, stepN_no hk0 tk], _, _, _, rfl⟩
          have c2' : ¬ ((q : Int) % (k : Int)) = 0 := by omega
          simp [gaName, hlen, em1, em2, c1, c2']
      · have tk : ¬ TurnOk L q k := fun z => c1 (by rw [hn]; exact z.1)
        refine .inl ⟨[some d, some (nD q), some (nD k), x3, x4], m', .inl ?_, rfl, by rw [ej, hst, stepN_no hk0 tk], _, _, _, rfl⟩
        have c1' : ¬ ((n : Int) % (k : Int)) = 0 := by omega
        simp [gaName, hlen, em1, c1'])
    ⟨rfl, rfl, none, none, none, rfl⟩
  have rn : rangeN [.int (L.length : Int), .int 0, .int (-1)] m = .ok (.st ((List.range n).map fun i => nD (n - i))) m := by
    rw [rangeN_ok (smallR (by omega) (by omega)) (smallR (by omega) (by omega)), ← hn, ← rangeD_down]
    simp
  unfold f__least_period runD b__least_period
  rw [hn] at loop rn
  rcases loop with ⟨l2, m2, e, w | w⟩ | ⟨r, m2, e, w1, w2⟩
  · obtain ⟨rfl, hst, x2, x3, x4, rfl⟩ := w
    have h1 : stepN L q L.length = 1 := by
      rw [hst]
      simp [stepN]
    rw [h1]
    have e' : forS (gaName 2) (lp__least_period_1 ca) (.st ((List.range L.length).map fun i => nD (L.length - i))) [some d, some (nD q), none, none, none] m2 = .nx [some d, some (nD q), x2, x3, x4] m2 := e
    simp [startD, hlen, oNeg, rn, e']
    rw [trunc_same rfl]
    rfl
  · exact w.elim
  · subst w1 w2
    have e' : forS (gaName 2) (lp__least_period_1 ca) (.st ((List.range L.length).map fun i => nD (L.length - i))) [some d, some (nD q), none, none, none] m2 = .ret (nD (stepN L q L.length)) m2 := e
    simp [startD, hlen, oNeg, rn, e']
    rw [trunc_same rfl]
end
end K18

/-! K18H: _least_start. -/
namespace K18
open PySem PySem.Spec PyProof.Rows L2 DL M18
theorem oIn_dic {neg : Bool} {n : Nat} {L : List Nat} {us : List D} {m : Mem} : oIn neg (nD n) (.dic (L.map fun k : Nat => (.inl (k : Int) : Key)) us) m = .ok (.bl (if neg then !decide (n ∈ L) else decide (n ∈ L))) m := by
  have : inD m (nD n) (.dic (L.map fun k : Nat => (.inl (k : Int) : Key)) us) = some (decide (n ∈ L)) := by
    unfold inD
    show (some (Sum.inl (n : Int) : Key)).map _ = _
    rw [Option.map_some]
    congr 1
    rw [Bool.eq_iff_iff, List.any_eq_true, decide_eq_true_eq]
    constructor
    · rintro ⟨x, hx, e⟩
      obtain ⟨k, hk, rfl⟩ := List.mem_map.mp hx
      have e := of_decide_eq_true e
      injection e with e
      have : k = n := by omega
      subst this; exact hk
    · intro h
      exact ⟨_, List.mem_map.mpr ⟨n, h, rfl⟩, by simp⟩
  unfold oIn
  rw [this]
section
variable (ca : CA) {m : Mem} {d : D} {F O : List Nat} {s t : Nat}
/-- _least_start in numbers -/
def lostL (F M : List Nat) (t : Nat) : List Nat := F.filter fun n => !decide (n + t ∈ M)
def gainedL (M : List Nat) (t : Nat) : List Nat := (M.filter fun n => decide (t ≤ n) && !decide (n - t ∈ M)).map fun n => n - t
theorem start_eval (hU : Und m) (h : SqIs m d (F.map nD)) (nd : (F ++ O.map fun o => s + o).Nodup) (hz : F.length ≤ 1000) (hz2 : O.length ≤ 1000) :
    f__least_start ca [d, nD s, nD t, .lst (O.map nD)] m = .ok (.int (maxDf (-1) (castL (lostL F (F ++ O.map fun o => s + o) t ++ gainedL (F ++ O.map fun o => s + o) t)) + 1)) m := by
  obtain ⟨M, hM⟩ : ∃ M, M = F ++ O.map fun o => s + o := ⟨_, rfl⟩
  rw [← hM] at nd ⊢
  have hMl : M.length ≤ 2000 := by rw [hM]; simp; omega
  obtain ⟨src, es, hs⟩ := h.iter
  have lc1 : eLc false (bnd (eVar 3) fun d _ m => iterD d m) (gaName 5) tT (e2 (oAdd false) (eVar 1) (eVar 5)) [5] [some d, some (nD s), some (nD t), some (.lst (O.map nD)), none, none, none, none, none, none, none] m = .ok (.lst ((O.map fun o => s + o).map nD)) m := by
    rw [List.map_map]
    refine lcT (g := nD) (L := O) (s := .st (O.map nD)) (by simp) srcSt (szL (by omega)) (fun a ha x => ?_) (fun _ _ => by simp) hU
    simp [wipeD]
  have eM : F.map nD ++ (O.map fun o => s + o).map nD = M.map nD := by rw [hM, List.map_append]
  have lc2 : eDc (bnd (eVar 4) fun d _ m => iterD d m) (gaName 7) tT (eVar 7) (eC (.bl true)) [7] [some d, some (nD s), some (nD t), some (.lst (O.map nD)), some (.lst (M.map nD)), none, none, none, none, none, none] m =
      .ok (.dic (M.map fun k : Nat => (.inl (k : Int) : Key)) (M.map fun _ => D.bl true)) m :=
    dcA (g := nD) (f := fun _ => D.bl true) (key := fun k : Nat => (k : Int)) (L := M) (by simp) (szL (by omega)) (fun a ha x => by simp [wipeD]) (fun a ha x => by simp) (List.Pairwise.map _ (fun a b hne e => hne (by omega)) nd) (fun _ _ => by simp) hU
  have lc3 : ∀ kn, kn = D.dic (M.map fun k : Nat => (.inl (k : Int) : Key)) (M.map fun _ => D.bl true) → eLc false (bnd (eVar 0) fun d _ m => iterD d m) (gaName 9) (tBl (e2 (oIn true) (e2 (oAdd false) (eVar 9) (eVar 2)) (eVar 6))) (eVar 9) [9]
      [some d, some (nD s), some (nD t), some (.lst (O.map nD)), some (.lst (M.map nD)), none, some kn, none, none, none, none] m = .ok (.lst ((lostL F M t).map nD)) m := by
    intro kn hkn
    refine lcA (g := nD) (p := fun n => !decide (n + t ∈ M)) (f := nD) (L := F) (s := src) (by simp [es]) hs (szL (by omega)) (fun a ha x => ?_) (fun a _ _ x => by simp [wipeD]) (fun _ _ _ => by simp) hU
    obtain ⟨u, hu⟩ : ∃ u, u = a + t := ⟨_, rfl⟩
    have e3 : (a : Int) + (t : Int) = (u : Int) := by omega
    rw [← hu]
    have := oIn_dic (neg := true) (n := u) (L := M) (us := M.map fun _ => D.bl true) (m := m ++ [x])
    rw [← hkn] at this
    simp [wipeD, e3, this]
  have lc4 : ∀ kn lo, kn = D.dic (M.map fun k : Nat => (.inl (k : Int) : Key)) (M.map fun _ => D.bl true) → eLc false (bnd (eVar 4) fun d _ m => iterD d m) (gaName 7) (tAnd' (tBl (e2 oGe (eVar 7) (eVar 2))) (tBl (e2 (oIn true) (e2 oSub (eVar 7) (eVar 2)) (eVar 6)))) (e2 oSub (eVar 7) (eVar 2)) [7]
      [some d, some (nD s), some (nD t), some (.lst (O.map nD)), some (.lst (M.map nD)), none, some kn, none, some lo, none, none] m = .ok (.lst ((gainedL M t).map nD)) m := by
    intro kn lo hkn
    unfold gainedL
    rw [List.map_map]
    refine lcA (g := nD) (p := fun n => decide (t ≤ n) && !decide (n - t ∈ M)) (f := nD ∘ fun n => n - t) (L := M) (s := .st (M.map nD)) (by simp) srcSt (szL (by omega)) (fun a ha x => ?_) (fun a _ hp x => ?_) (fun _ _ _ => by simp) hU
    · by_cases hle : t ≤ a
      · obtain ⟨u, hu⟩ : ∃ u, u = a - t := ⟨_, rfl⟩
        have e3 : (a : Int) - (t : Int) = (u : Int) := by omega
        rw [← hu]
        have := oIn_dic (neg := true) (n := u) (L := M) (us := M.map fun _ => D.bl true) (m := m ++ [x])
        rw [← hkn] at this
        simp [wipeD, e3, this, hle]
      · simp [wipeD, hle]
    · have hle : t ≤ a := by
        have := hp
        simp only [Bool.and_eq_true, decide_eq_true_eq] at this
        exact this.1
      have e3 : (a : Int) - (t : Int) = ((a - t : Nat) : Int) := by omega
      show _ = R.ok (nD (a - t)) _
      simp only [wipeD]
      generalize a - t = u at e3 ⊢
      simp [e3]
  obtain ⟨kn, hkn⟩ : ∃ kn, kn = D.dic (M.map fun k : Nat => (.inl (k : Int) : Key)) (M.map fun _ => D.bl true) := ⟨_, rfl⟩
  rw [← hkn] at lc2
  have lc3 := lc3 kn hkn
  have lc4 := lc4 kn (.lst ((lostL F M t).map nD)) hkn
  have sq1 := h.seq
  have nl1 : newLs false (F.map nD ++ (O.map fun o => s + o).map nD) m = .ok (.lst (M.map nD)) m := by rw [eM]; exact newLs_lst (by simp; exact szL (by omega))
  have lL : (lostL F M t).length ≤ 1000 := Nat.le_trans (List.length_filter_le _ _) hz
  have lG : (gainedL M t).length ≤ 2000 := by unfold gainedL; rw [List.length_map]; exact Nat.le_trans (List.length_filter_le _ _) hMl
  have nl2 : newLs false ((lostL F M t).map nD ++ (gainedL M t).map nD) m = .ok (.lst ((lostL F M t ++ gainedL M t).map nD)) m := by
    rw [← List.map_append]
    exact newLs_lst (by simp; exact szL (by omega))
  have mx : oMaxDf (.lst ((lostL F M t ++ gainedL M t).map nD)) (.int (-1)) m = .ok (.int (maxDf (-1) (castL (lostL F M t ++ gainedL M t)))) m := by
    unfold oMaxDf intsOf
    simp only [rget, lget, Option.bind_some, intsD_nat]
  generalize (lostL F M t ++ gainedL M t).map nD = Z at nl2 mx
  generalize (lostL F M t).map nD = Z1 at lc3 lc4 nl2
  generalize (gainedL M t).map nD = Z2 at lc4 nl2
  generalize (O.map fun o => s + o).map nD = Z3 at lc1 nl1
  generalize M.map nD = Z4 at nl1 lc2 lc3 lc4
  generalize F.map nD = Z5 at sq1 nl1
  generalize castL (lostL F M t ++ gainedL M t) = Z6 at mx ⊢
  generalize O.map nD = Z7 at *
  have st2 : ∀ (a : EX) (b : EL) loc m, aStar2 a b loc m = (a loc m).bind fun x m => match seqOf m x with
    | some xs => (b loc m).bind fun ys m' => .ok (xs ++ ys) m'
    | none => .bad := fun a b loc m => rfl
  have sl : ∀ (xs : List D) (m : Mem), seqOf m (.lst xs) = some xs := fun _ _ => rfl
  unfold f__least_start runD b__least_start
  simp [startD, st2, lc1, sq1, sl, nl1, lc2, lc3, lc4, nl2, mx, oNeg, R.bind]
  rw [trunc_same rfl]
end
end K18

/-! K18I: what the class makes of a form. -/
namespace K18
open PySem PySem.Spec PyProof.Rows L2 DL M18
variable (ca : CA) {f : Frm} {t : Nat}
theorem mem_M (h : Ok f) (ht : Per (has f) f.s t) {n : Nat} : n ∈ f.first ++ (lates (has f) f.s t).map (fun o => f.s + o) ↔ n < f.s + t ∧ has f n = true := by
  rw [List.mem_append, has_first h, List.mem_map]
  constructor
  · rintro (⟨a, b⟩ | ⟨o, ho, rfl⟩)
    · have := ht.1; exact ⟨by omega, b⟩
    · obtain ⟨a, b⟩ := mem_lates.mp ho
      exact ⟨by omega, b⟩
  · rintro ⟨a, b⟩
    by_cases l : n < f.s
    · exact .inl ⟨l, b⟩
    · refine .inr ⟨n - f.s, mem_lates.mpr ⟨by omega, ?_⟩, by omega⟩
      rw [show f.s + (n - f.s) = n by omega]; exact b
theorem nodup_M (h : Ok f) : (f.first ++ (lates (has f) f.s t).map (fun o => f.s + o)).Nodup := by
  rw [List.nodup_append]
  refine ⟨h.fn, ?_, ?_⟩
  · exact List.Pairwise.map _ (fun a b hne e => hne (by omega)) (lt_nodup (lates_lt (p := has f) (s := f.s) (q := t)))
  · intro a ha b hb e
    obtain ⟨o, _, rfl⟩ := List.mem_map.mp hb
    have := h.fl a ha
    omega
/-- where the set and its shift differ -/
theorem start_spec (h : Ok f) (ht : Per (has f) f.s t) : ∃ b : Nat, maxDf (-1) (castL (lostL f.first (f.first ++ (lates (has f) f.s t).map fun o => f.s + o) t ++ gainedL (f.first ++ (lates (has f) f.s t).map fun o => f.s + o) t)) + 1 = (b : Int) ∧ b ≤ f.s ∧
    (∀ n, b ≤ n → n < f.s → has f (n + t) = has f n) ∧ (b = 0 ∨ has f (b - 1 + t) ≠ has f (b - 1)) := by
  obtain ⟨M, hM⟩ : ∃ M, M = f.first ++ (lates (has f) f.s t).map fun o => f.s + o := ⟨_, rfl⟩
  have mM : ∀ n, n ∈ M ↔ n < f.s + t ∧ has f n = true := fun n => by rw [hM]; exact mem_M h ht
  rw [← hM]
  obtain ⟨X, hX⟩ : ∃ X, X = lostL f.first M t ++ gainedL M t := ⟨_, rfl⟩
  rw [← hX]
  have mX : ∀ n, n ∈ X ↔ n < f.s ∧ has f (n + t) ≠ has f n := by
    intro n
    rw [hX, List.mem_append]
    unfold lostL gainedL
    rw [List.mem_filter, List.mem_map, has_first h]
    constructor
    · rintro (⟨⟨a, b⟩, c⟩ | ⟨k, hk, rfl⟩)
      · refine ⟨a, fun e => ?_⟩
        have : ¬ (n + t ∈ M) := by simpa using c
        exact this ((mM _).mpr ⟨by omega, by rw [e, b]⟩)
      · rw [List.mem_filter] at hk
        obtain ⟨k1, k2⟩ := hk
        simp only [Bool.and_eq_true, decide_eq_true_eq, Bool.not_eq_true', decide_eq_false_iff_not] at k2
        obtain ⟨k2, k3⟩ := k2
        obtain ⟨k4, k5⟩ := (mM k).mp k1
        refine ⟨by omega, fun e => k3 ((mM _).mpr ⟨by omega, ?_⟩)⟩
        rw [← e, show k - t + t = k by omega, k5]
    · rintro ⟨a, b⟩
      cases e : has f n with
      | true =>
        refine .inl ⟨⟨a, rfl⟩, ?_⟩
        have : ¬ (n + t ∈ M) := fun z => b (by rw [((mM _).mp z).2, e])
        simpa using this
      | false =>
        have e2 : has f (n + t) = true := by
          cases q : has f (n + t) with
          | true => rfl
          | false => exact absurd (by rw [q, e]) b
        refine .inr ⟨n + t, List.mem_filter.mpr ⟨(mM _).mpr ⟨by omega, e2⟩, ?_⟩, by omega⟩
        have : ¬ (n ∈ M) := fun z => by
          have := ((mM _).mp z).2
          rw [e] at this; cases this
        simp [this]
  unfold maxDf
  by_cases hn : X = []
  · refine ⟨0, by simp [hn], Nat.zero_le _, fun n _ hl => ?_, .inl rfl⟩
    by_cases e : has f (n + t) = has f n
    · exact e
    · have := (mX n).mpr ⟨hl, e⟩
      rw [hn] at this; cases this
  · have hc : castL X ≠ [] := fun e => hn (List.map_eq_nil_iff.mp e)
    rw [if_neg hc]
    obtain ⟨h1, h2⟩ := maxI_ok (ns := castL X) (by cases hq : castL X with | nil => exact absurd hq hc | cons _ _ => simp)
    obtain ⟨k, hk, ek⟩ := List.mem_map.mp h1
    obtain ⟨k1, k2⟩ := (mX k).mp hk
    refine ⟨k + 1, by rw [← ek]; rfl, by omega, fun n h3 hl => ?_, .inr (by rw [Nat.add_sub_cancel]; exact k2)⟩
    by_cases e : has f (n + t) = has f n
    · exact e
    · have := h2 _ (List.mem_map_of_mem (f := fun n : Nat => (n : Int)) ((mX n).mpr ⟨hl, e⟩))
      rw [← ek] at this
      omega
/-! ### the made object -/
abbrev fNames : List Str := ["first", "start", "period", "late"]
def rndD (C : Addr) (p : Pr) (s q : Nat) : D := .ins C fNames [.tup ((M18.firsts p s).map nD), nD s, nD q, .tup ((lates p s q).map nD)]
theorem n12 : ¬ ("first" : Str) = "start" := by decide
theorem n13 : ¬ ("first" : Str) = "period" := by decide
theorem n14 : ¬ ("first" : Str) = "late" := by decide
theorem n23 : ¬ ("start" : Str) = "period" := by decide
theorem n24 : ¬ ("start" : Str) = "late" := by decide
theorem n34 : ¬ ("period" : Str) = "late" := by decide
theorem put1 {a : D} : putD "first" a [] [] = ((["first"] : List Str), [a]) := by simp only [putD]
theorem put2 {a b : D} : putD "start" b ["first"] [a] = ((["first", "start"] : List Str), [a, b]) := by simp only [putD, if_neg n12]
theorem put3 {a b c : D} : putD "period" c ["first", "start"] [a, b] = ((["first", "start", "period"] : List Str), [a, b, c]) := by simp only [putD, if_neg n13, if_neg n23]
theorem put4 {a b c d : D} : putD "late" d ["first", "start", "period"] [a, b, c] = ((["first", "start", "period", "late"] : List Str), [a, b, c, d]) := by simp only [putD, if_neg n14, if_neg n24, if_neg n34]
theorem isN_nat (n : Nat) : isN (nD n) = true := by simp [isN]
/-- a sorted list of unlike numbers, by its members -/
theorem srt_is {A : List Int} {B : List Nat} (hB : B.Pairwise (· < ·)) (hA : A.Nodup) (h : ∀ z : Int, z ∈ A ↔ ∃ n ∈ B, z = (n : Int)) : (srtI A).map D.int = B.map nD := by
  have e : castL B = srtI A := by
    refine srtI_of ?_ ?_
    · refine perm_of ?_ hA fun z => ?_
      · exact List.Pairwise.map _ (fun a b hl e => by omega) hB
      · rw [h z, List.mem_map]
        exact ⟨fun ⟨n, a, b⟩ => ⟨n, a, b.symm⟩, fun ⟨n, a, b⟩ => ⟨n, a, b.symm⟩⟩
    · exact List.Pairwise.map _ (fun a b hl => by omega) hB
  rw [← e, List.map_map]
  rfl
theorem init_ok (h : Ok f) {d1 d4 : D} {m : Mem} (h1 : SqIs m d1 (f.first.map nD)) (h4 : SqIs m d4 (f.late.map nD)) (hu : Und m) (hz : f.s ≤ 1000) (hz2 : f.q ≤ 60) :
    ∃ s' q', Lst (has f) s' q' ∧ oMake ca.c_Rounds 5 (f_Rounds___init__ ca) [d1, nD f.s, nD f.q, d4] m = .ok (rndD ca.c_Rounds (has f) s' q') m := by
  have hq := h.q0
  obtain ⟨m1, hm1⟩ : ∃ m1, m1 = m ++ [DO.ins ca.c_Rounds [] []] := ⟨_, rfl⟩
  have hu1 : Und m1 := by rw [hm1]; exact hu.push (by simp [DO.und])
  have g1 : SqIs m1 d1 (f.first.map nD) := by rw [hm1]; exact h1.app
  have g4 : SqIs m1 d4 (f.late.map nD) := by rw [hm1]; exact h4.app
  have lf : f.first.length ≤ 1000 := by
    have := (perm_of h.fn (lt_nodup (firsts_lt (p := has f) (s := f.s))) fun n => by rw [mem_firsts, has_first h]).length_eq
    have l2 : (M18.firsts (has f) f.s).length ≤ f.s := by unfold M18.firsts; exact Nat.le_trans (List.length_filter_le _ _) (by simp)
    omega
  have ll : f.late.length ≤ 60 := by
    have := (perm_of h.ln (lt_nodup (lates_lt (p := has f) (s := f.s) (q := f.q))) fun n => by rw [mem_lates, has_late h]).length_eq
    have l2 : (lates (has f) f.s f.q).length ≤ f.q := by unfold lates; exact Nat.le_trans (List.length_filter_le _ _) (by simp)
    omega
  have b1 := unlike_yes ca hu1 g1 h.fl lf
  have b4 := unlike_yes ca hu1 g4 h.ll (by omega)
  rw [decide_eq_true h.fn] at b1
  rw [decide_eq_true h.ln] at b4
  have c1 := num_ok ca (d := nD f.s) trivial m1
  have c2 := num_ok ca (d := nD f.q) trivial m1
  rw [isN_nat] at c1 c2
  have pr := period_ok ca hu1 g4 hq (by omega) (by omega)
  obtain ⟨p1, p2⟩ := step_ok h
  have pd := stepN_dvd h f.late.length
  obtain ⟨t, ht⟩ : ∃ t, t = stepN f.late f.q f.late.length := ⟨_, rfl⟩
  rw [← ht] at pr p1 p2 pd
  have htq := Nat.le_of_dvd hq pd
  have t0 := p1.1
  obtain ⟨b, eb1, eb2, eb3, eb4⟩ := start_spec h p1
  obtain ⟨l1, l2⟩ := low_ok p1 eb2 eb3 eb4
  refine ⟨b, t, ⟨l1, p2, l2⟩, ?_⟩
  have lO : (lates (has f) f.s t).length ≤ 60 := by unfold lates; exact Nat.le_trans (List.length_filter_le _ _) (by simp; omega)
  have st := start_eval ca (d := d1) (F := f.first) (O := lates (has f) f.s t) (s := f.s) (t := t) hu1 g1 (nodup_M h) lf (by omega)
  rw [eb1] at st
  -- the offsets
  obtain ⟨src4, i4, s4⟩ := g4.iter
  obtain ⟨src1, i1, s1⟩ := g1.iter
  have lc1 : eSortS false (bnd (eVar 4) fun d _ m => iterD d m) (gaName 7) tT (e2 oMod (eVar 7) (eVar 5)) [7] [some (.obj m.length), some d1, some (nD f.s), some (nD f.q), some d4, some (nD t), none, none, none, none] m1 = .ok (.lst ((lates (has f) f.s t).map nD)) m1 := by
    have := scA (g := nD) (z := fun n : Nat => ((n % t : Nat) : Int)) (te := e2 oMod (eVar 7) (eVar 5)) (i := 7) (vs := [7]) (fi := bnd (eVar 4) fun d _ m => iterD d m) (loc := [some (.obj m.length), some d1, some (nD f.s), some (nD f.q), some d4, some (nD t), none, none, none, none]) (m0 := m1) (m := m1) (s := src4) (L := f.late)
      (by simp [i4]) s4 (by omega) (fun a _ => by simp [wipeD, oMod_int (show (0 : Int) < (t : Int) by omega)])
    rw [this]
    congr 2
    refine srt_is lates_lt (uniq_nodup _) fun z => ?_
    rw [mem_uniq, List.mem_map]
    constructor
    · rintro ⟨o, ho, rfl⟩
      exact ⟨o % t, (offsets_ok h p1 pd).mpr ⟨o, ho, rfl⟩, rfl⟩
    · rintro ⟨n, hn, rfl⟩
      obtain ⟨o, ho, rfl⟩ := (offsets_ok h p1 pd).mp hn
      exact ⟨o, ho, rfl⟩
  -- the first numbers
  have lc2 : ∀ ofs y7, eLc false (bnd (eVar 1) fun d _ m => iterD d m) (gaName 9) (tBl (e2 oLt (eVar 9) (eVar 8))) (eVar 9) [9] [some (.obj m.length), some d1, some (nD f.s), some (nD f.q), some d4, some (nD t), some ofs, y7, some (.int (b : Int)), none] m1 = .ok (.lst ((f.first.filter fun n => decide (n < b)).map nD)) m1 := fun ofs y7 =>
    lcA (g := nD) (p := fun n => decide (n < b)) (f := nD) (L := f.first) (s := src1) (by simp [i1]) s1 (szL (by omega)) (fun a _ x => by simp [wipeD]) (fun a _ _ x => by simp [wipeD]) (fun _ _ _ => by simp) hu1
  have so1 : ∀ mm, fSorted false [.lst ((f.first.filter fun n => decide (n < b)).map nD)] mm = .ok (.lst ((M18.firsts (has f) b).map nD)) mm := fun mm => by
    rw [sorted_sq (L := f.first.filter fun n => decide (n < b)) (.inl rfl)]
    congr 2
    refine srt_is firsts_lt ?_ fun z => ?_
    · exact List.Pairwise.map _ (fun a b hne e => hne (by omega)) (h.fn.sublist List.filter_sublist)
    · rw [List.mem_map]
      constructor
      · rintro ⟨n, hn, rfl⟩
        obtain ⟨a1, a2⟩ := List.mem_filter.mp hn
        exact ⟨n, mem_firsts.mpr ⟨by simpa using a2, ((has_first h).mp a1).2⟩, rfl⟩
      · rintro ⟨n, hn, rfl⟩
        obtain ⟨a1, a2⟩ := mem_firsts.mp hn
        exact ⟨n, List.mem_filter.mpr ⟨(has_first h).mpr ⟨by omega, a2⟩, by simpa using a1⟩, rfl⟩
  have lc3 : ∀ (mm : Mem) (y9 : Option D), Und mm → eLc false (bnd (eVar 6) fun d _ m => iterD d m) (gaName 7) tT (e2 oMod (e2 oSub (e2 (oAdd false) (eVar 2) (eVar 7)) (eVar 8)) (eVar 5)) [7] [some (.obj m.length), some d1, some (nD f.s), some (nD f.q), some d4, some (nD t), some (.lst ((lates (has f) f.s t).map nD)), none, some (.int (b : Int)), y9] mm =
      .ok (.lst (((lates (has f) f.s t).map fun o => (f.s + o - b) % t).map nD)) mm := by
    intro mm y9 hmm
    rw [List.map_map]
    refine lcT (g := nD) (L := lates (has f) f.s t) (s := .st ((lates (has f) f.s t).map nD)) (by simp) srcSt (szL (by omega)) (fun a _ x => ?_) (fun _ _ => by simp) hmm
    obtain ⟨u, hu⟩ : ∃ u, u = f.s + a - b := ⟨_, rfl⟩
    have e3 : (f.s : Int) + (a : Int) - (b : Int) = (u : Int) := by omega
    show _ = R.ok (nD ((f.s + a - b) % t)) _
    rw [← hu]
    have em : oMod (.int (u : Int)) (nD t) (mm ++ [x]) = .ok (nD (u % t)) (mm ++ [x]) := by rw [oMod_int (by omega)]; rfl
    simp [wipeD, e3, em]
  have so2 : ∀ mm, fSorted false [.lst (((lates (has f) f.s t).map fun o => (f.s + o - b) % t).map nD)] mm = .ok (.lst ((lates (has f) b t).map nD)) mm := fun mm => by
    rw [sorted_sq (L := (lates (has f) f.s t).map fun o => (f.s + o - b) % t) (.inl rfl)]
    congr 2
    refine srt_is lates_lt ?_ fun z => ?_
    · refine List.Pairwise.map (R := (· ≠ ·)) (fun n : Nat => (n : Int)) (fun a b hne e => hne (by omega)) ?_
      rw [List.pairwise_map]
      refine (List.Pairwise.imp_of_mem ?_ (lt_nodup (lates_lt (p := has f) (s := f.s) (q := t))))
      intro a c ha hc hne e
      have ha := (mem_lates.mp ha).1
      have hc := (mem_lates.mp hc).1
      -- equal rests of numbers less than t apart
      obtain ⟨k, hk⟩ : ∃ k, k = f.s - b := ⟨_, rfl⟩
      have ea : f.s + a - b = k + a := by omega
      have ec : f.s + c - b = k + c := by omega
      rw [ea, ec] at e
      have h1 := Nat.mod_add_div (k + a) t
      have h2 := Nat.mod_add_div (k + c) t
      rw [e] at h1
      rcases Nat.lt_trichotomy ((k + a) / t) ((k + c) / t) with q | q | q
      · have := Nat.mul_le_mul_left t (show (k + a) / t + 1 ≤ (k + c) / t from q)
        rw [Nat.mul_add, Nat.mul_one] at this
        omega
      · rw [q] at h1; omega
      · have := Nat.mul_le_mul_left t (show (k + c) / t + 1 ≤ (k + a) / t from q)
        rw [Nat.mul_add, Nat.mul_one] at this
        omega
    · show z ∈ ((lates (has f) f.s t).map fun o => (f.s + o - b) % t).map (fun n : Nat => (n : Int)) ↔ _
      rw [List.map_map, List.mem_map]
      constructor
      · rintro ⟨o, ho, rfl⟩
        exact ⟨_, (lates_back l1 eb2).mpr ⟨o, ho, rfl⟩, rfl⟩
      · rintro ⟨n, hn, rfl⟩
        obtain ⟨o, ho, rfl⟩ := (lates_back l1 eb2).mp hn
        exact ⟨o, ho, rfl⟩
  have sf : ∀ (x : Str) (ns : List Str) (vs : List D) (d : D), ns.length < 1000 → setF ca.c_Rounds x (.obj m.length) d (m ++ [.ins ca.c_Rounds ns vs]) = some (m ++ [.ins ca.c_Rounds (putD x d ns vs).1 (putD x d ns vs).2]) := fun x ns vs d hn => setF_app rfl hn
  have hum : Mem.und m.length m = true := hu
  have hu3 : Und (m ++ [DO.ins ca.c_Rounds ["first", "start", "period"] [.tup ((M18.firsts (has f) b).map nD), nD b, nD t]]) := hu.push (by simp [DO.und, undN])
  have lc3 := lc3 _ none hu3
  have run : callD 5 (f_Rounds___init__ ca) [.obj m.length, d1, nD f.s, nD f.q, d4] (m ++ [.ins ca.c_Rounds [] []]) = .ok .non (m ++ [.ins ca.c_Rounds fNames [.tup ((M18.firsts (has f) b).map nD), nD b, nD t, .tup ((lates (has f) b t).map nD)]]) := by
    unfold callD
    rw [if_pos (show [D.obj m.length, d1, nD f.s, nD f.q, d4].length = 5 from rfl)]
    have hq0 : ¬ f.q = 0 := by omega
    have lc2 := lc2 (.lst ((lates (has f) f.s t).map nD)) none
    rw [← hm1]
    have e5 : f_Rounds___init__ ca [.obj m.length, d1, nD f.s, nD f.q, d4] m1 = trunc m1.length (ofSR (b_Rounds___init__ ca m1.length [some (.obj m.length), some d1, some (nD f.s), some (nD f.q), some d4, none, none, none, none, none] m1)) := rfl
    rw [e5]
    generalize (((lates (has f) f.s t).map fun o => (f.s + o - b) % t).map nD) = Z1 at lc3 so2
    generalize ((lates (has f) b t).map nD) = Z2 at so2 ⊢
    generalize ((f.first.filter fun n => decide (n < b)).map nD) = Z3 at lc2 so1
    generalize ((M18.firsts (has f) b).map nD) = Z4 at so1 lc3 ⊢
    generalize ((lates (has f) f.s t).map nD) = Z5 at *
    unfold b_Rounds___init__
    simp [c1, c2, hq0, b1, b4, pr, lc1, st, lc2, so1]
    rw [hm1]
    simp [sf, put1, put2, put3, put4, lc3, so2]
    rw [trunc_same (by simp)]
  unfold oMake
  rw [run]
  unfold mkFin
  have eg : (m ++ [DO.ins ca.c_Rounds fNames [.tup ((M18.firsts (has f) b).map nD), nD b, nD t, .tup ((lates (has f) b t).map nD)]])[m.length]? = some (.ins ca.c_Rounds fNames [.tup ((M18.firsts (has f) b).map nD), nD b, nD t, .tup ((lates (has f) b t).map nD)]) := by simp
  dsimp only
  rw [eg]
  have et : (m ++ [DO.ins ca.c_Rounds fNames [.tup ((M18.firsts (has f) b).map nD), nD b, nD t, .tup ((lates (has f) b t).map nD)]]).take m.length = m := by rw [List.take_left']; rfl
  simp only [et, hum]
  simp [undN]
  rfl
end K18

/-! K18J: what a made object shows; ==. -/
namespace K18
open PySem PySem.Spec PyProof.Rows L2 DL M18
section
variable {C : Addr} {a b c d : D} {m : Mem}
theorem fl1 : oFld C "first" (.ins C fNames [a, b, c, d]) m = .ok a m := by simp [oFld, insOf, lookD]
theorem fl2 : oFld C "start" (.ins C fNames [a, b, c, d]) m = .ok b m := by simp [oFld, insOf, lookD, Ne.symm n12]
theorem fl3 : oFld C "period" (.ins C fNames [a, b, c, d]) m = .ok c m := by simp [oFld, insOf, lookD, Ne.symm n13, Ne.symm n23]
theorem fl4 : oFld C "late" (.ins C fNames [a, b, c, d]) m = .ok d m := by simp [oFld, insOf, lookD, Ne.symm n14, Ne.symm n24, Ne.symm n34]
theorem isiC {ns : List Str} {vs : List D} : oIsi (kitC C) (.ins C ns vs) m = .ok (.bl true) m := by simp [oIsi, tyD, kitC]
theorem isiT {xs : List D} : oIsi (kitT ["tuple"]) (.tup xs) m = .ok (.bl true) m := rfl
end
theorem oAdd_lst {o : Bool} {a b : D} {xs ys : List D} {m : Mem} (ha : a = .lst xs) (hb : b = .lst ys) (hz : xs.length + ys.length ≤ sizeLine) : oAdd o a b m = newL o (xs ++ ys) m := by
  subst ha hb
  unfold oAdd
  simp [lget, newLs, hz]
theorem EncL : Enc (fun L : List Nat => D.tup (L.map nD)) (fun L => PyData.tuple (L.map fun n : Nat => PyData.int n)) 1 := EncN.tup
theorem eq_tup {A B : List Nat} {m : Mem} : oEq (.tup (A.map nD)) (.tup (B.map nD)) m = .ok (.bl (decide (A = B))) m := EncN.tup.oEq (by decide) A B
theorem eq_lst {A B : List Nat} {m : Mem} : oEq (.lst (A.map nD)) (.lst (B.map nD)) m = .ok (.bl (decide (A = B))) m := EncN.lst.oEq (by decide) A B
theorem ne_lst {A B : List Nat} {m : Mem} : oNe (.lst (A.map nD)) (.lst (B.map nD)) m = .ok (.bl (!decide (A = B))) m := EncN.lst.oNe (by decide) A B
theorem list_sq {b : Bool} {L : List Nat} {m : Mem} : fList false [sqD b L] m = .ok (.lst (L.map nD)) m := by cases b <;> rfl
theorem shows_ok (ca : CA) {p : Pr} {s q : Nat} {b c : Bool} {m : Mem} (hU : Und m) (hs : s ≤ 1000) (hq : q ≤ 1000) : f__law_shows ca [rndD ca.c_Rounds p s q, frmD b c (formOf p s q)] m = .ok (.bl true) m := by
  obtain ⟨A, hA⟩ : ∃ A, A = M18.firsts p s := ⟨_, rfl⟩
  obtain ⟨B, hB⟩ : ∃ B, B = lates p s q := ⟨_, rfl⟩
  have lA : A.length ≤ 1000 := by rw [hA]; unfold M18.firsts; exact Nat.le_trans (List.length_filter_le _ _) (by simpa using hs)
  have lB : B.length ≤ 1000 := by rw [hB]; unfold lates; exact Nat.le_trans (List.length_filter_le _ _) (by simpa using hq)
  have e1 : rndD ca.c_Rounds p s q = .ins ca.c_Rounds fNames [.tup (A.map nD), nD s, nD q, .tup (B.map nD)] := by rw [hA, hB]; rfl
  have e2 : frmD b c (formOf p s q) = .tup [sqD b A, nD s, nD q, sqD c B] := by rw [hA, hB]; rfl
  rw [e1, e2]
  obtain ⟨X, hX⟩ : ∃ X, X = D.ins ca.c_Rounds fNames [.tup (A.map nD), nD s, nD q, .tup (B.map nD)] := ⟨_, rfl⟩
  obtain ⟨Y, hY⟩ : ∃ Y, Y = D.tup [sqD b A, nD s, nD q, sqD c B] := ⟨_, rfl⟩
  have x1 : ∀ m, oFld ca.c_Rounds "first" X m = .ok (.tup (A.map nD)) m := fun m => by rw [hX]; exact fl1
  have x2 : ∀ m, oFld ca.c_Rounds "start" X m = .ok (nD s) m := fun m => by rw [hX]; exact fl2
  have x3 : ∀ m, oFld ca.c_Rounds "period" X m = .ok (nD q) m := fun m => by rw [hX]; exact fl3
  have x4 : ∀ m, oFld ca.c_Rounds "late" X m = .ok (.tup (B.map nD)) m := fun m => by rw [hX]; exact fl4
  have xc : ∀ m, oIsi (kitC ca.c_Rounds) X m = .ok (.bl true) m := fun m => by rw [hX]; exact isiC
  have y0 : ∀ m, oIx Y (.int 0) m = .ok (sqD b A) m := fun m => by rw [hY]; exact oIx_tup rfl
  have y1 : ∀ m, oIx Y (.int 1) m = .ok (nD s) m := fun m => by rw [hY]; exact oIx_tup rfl
  have y2 : ∀ m, oIx Y (.int 2) m = .ok (nD q) m := fun m => by rw [hY]; exact oIx_tup rfl
  have y3 : ∀ m, oIx Y (.int 3) m = .ok (sqD c B) m := fun m => by rw [hY]; exact oIx_tup rfl
  rw [← hX, ← hY]
  have t1 : fList false [.tup (A.map nD)] m = .ok (.lst (A.map nD)) m := rfl
  have t2 : fList false [.tup (B.map nD)] m = .ok (.lst (B.map nD)) m := rfl
  have ad1 : oAdd false (.lst (A.map nD)) (.lst (B.map nD)) m = .ok (.lst ((A ++ B).map nD)) m := by
    rw [oAdd_lst rfl rfl (by simp; exact szL (by omega)), List.map_append] <;> rfl
  have ad2 : oAdd false (.lst ((A ++ B).map nD)) (.lst [nD s, nD q]) m = .ok (.lst ((A ++ B ++ [s, q]).map nD)) m := by
    rw [oAdd_lst rfl rfl (by simp; exact szL (by omega)), List.map_append (l₁ := A ++ B)] <;> rfl
  have nl : newLs false [nD s, nD q] m = .ok (.lst [nD s, nD q]) m := newLs_lst (szL (by simp))
  have lc : eLc false (bnd (eVar 2) fun d _ m => iterD d m) (gaName 3) (tNot' (tTru (eCall (callD 1 (f__law_is_number ca)) (aCons (eVar 3) aNil)))) (eVar 3) [3] [some X, some Y, some (.lst ((A ++ B ++ [s, q]).map nD)), none] m = .ok (.lst []) m := by
    have := lcA (g := nD) (p := fun _ => false) (f := nD) (i := 3) (tt := tNot' (tTru (eCall (callD 1 (f__law_is_number ca)) (aCons (eVar 3) aNil)))) (te := eVar 3) (vs := [3]) (fi := bnd (eVar 2) fun d _ m => iterD d m) (loc := [some X, some Y, some (.lst ((A ++ B ++ [s, q]).map nD)), none]) (m0 := m) (m := m)
      (s := .st ((A ++ B ++ [s, q]).map nD)) (L := A ++ B ++ [s, q]) (by simp) srcSt (by simp; exact szL (by omega)) (fun a _ x => by simp [wipeD, lnum_ok]) (fun _ _ h _ => by cases h) (fun _ _ h => by cases h) hU
    rw [this]
    simp
  have nl0 : newLs false ([] : List D) m = .ok (.lst []) m := newLs_lst (Nat.zero_le _)
  have ne0 : oNe (.lst []) (.lst []) m = .ok (.bl false) m := by
    have := ne_lst (A := []) (B := []) (m := m)
    simpa using this
  have q1 := eq_lst (A := A) (B := A) (m := m)
  have q2 := eq_lst (A := B) (B := B) (m := m)
  have k1 := list_sq (b := b) (L := A) (m := m)
  have k2 := list_sq (b := c) (L := B) (m := m)
  rw [decide_eq_true rfl] at q1 q2
  generalize ((A ++ B ++ [s, q]).map nD) = Z0 at ad2 lc
  generalize ((A ++ B).map nD) = Z1 at ad1 ad2
  generalize A.map nD = Z2 at *
  generalize B.map nD = Z3 at *
  unfold f__law_shows runD b__law_shows
  simp [startD, xc, x1, x2, x3, x4, y0, y1, y2, y3, isiT, t1, t2, ad1, nl, ad2, lc, nl0, ne0, k1, k2, q1, q2]
  rw [trunc_same rfl]
theorem eq_ok (ca : CA) {p p' : Pr} {s s' q q' : Nat} {m : Mem} : oOwn ca.c_Rounds 2 (f_Rounds___eq__ ca) (rndD ca.c_Rounds p s q) (rndD ca.c_Rounds p' s' q') m = .ok (.bl (decide (formOf p s q = formOf p' s' q'))) m := by
  obtain ⟨A, hA⟩ : ∃ A, A = M18.firsts p s := ⟨_, rfl⟩
  obtain ⟨B, hB⟩ : ∃ B, B = lates p s q := ⟨_, rfl⟩
  obtain ⟨A', hA'⟩ : ∃ A, A = M18.firsts p' s' := ⟨_, rfl⟩
  obtain ⟨B', hB'⟩ : ∃ B, B = lates p' s' q' := ⟨_, rfl⟩
  have e1 : rndD ca.c_Rounds p s q = .ins ca.c_Rounds fNames [.tup (A.map nD), nD s, nD q, .tup (B.map nD)] := by rw [hA, hB]; rfl
  have e2 : rndD ca.c_Rounds p' s' q' = .ins ca.c_Rounds fNames [.tup (A'.map nD), nD s', nD q', .tup (B'.map nD)] := by rw [hA', hB']; rfl
  have ed : decide (formOf p s q = formOf p' s' q') = (decide (A = A') && (decide (s = s') && (decide (q = q') && decide (B = B')))) := by
    unfold formOf
    rw [← hA, ← hB, ← hA', ← hB', Bool.eq_iff_iff]
    simp only [decide_eq_true_eq, Frm.mk.injEq, Bool.and_eq_true]
  rw [e1, e2, ed]
  unfold oOwn
  simp only [insOf]
  have q1 := eq_tup (A := A) (B := A') (m := m)
  have q4 := eq_tup (A := B) (B := B') (m := m)
  have q2 : oEq (nD s) (nD s') m = .ok (.bl (decide (s = s'))) m := EncN.oEq (by decide) s s'
  have q3 : oEq (nD q) (nD q') m = .ok (.bl (decide (q = q'))) m := EncN.oEq (by decide) q q'
  have f_eq : f_Rounds___eq__ ca [.ins ca.c_Rounds fNames [.tup (A.map nD), nD s, nD q, .tup (B.map nD)], .ins ca.c_Rounds fNames [.tup (A'.map nD), nD s', nD q', .tup (B'.map nD)]] m = .ok (.bl (decide (A = A') && (decide (s = s') && (decide (q = q') && decide (B = B'))))) m := by
    unfold f_Rounds___eq__ runD b_Rounds___eq__
    generalize A.map nD = Z1 at *
    generalize A'.map nD = Z2 at *
    generalize B.map nD = Z3 at *
    generalize B'.map nD = Z4 at *
    simp only [startD, List.length, List.replicate]
    simp [isiC, fl1, fl2, fl3, fl4, q1, q2, q3, q4]
    by_cases h1 : A = A' <;> by_cases h2 : s = s' <;> by_cases h3 : q = q' <;> simp [h1, h2, h3] <;> rw [trunc_same rfl]
  simp [callD, f_eq, quiet]
end K18

/-! K18K: _law_toggle. -/
namespace K18
open PySem PySem.Spec PyProof.Rows L2 DL M18
theorem fzN (L : List Nat) {n : Nat} {z : D} : D.fzs n z (L.map nD) = L.map nD := by
  induction L with
  | nil => simp [D.fzs]
  | cons a r ih => simp [D.fzs, D.fz, ih]
theorem hasN (L : List Nat) {n : Nat} : D.hass n (L.map nD) = false := by
  induction L with
  | nil => simp [D.hass]
  | cons a r ih => simp [D.hass, D.has, ih]
/-- a list of numbers is frozen; m stands below -/
theorem sFz_any {i n N : Nat} {f : SX} {L : List Nat} {m x : Mem} {loc : DL.Loc} (hU : Und m) (hx : Mem.und m.length x = true) (hn : m.length ≤ n) (hN : N ≤ m.length) (hi : loc[i]? = some (some (.obj n))) (e : (m ++ x)[n]? = some (.lst (L.map nD))) :
    sFz i f N loc (m ++ x) = f N (loc.map (Option.map (D.fz n (.lst (L.map nD))))) ((m ++ x).set n .dead) := by
  unfold sFz
  rw [hi]
  dsimp only
  rw [if_pos (Nat.le_trans hN hn), e]
  simp only [DO.val, hasN, if_true]
  congr 1
  rw [List.map_append, fzM_und hn hU, fzM_und hn hx]
theorem fz_frm {n : Nat} {z : D} {b c : Bool} {f : Frm} : D.fz n z (frmD b c f) = frmD b c f := fz_pure und_frm
theorem fz_nD {n k : Nat} {z : D} : D.fz n z (nD k) = nD k := by simp [D.fz]
theorem fz_lst {n : Nat} {z : D} {L : List Nat} : D.fz n z (.lst (L.map nD)) = .lst (L.map nD) := by simp [D.fz, fzN]
theorem srt_nat (A : List Nat) : ∃ L : List Nat, (srtI (castL A)).map D.int = L.map nD ∧ L.Perm A := by
  have nn : ∀ z ∈ srtI (castL A), ∃ n : Nat, z = (n : Int) := fun z hz => by
    obtain ⟨n, _, e⟩ := List.mem_map.mp ((srtI_perm _).mem_iff.mp hz)
    exact ⟨n, e.symm⟩
  have e : castL ((srtI (castL A)).map Int.toNat) = srtI (castL A) := by
    unfold castL
    rw [List.map_map]
    conv => rhs; rw [← List.map_id (srtI (List.map _ A))]
    refine List.map_congr_left fun z hz => ?_
    obtain ⟨n, rfl⟩ := nn z hz
    rfl
  refine ⟨(srtI (castL A)).map Int.toNat, ?_, ?_⟩
  · conv => lhs; rw [← e]
    rw [List.map_map]
    rfl
  · rw [← cast_perm, e]
    exact srtI_perm _
theorem erase_cast : ∀ (L : List Nat) (k : Nat), (castL L).erase (k : Int) = castL (L.erase k)
  | [], k => rfl
  | a :: r, k => by
    by_cases e : a = k
    · subst e; simp [castL]
    · have e2 : ¬ ((a : Int) = (k : Int)) := by omega
      have ih := erase_cast r k
      unfold castL at ih ⊢
      rw [List.map_cons, List.erase_cons_tail (by simpa using e2), ih, List.erase_cons_tail (by simpa using e)]
      rfl
theorem remove_ok {n k : Nat} {L : List Nat} {m : Mem} (h : m[n]? = some (.lst (L.map nD))) (hk : k ∈ L) : LstM fRemove (.obj n) [nD k] m = .ok .non (m.set n (.lst ((L.erase k).map nD))) := by
  have e : fRemove (L.map nD) [nD k] = some (.non, (L.erase k).map nD) := by
    unfold fRemove
    simp only [intsD_nat]
    have hin : (k : Int) ∈ L.map fun n : Nat => (n : Int) := in_cast.mpr hk
    rw [if_pos hin]
    have := erase_cast L k
    unfold castL at this
    rw [this, List.map_map]
    rfl
  simp [LstM, h, e]
theorem oIn_obj {neg : Bool} {n k : Nat} {L : List Nat} {m : Mem} (h : m[k]? = some (.lst (L.map nD))) : oIn neg (nD n) (.obj k) m = .ok (.bl (if neg then !decide (n ∈ L) else decide (n ∈ L))) m := by
  have : inD m (nD n) (.obj k) = some (decide (n ∈ L)) := by
    have k0 : keysOf m (.obj k) = none := by simp [keysOf, h]
    have k1 : numsD m (.obj k) = some (L.map fun n : Nat => (n : Int)) := by
      rw [SqIs.nums (.inr (.inr ⟨k, rfl, h⟩)), intsD_nat]
    unfold inD
    rw [k0]
    show (numsD m (.obj k)).map _ = _
    rw [k1, Option.map_some]
    congr 1
    exact decide_eq_decide.mpr in_cast
  unfold oIn
  rw [this]
theorem addObj {k n : Nat} {L : List Nat} {m : Mem} (h : m[k]? = some (.lst (L.map nD))) (hz : L.length ≤ 100000) : oAdd false (.obj k) (.lst [nD n]) m = .ok (.lst ((L ++ [n]).map nD)) m := by
  unfold oAdd
  simp [lget, h, newLs, show L.length + 1 ≤ sizeLine from szL (by omega), newL]
theorem sorted_t {A : List Nat} {m : Mem} : fSorted true [.lst (A.map nD)] m = newL true ((srtI (castL A)).map D.int) m := by
  have h : SqIs m (.lst (A.map nD)) (A.map nD) := .inl rfl
  unfold fSorted
  simp only [h.nums, intsD_nat]
/-- what the toggle makes of a form -/
structure Tog (f f' : Frm) : Prop where
  ok : Ok f'
  s : f'.s = f.s
  q : f'.q = f.q
  ne : has f' ≠ has f
theorem nodup_add {L L' : List Nat} {k : Nat} (h : L.Nodup) (hk : k ∉ L) (hp : L'.Perm (L ++ [k])) : L'.Nodup := by
  refine hp.nodup_iff.mpr ?_
  rw [List.nodup_append]
  exact ⟨h, by simp, fun a ha b hb e => by rw [List.mem_singleton] at hb; subst hb; subst e; exact hk ha⟩
theorem tog_first_out {f : Frm} (h : Ok f) {k : Nat} (hk : k < f.s) (hm : k ∈ f.first) : Tog f { f with first := f.first.erase k } := by
  refine ⟨⟨h.q0, h.fn.sublist List.erase_sublist, fun n hn => h.fl n (List.mem_of_mem_erase hn), h.ln, h.ll⟩, rfl, rfl, fun e => ?_⟩
  have := congrFun e k
  simp only [has, hk, if_true, hm, decide_true, decide_eq_true_eq] at this
  exact (h.fn.mem_erase_iff.mp this).1 rfl
theorem tog_first_in {f : Frm} (h : Ok f) {k : Nat} {L : List Nat} (hk : k < f.s) (hm : k ∉ f.first) (hp : L.Perm (f.first ++ [k])) : Tog f { f with first := L } := by
  refine ⟨⟨h.q0, nodup_add h.fn hm hp, fun n hn => ?_, h.ln, h.ll⟩, rfl, rfl, fun e => ?_⟩
  · rcases List.mem_append.mp (hp.mem_iff.mp hn) with z | z
    · exact h.fl n z
    · rw [List.mem_singleton] at z; subst z; exact hk
  · have := congrFun e k
    have hin : k ∈ L := hp.mem_iff.mpr (by simp)
    simp [has, hk, hm, hin] at this
theorem tog_late_out {f : Frm} (h : Ok f) {k : Nat} (hk : k < f.q) (hm : k ∈ f.late) : Tog f { f with late := f.late.erase k } := by
  refine ⟨⟨h.q0, h.fn, h.fl, h.ln.sublist List.erase_sublist, fun n hn => h.ll n (List.mem_of_mem_erase hn)⟩, rfl, rfl, fun e => ?_⟩
  have := congrFun e (f.s + k)
  have a : ¬ f.s + k < f.s := by omega
  simp only [has, a, if_false, show f.s + k - f.s = k by omega, Nat.mod_eq_of_lt hk, hm, decide_true, decide_eq_true_eq] at this
  exact (h.ln.mem_erase_iff.mp this).1 rfl
theorem tog_late_in {f : Frm} (h : Ok f) {k : Nat} {L : List Nat} (hk : k < f.q) (hm : k ∉ f.late) (hp : L.Perm (f.late ++ [k])) : Tog f { f with late := L } := by
  refine ⟨⟨h.q0, h.fn, h.fl, nodup_add h.ln hm hp, fun n hn => ?_⟩, rfl, rfl, fun e => ?_⟩
  · rcases List.mem_append.mp (hp.mem_iff.mp hn) with z | z
    · exact h.ll n z
    · rw [List.mem_singleton] at z; subst z; exact hk
  · have := congrFun e (f.s + k)
    have a : ¬ f.s + k < f.s := by omega
    have hin : k ∈ L := hp.mem_iff.mpr (by simp)
    simp [has, a, show f.s + k - f.s = k by omega, Nat.mod_eq_of_lt hk, hm, hin] at this
theorem len_first {f : Frm} (h : Ok f) : f.first.length ≤ f.s := by
  have := (perm_of h.fn (lt_nodup (firsts_lt (p := has f) (s := f.s))) fun n => by rw [mem_firsts, has_first h]).length_eq
  have l2 : (M18.firsts (has f) f.s).length ≤ f.s := by unfold M18.firsts; exact Nat.le_trans (List.length_filter_le _ _) (by simp)
  omega
theorem len_late {f : Frm} (h : Ok f) : f.late.length ≤ f.q := by
  have := (perm_of h.ln (lt_nodup (lates_lt (p := has f) (s := f.s) (q := f.q))) fun n => by rw [mem_lates, has_late h]).length_eq
  have l2 : (lates (has f) f.s f.q).length ≤ f.q := by unfold lates; exact Nat.le_trans (List.length_filter_le _ _) (by simp)
  omega
theorem toggle_ok (ca : CA) {f : Frm} (h : Ok f) {at_ : Nat} {m : Mem} (hU : Und m) (ha : at_ < f.s + f.q) (hs : f.s ≤ 1000) (hq : f.q ≤ 1000) : ∃ f', Tog f f' ∧ f__law_toggle ca [frmD true true f, nD at_] m = .ok (frmD true true f') m := by
  have lf := len_first h
  have ll := len_late h
  obtain ⟨F, hF⟩ : ∃ F, F = f.first.map nD := ⟨_, rfl⟩
  have g0 : ∀ x : Mem, (m ++ DO.lst (f.first.map nD) :: x)[m.length]? = some (.lst (f.first.map nD)) := fun x => by simp
  have g1 : ∀ (y : DO) (x : Mem), (m ++ y :: DO.lst (f.late.map nD) :: x)[m.length + 1]? = some (.lst (f.late.map nD)) := fun y x => by
    rw [List.getElem?_append_right (by omega), show m.length + 1 - m.length = 1 by omega]; rfl
  have i0 : ∀ m, oIx (frmD true true f) (.int 0) m = .ok (.lst (f.first.map nD)) m := fun m => f0
  have i3 : ∀ m, oIx (frmD true true f) (.int 3) m = .ok (.lst (f.late.map nD)) m := fun m => f3
  have in0 : oIn false (nD at_) (.obj m.length) (m ++ [.lst (f.first.map nD), .lst (f.late.map nD)]) = .ok (.bl (decide (at_ ∈ f.first))) (m ++ [.lst (f.first.map nD), .lst (f.late.map nD)]) := oIn_obj (g0 _)
  have unx : ∀ x : Mem, (∀ o ∈ x, ∃ L : List Nat, o = .lst (L.map nD) ∨ o = .dead) → Mem.und m.length x = true := fun x hx => und_all.mpr fun o ho => by
    obtain ⟨L, e | e⟩ := hx o ho <;> subst e <;> simp [DO.und, undN]
  have s0 : ∀ (y z : DO) (x : Mem), (m ++ y :: x).set m.length z = m ++ z :: x := fun y z x => by simp
  have s1 : ∀ (y u z : DO) (x : Mem), (m ++ y :: u :: x).set (m.length + 1) z = m ++ y :: z :: x := fun y u z x => by
    rw [List.set_append_right _ _ (by omega), show m.length + 1 - m.length = 1 by omega]; rfl
  have s2 : ∀ (y u v z : DO), (m ++ [y, u, v]).set (m.length + 2) z = m ++ [y, u, z] := fun y u v z => by
    rw [List.set_append_right _ _ (by omega), show m.length + 2 - m.length = 2 by omega]; rfl
  have g2 : ∀ (y u v : DO), (m ++ [y, u, v])[m.length + 2]? = some v := fun y u v => by
    rw [List.getElem?_append_right (by omega), show m.length + 2 - m.length = 2 by omega]; rfl
  have l2 : ∀ y u : DO, (m ++ [y, u]).length = m.length + 2 := fun y u => by simp
  have b0 : ∀ (x : Mem) {r : R D} {tg : Tag r}, ifB "list" (m ++ DO.lst (f.first.map nD) :: x) (.obj m.length) r tg = r := fun x _ _ => ifB_obj (g0 x)
  have b1 : ∀ (y : DO) (x : Mem) {r : R D} {tg : Tag r}, ifB "list" (m ++ y :: DO.lst (f.late.map nD) :: x) (.obj (m.length + 1)) r tg = r := fun y x _ _ => ifB_obj (g1 y x)
  have z4 : (4 : Nat) ≤ sizeLine := szL (by decide)
  have z1 : (1 : Nat) ≤ sizeLine := szL (by decide)
  obtain ⟨X, hX⟩ : ∃ X, X = frmD true true f := ⟨_, rfl⟩
  have i1 : ∀ m, oIx X (.int 1) m = .ok (nD f.s) m := fun m => by rw [hX]; exact f1
  have i2 : ∀ m, oIx X (.int 2) m = .ok (nD f.q) m := fun m => by rw [hX]; exact f2
  have hfz : ∀ n z, D.fz n z X = X := fun n z => by rw [hX]; exact fz_frm
  rw [← hX] at i0 i3 ⊢
  have hum : Mem.und m.length m = true := hU
  have ne10 : m.length + 1 ≠ m.length := by omega
  have ne20 : m.length + 2 ≠ m.length := by omega
  have ne21 : m.length + 2 ≠ m.length + 1 := by omega
  have ne12 : m.length + 1 ≠ m.length + 2 := by omega
  have ne02 : m.length ≠ m.length + 2 := by omega
  unfold f__law_toggle runD b__law_toggle
  by_cases c1 : at_ < f.s
  · by_cases c2 : at_ ∈ f.first
    · refine ⟨_, tog_first_out h c1 c2, ?_⟩
      have rm := remove_ok (n := m.length) (m := m ++ [.lst (f.first.map nD), .lst (f.late.map nD)]) (g0 _) c2
      rw [s0] at rm
      simp [startD, i0, i3, i1, c1, in0, c2, b0, rm]
      rw [sFz_any (L := f.first.erase at_) hU (by simp [Mem.und, DO.und, undN]) (Nat.le_refl _) (Nat.le_refl _) rfl (by simp), s0]
      simp only [List.map_cons, List.map_nil, Option.map_some, hfz, fz_nD, fz_self, fz_ne ne10]
      rw [sFz_any (L := f.late) hU (by simp [Mem.und, DO.und, undN]) (by omega) (Nat.le_refl _) rfl (g1 _ _), s1]
      simp only [List.map_cons, List.map_nil, Option.map_some, hfz, fz_nD, fz_self, fz_lst]
      simp [i1, i2, newT_tup, z4]
      rw [trunc_app rfl (by simp [undN]) hum]
      rfl
    · obtain ⟨L, e1, e2⟩ := srt_nat (f.first ++ [at_])
      refine ⟨_, tog_first_in h c1 c2 e2, ?_⟩
      have ad := addObj (k := m.length) (n := at_) (m := m ++ [.lst (f.first.map nD), .lst (f.late.map nD)]) (g0 _) (by omega)
      have so : fSorted true [.lst ((f.first ++ [at_]).map nD)] (m ++ [.lst (f.first.map nD), .lst (f.late.map nD)]) = .ok (.obj (m.length + 2)) (m ++ [.lst (f.first.map nD), .lst (f.late.map nD), .lst (L.map nD)]) := by
        rw [sorted_t, e1]
        simp [newL]
      have nl : newLs false [nD at_] (m ++ [.lst (f.first.map nD), .lst (f.late.map nD)]) = .ok (.lst [nD at_]) (m ++ [.lst (f.first.map nD), .lst (f.late.map nD)]) := newLs_lst z1
      generalize (f.first ++ [at_]).map nD = Z at ad so
      simp [startD, i0, i3, i1, c1, in0, c2, nl, ad, so]
      rw [sFz_any (L := L) hU (by simp [Mem.und, DO.und, undN]) (by omega) (Nat.le_refl _) rfl (g2 _ _ _), s2]
      simp only [List.map_cons, List.map_nil, Option.map_some, hfz, fz_nD, fz_self, fz_ne ne12]
      rw [sFz_any (L := f.late) hU (by simp [Mem.und, DO.und, undN]) (by omega) (Nat.le_refl _) rfl (g1 _ _), s1]
      simp only [List.map_cons, List.map_nil, Option.map_some, hfz, fz_nD, fz_self, fz_lst]
      simp [i1, i2, newT_tup, z4]
      rw [trunc_app rfl (by simp [undN]) hum]
      rfl
  · obtain ⟨k, hk⟩ : ∃ k, k = at_ - f.s := ⟨_, rfl⟩
    have ek : (at_ : Int) - (f.s : Int) = (k : Int) := by omega
    have kq : k < f.q := by omega
    have in1 : oIn false (nD k) (.obj (m.length + 1)) (m ++ [.lst (f.first.map nD), .lst (f.late.map nD)]) = .ok (.bl (decide (k ∈ f.late))) (m ++ [.lst (f.first.map nD), .lst (f.late.map nD)]) := oIn_obj (g1 _ _)
    by_cases c2 : k ∈ f.late
    · refine ⟨_, tog_late_out h kq c2, ?_⟩
      have rm := remove_ok (n := m.length + 1) (m := m ++ [.lst (f.first.map nD), .lst (f.late.map nD)]) (g1 _ _) c2
      rw [s1] at rm
      simp [startD, i0, i3, i1, c1, ek, in1, c2, b1, rm]
      rw [sFz_any (L := f.first) hU (by simp [Mem.und, DO.und, undN]) (Nat.le_refl _) (Nat.le_refl _) rfl (g0 _), s0]
      simp only [List.map_cons, List.map_nil, Option.map_some, hfz, fz_nD, fz_self, fz_ne ne10]
      rw [sFz_any (L := f.late.erase k) hU (by simp [Mem.und, DO.und, undN]) (by omega) (Nat.le_refl _) rfl (by rw [List.getElem?_append_right (by omega), show m.length + 1 - m.length = 1 by omega]; rfl), s1]
      simp only [List.map_cons, List.map_nil, Option.map_some, hfz, fz_nD, fz_self, fz_lst]
      simp [i1, i2, newT_tup, z4]
      rw [trunc_app rfl (by simp [undN]) hum]
      rfl
    · obtain ⟨L, e1, e2⟩ := srt_nat (f.late ++ [k])
      refine ⟨_, tog_late_in h kq c2 e2, ?_⟩
      have ad := addObj (k := m.length + 1) (n := k) (m := m ++ [.lst (f.first.map nD), .lst (f.late.map nD)]) (g1 _ _) (by omega)
      have so : fSorted true [.lst ((f.late ++ [k]).map nD)] (m ++ [.lst (f.first.map nD), .lst (f.late.map nD)]) = .ok (.obj (m.length + 2)) (m ++ [.lst (f.first.map nD), .lst (f.late.map nD), .lst (L.map nD)]) := by
        rw [sorted_t, e1]
        simp [newL]
      have nl : newLs false [nD k] (m ++ [.lst (f.first.map nD), .lst (f.late.map nD)]) = .ok (.lst [nD k]) (m ++ [.lst (f.first.map nD), .lst (f.late.map nD)]) := newLs_lst z1
      generalize (f.late ++ [k]).map nD = Z at ad so
      simp [startD, i0, i3, i1, c1, ek, in1, c2, nl, ad, so]
      rw [sFz_any (L := f.first) hU (by simp [Mem.und, DO.und, undN]) (Nat.le_refl _) (Nat.le_refl _) rfl (g0 _), s0]
      simp only [List.map_cons, List.map_nil, Option.map_some, hfz, fz_nD, fz_self, fz_ne ne20]
      rw [sFz_any (L := L) hU (by simp [Mem.und, DO.und, undN]) (by omega) (Nat.le_refl _) rfl (g2 _ _ _), s2]
      simp only [List.map_cons, List.map_nil, Option.map_some, hfz, fz_nD, fz_self, fz_lst]
      simp [i1, i2, newT_tup, z4]
      rw [trunc_app rfl (by simp [undN]) hum]
      rfl
end K18

/-! K18L: _law_form. -/
namespace K18
open PySem PySem.Spec PyProof.Rows L2 DL M18
theorem ix_nat {L : List Nat} {k : Nat} (h : k < L.length) {m : Mem} : oIx (.lst (L.map nD)) (nD k) m = .ok (nD (L.getD k 0)) m := by
  refine oIx_lst ?_
  unfold atI ixN
  simp [h, List.getD_eq_getElem?_getD, List.getElem?_eq_getElem h]
section
variable (ca : CA) {n : Nat} {m : Mem}
/-- the memory with the box B at n -/
abbrev MB (m : Mem) (n : Nat) (B : Bag) : Mem := m.set n (bagO B)
theorem takeM (hn : n < m.length) (B : Bag) {z : Int} (hz : 0 < z) (hz2 : z < 2 ^ 64) : ∃ (v : Nat) (B' : Bag), (v : Int) < z ∧ f__law_take ca [.obj n, .int z] (MB m n B) = .ok (nD v) (MB m n B') := by
  have hg : (MB m n B)[n]? = some (bagO B) := List.getElem?_set_self hn
  obtain ⟨v, B', h1, h2⟩ := take_ok ca hg hz hz2
  exact ⟨v, B', h1, by rw [h2, List.set_set]⟩
theorem undMB (hU : Und m) (B : Bag) : Und (MB m n B) := bagUnd hU
theorem lenMB (B : Bag) : (MB m n B).length = m.length := by simp
theorem startMB {B : Bag} (h : m[n]? = some (bagO B)) : MB m n B = m := by
  apply List.ext_getElem?
  intro j
  rw [List.getElem?_set]
  split
  · rename_i ej
    subst ej
    rw [if_pos (List.getElem?_eq_some_iff.mp h).1, h]
  · rfl
theorem drawsM (hU : Und m) (hn : n < m.length) (B : Bag) {i t : Nat} {z : Int} {fi : ES} {te : EX} {vs : List Nat} {loc : DL.Loc} (hf : fi loc (MB m n B) = .ok (.st ((List.range t).map nD)) (MB m n B)) (hz : 0 < z) (hz2 : z < 2 ^ 64) (hl : t ≤ 1000)
    (he : ∀ d m1, te ((wipeD loc vs).set i (some d)) m1 = f__law_take ca [.obj n, .int z] m1) :
    ∃ (us : List Nat) (B' : Bag), us.length = t ∧ eLc false fi (gaName i) tT te vs loc (MB m n B) = .ok (.lst (us.map nD)) (MB m n B') := by
  obtain ⟨us, B', h1, _, h3⟩ := draws_ok ca hf (undMB hU B) (List.getElem?_set_self hn) hz hz2 (by simp; exact szL (by omega)) (fun d _ m1 => he d m1)
  exact ⟨us, B', by simpa using h1, by rw [h3, List.set_set]⟩
theorem form_start (hn : n < m.length) (B : Bag) {z : Int} (hz : 0 < z) (hz2 : z < 2 ^ 64) (rest : SX) (N : Nat) (tl : DL.Loc) : ∃ (P S : Nat) (B' : Bag), 1 ≤ P ∧ P ≤ 30 ∧ S ≤ 200 ∧
    sSeq (sSet 2 (e2 (oAdd false) (eC (.int 1)) (eCall (callD 2 (f__law_take ca)) (aCons (eVar 0) (aCons (eC (.int 8)) aNil))))) (sSeq (sSet 3 (eCall (callD 2 (f__law_take ca)) (aCons (eVar 0) (aCons (eC (.int 15)) aNil))))
    (sSeq (sIf (tBl (e2 oEq (eCall (callD 2 (f__law_take ca)) (aCons (eVar 0) (aCons (eVar 1) aNil))) (eC (.int 0)))) (sSeq (sSet 2 (e2 (oAdd false) (eC (.int 1)) (eCall (callD 2 (f__law_take ca)) (aCons (eVar 0) (aCons (eC (.int 30)) aNil)))))
    (sSeq (sSet 3 (eCall (callD 2 (f__law_take ca)) (aCons (eVar 0) (aCons (eC (.int 201)) aNil)))) sNil)) sNil) rest)) N (some (.obj n) :: some (.int z) :: none :: none :: tl) (MB m n B) =
    rest N (some (.obj n) :: some (.int z) :: some (nD P) :: some (nD S) :: tl) (MB m n B') := by
  obtain ⟨v1, B1, a1, e1⟩ := takeM ca hn B (show (0 : Int) < 8 by decide) (by decide)
  obtain ⟨v2, B2, a2, e2⟩ := takeM ca hn B1 (show (0 : Int) < 15 by decide) (by decide)
  obtain ⟨v3, B3, a3, e3⟩ := takeM ca hn B2 hz hz2
  obtain ⟨v4, B4, a4, e4⟩ := takeM ca hn B3 (show (0 : Int) < 30 by decide) (by decide)
  obtain ⟨v5, B5, a5, e5⟩ := takeM ca hn B4 (show (0 : Int) < 201 by decide) (by decide)
  obtain ⟨P, hP⟩ : ∃ P, P = 1 + v1 := ⟨_, rfl⟩
  obtain ⟨P2, hP2⟩ : ∃ P, P = 1 + v4 := ⟨_, rfl⟩
  have c1 : (1 : Int) + (v1 : Int) = (P : Int) := by omega
  have c2 : (1 : Int) + (v4 : Int) = (P2 : Int) := by omega
  by_cases h : v3 = 0
  · subst h
    refine ⟨P2, v5, B5, by omega, by omega, by omega, ?_⟩
    simp [e1, e2, e3, e4, e5, c1, c2]
  · refine ⟨P, v2, B3, by omega, by omega, by omega, ?_⟩
    simp [e1, e2, e3, c1, h]
end
end K18

/-! K18M: _law_form, its middle. -/
namespace K18
open PySem PySem.Spec PyProof.Rows L2 DL M18
section
variable (ca : CA) {n : Nat} {m : Mem}
theorem form_turn (hU : Und m) (hn : n < m.length) (B : Bag) {z : D} {P S : Nat} (hP : 1 ≤ P) (hP2 : P ≤ 30) (rest : SX) (N : Nat) (tl : DL.Loc) : ∃ (T : Nat) (B' : Bag) (x4 : D), 1 ≤ T ∧ T ≤ P ∧
    sSeq (sSet 4 (eLc false (eArgs range2 (aCons (eC (.int 1)) (aCons (e2 (oAdd false) (eVar 2) (eC (.int 1))) aNil))) (gaName 5) (tBl (e2 oEq (e2 oMod (eCall fInt (aCons (eVar 2) aNil)) (eVar 5)) (eC (.int 0)))) (eVar 5) [5]))
    (sSeq (sSet 6 (e2 oIx (eVar 4) (eCall (callD 2 (f__law_take ca)) (aCons (eVar 0) (aCons (eCall fLen (aCons (eVar 4) aNil)) aNil)))))
    (sSeq (sIf (tBl (e2 oEq (eCall (callD 2 (f__law_take ca)) (aCons (eVar 0) (aCons (eC (.int 2)) aNil))) (eC (.int 0)))) (sSeq (sSet 6 (eVar 2)) sNil) sNil) rest)) N
      (some (.obj n) :: some z :: some (nD P) :: some (nD S) :: none :: none :: none :: tl) (MB m n B) =
    rest N (some (.obj n) :: some z :: some (nD P) :: some (nD S) :: some x4 :: none :: some (nD T) :: tl) (MB m n B') := by
  obtain ⟨A, hA⟩ : ∃ A, A = ((List.range P).filter fun k => decide (P % (1 + k) = 0)).map fun k => 1 + k := ⟨_, rfl⟩
  have lc : eLc false (eArgs range2 (aCons (eC (.int 1)) (aCons (e2 (oAdd false) (eVar 2) (eC (.int 1))) aNil))) (gaName 5) (tBl (e2 oEq (e2 oMod (eCall fInt (aCons (eVar 2) aNil)) (eVar 5)) (eC (.int 0)))) (eVar 5) [5]
      (some (.obj n) :: some z :: some (nD P) :: some (nD S) :: none :: none :: none :: tl) (MB m n B) = .ok (.lst (A.map nD)) (MB m n B) := by
    rw [hA, List.map_map]
    refine lcA (g := fun k => nD (1 + k)) (p := fun k => decide (P % (1 + k) = 0)) (f := nD ∘ fun k => 1 + k) (L := List.range P) (s := .st ((List.range P).map fun k => nD (1 + k))) ?_ srcSt (by simp; exact szL (by omega)) (fun a ha x => ?_) (fun a _ _ x => ?_) (fun _ _ _ => by simp) (undMB hU B)
    · have e1 : ((P : Int) + 1 - 1).toNat = P := by omega
      have := rangeD_from 1 P
      simp
      rw [range2_ok (smallR (by omega) (by omega)) (smallR (by omega) (by omega)), e1]
      show R.ok (Src.st (rangeD ((1 : Nat) : Int) 1 P)) _ = _
      rw [this]
    · obtain ⟨u, hu⟩ : ∃ u, u = 1 + a := ⟨_, rfl⟩
      rw [← hu]
      have em : ∀ m, oMod (nD P) (nD u) m = .ok (nD (P % u)) m := fun m => by rw [oMod_int (by omega)]; rfl
      have e0 : ∀ k : Nat, decide ((k : Int) = 0) = decide (k = 0) := fun k => decide_eq_decide.mpr ⟨fun h => by omega, fun h => by omega⟩
      have em2 : oMod (nD P) (nD u) (MB m n B ++ [x]) = .ok (nD (P % u)) (MB m n B ++ [x]) := em _
      generalize P % u = r at em2 ⊢
      simp [wipeD, em2, e0]
    · show _ = R.ok (nD (1 + a)) _
      generalize 1 + a = u
      simp [wipeD]
  have hA1 : 1 ∈ A := by
    rw [hA, List.mem_map]
    exact ⟨0, List.mem_filter.mpr ⟨List.mem_range.mpr (by omega), by simp [Nat.mod_one]⟩, rfl⟩
  have hA2 : ∀ a ∈ A, 1 ≤ a ∧ a ≤ P := fun a ha => by
    rw [hA, List.mem_map] at ha
    obtain ⟨k, hk, rfl⟩ := ha
    have := List.mem_range.mp (List.mem_filter.mp hk).1
    exact ⟨by omega, by omega⟩
  have hlen : 0 < A.length := List.length_pos_of_mem hA1
  have hlen2 : A.length ≤ 30 := by
    rw [hA, List.length_map]
    exact Nat.le_trans (List.length_filter_le _ _) (by simpa using hP2)
  have fl : fLen [.lst (A.map nD)] (MB m n B) = .ok (.int A.length) (MB m n B) := by simp [fLen, lenD, rget, lget]
  obtain ⟨v1, B1, a1, e1⟩ := takeM ca hn B (z := (A.length : Int)) (by omega) (by omega)
  obtain ⟨v2, B2, a2, e2'⟩ := takeM ca hn B1 (show (0 : Int) < 2 by decide) (by decide)
  have hv : v1 < A.length := by omega
  have ix := ix_nat (L := A) hv (m := MB m n B1)
  have hT := hA2 _ (show A.getD v1 0 ∈ A by rw [List.getD_eq_getElem?_getD, List.getElem?_eq_getElem hv]; exact List.getElem_mem hv)
  generalize A.getD v1 0 = T0 at ix hT
  generalize A.map nD = Z at lc fl ix
  by_cases h : v2 = 0
  · subst h
    exact ⟨P, B2, .lst Z, hP, Nat.le_refl _, by simp [lc, fl, e1, ix, e2']⟩
  · exact ⟨T0, B2, .lst Z, hT.1, hT.2, by simp [lc, fl, e1, ix, e2', h]⟩
theorem form_wheel (hU : Und m) (hn : n < m.length) (B : Bag) {z x4 : D} {P S T : Nat} (hT : 1 ≤ T) (hT2 : T ≤ 30) (rest : SX) (N : Nat) (tl : DL.Loc) : ∃ (W : List Nat) (B' : Bag) (x7 x8 : D), W.length = T ∧
    sSeq (sSet 7 (eCall (callD 2 (f__law_take ca)) (aCons (eVar 0) (aCons (eC (.int 8)) aNil))))
    (sSeq (sSet 8 (eCall (callD 2 (f__law_take ca)) (aCons (eVar 0) (aCons (eVar 6) aNil))))
    (sSeq (sSet 9 (eLc false (eArgs range1 (aCons (eVar 6) aNil)) (gaName 10) tT (eCall (callD 2 (f__law_take ca)) (aCons (eVar 0) (aCons (eC (.int 2)) aNil))) [10]))
    (sSeq (sIf (tBl (e2 oLt (eVar 7) (eC (.int 2)))) (sSeq (sSet 9 (eLc false (eArgs range1 (aCons (eVar 6) aNil)) (gaName 10) tT (eVar 7) [10]))
    sNil) (sSeq (sIf (tBl (e2 oLt (eVar 7) (eC (.int 4)))) (sSeq (sSet 9 (eLc false (eArgs range1 (aCons (eVar 6) aNil)) (gaName 10) tT (eCall fInt (aCons (e2 oEq (eVar 10) (eVar 8)) aNil)) [10]))
    sNil) (sSeq (sIf (tBl (e2 oEq (eVar 7) (eC (.int 4)))) (sSeq (sSet 9 (eLc false (eArgs range1 (aCons (eVar 6) aNil)) (gaName 10) tT (eCall fInt (aCons (e2 oNe (eVar 10) (eVar 8)) aNil)) [10]))
    sNil) sNil)
    sNil))
    sNil)) rest))) N
      (some (.obj n) :: some z :: some (nD P) :: some (nD S) :: some x4 :: none :: some (nD T) :: none :: none :: none :: none :: tl) (MB m n B) =
    rest N (some (.obj n) :: some z :: some (nD P) :: some (nD S) :: some x4 :: none :: some (nD T) :: some x7 :: some x8 :: some (.lst (W.map nD)) :: none :: tl) (MB m n B') := by
  obtain ⟨v1, B1, a1, q1⟩ := takeM ca hn B (show (0 : Int) < 8 by decide) (by decide)
  obtain ⟨v2, B2, a2, q2⟩ := takeM ca hn B1 (z := (T : Int)) (by omega) (by omega)
  have rg : ∀ B : Bag, range1 [nD T] (MB m n B) = .ok (.st ((List.range T).map nD)) (MB m n B) := fun B => by
    rw [range1_ok (smallR (by omega) (by omega)), Int.toNat_natCast, rangeD_nat]
  obtain ⟨us, B3, u1, q3⟩ := drawsM ca hU hn B2 (i := 10) (t := T) (z := 2) (fi := eArgs range1 (aCons (eVar 6) aNil)) (te := eCall (callD 2 (f__law_take ca)) (aCons (eVar 0) (aCons (eC (.int 2)) aNil))) (vs := [10])
    (loc := some (.obj n) :: some z :: some (nD P) :: some (nD S) :: some x4 :: none :: some (nD T) :: some (nD v1) :: some (nD v2) :: none :: none :: tl) (by simp [rg]) (by decide) (by decide) (by omega) (fun d m1 => by simp [wipeD])
  have bI : ∀ b : Bool, fInt [.bl b] = fun m => .ok (nD (if b = true then 1 else 0)) m := fun b => by funext m; cases b <;> rfl
  have L0 : (some (.obj n) :: some z :: some (nD P) :: some (nD S) :: some x4 :: none :: some (nD T) :: some (nD v1) :: some (nD v2) :: some (.lst (us.map nD)) :: none :: tl : DL.Loc) = (some (.obj n) :: some z :: some (nD P) :: some (nD S) :: some x4 :: none :: some (nD T) :: some (nD v1) :: some (nD v2) :: some (.lst (us.map nD)) :: none :: tl : DL.Loc) := rfl
  have wh : ∀ (te : EX) (f : Nat → Nat), (∀ a x, te ((wipeD (some (.obj n) :: some z :: some (nD P) :: some (nD S) :: some x4 :: none :: some (nD T) :: some (nD v1) :: some (nD v2) :: some (.lst (us.map nD)) :: none :: tl) [10]).set 10 (some (nD a))) (MB m n B3 ++ [x]) = .ok (nD (f a)) (MB m n B3 ++ [x])) →
      eLc false (eArgs range1 (aCons (eVar 6) aNil)) (gaName 10) tT te [10] (some (.obj n) :: some z :: some (nD P) :: some (nD S) :: some x4 :: none :: some (nD T) :: some (nD v1) :: some (nD v2) :: some (.lst (us.map nD)) :: none :: tl) (MB m n B3) = .ok (.lst (((List.range T).map f).map nD)) (MB m n B3) := by
    intro te f h
    rw [List.map_map]
    exact lcT (g := nD) (L := List.range T) (s := .st ((List.range T).map nD)) (by simp [rg]) srcSt (by simp; exact szL (by omega)) (fun a _ x => h a x) (fun _ _ => by simp) (undMB hU B3)
  have eN : ∀ (a b : Nat) m, oEq (nD a) (nD b) m = .ok (.bl (decide (a = b))) m := fun a b m => EncN.oEq (by decide) a b
  have nN : ∀ (a b : Nat) m, oNe (nD a) (nD b) m = .ok (.bl (!decide (a = b))) m := fun a b m => EncN.oNe (by decide) a b
  have w1 := wh (eVar 7) (fun _ => v1) (fun a x => by simp [wipeD])
  have w2 := wh (eCall fInt (aCons (e2 oEq (eVar 10) (eVar 8)) aNil)) (fun a => if decide (a = v2) = true then 1 else 0) (fun a x => by
    simp [wipeD, bI]
    by_cases h : a = v2
    · simp [h]
    · have h2 : ¬ (a : Int) = (v2 : Int) := by omega
      simp [h, h2])
  have w3 := wh (eCall fInt (aCons (e2 oNe (eVar 10) (eVar 8)) aNil)) (fun a => if (!decide (a = v2)) = true then 1 else 0) (fun a x => by
    simp [wipeD, bI]
    by_cases h : a = v2
    · simp [h]
    · have h2 : ¬ (a : Int) = (v2 : Int) := by omega
      simp [h, h2])
  by_cases h1 : v1 < 2
  · refine ⟨(List.range T).map fun _ => v1, B3, nD v1, nD v2, by simp, ?_⟩
    generalize ((List.range T).map fun _ => v1).map nD = Z at w1 ⊢
    have h1' : (v1 : Int) < 2 := by omega
    simp [q1, q2, q3, h1', w1]
  · have h1' : ¬ (v1 : Int) < 2 := by omega
    by_cases h2 : v1 < 4
    · refine ⟨(List.range T).map fun a => if decide (a = v2) = true then 1 else 0, B3, nD v1, nD v2, by simp, ?_⟩
      generalize ((List.range T).map fun a => if decide (a = v2) = true then 1 else 0).map nD = Z at w2 ⊢
      have h2' : (v1 : Int) < 4 := by omega
      simp [q1, q2, q3, h1', h2', w2]
    · have h2' : ¬ (v1 : Int) < 4 := by omega
      by_cases h3 : v1 = 4
      · refine ⟨(List.range T).map fun a => if (!decide (a = v2)) = true then 1 else 0, B3, nD v1, nD v2, by simp, ?_⟩
        generalize ((List.range T).map fun a => if (!decide (a = v2)) = true then 1 else 0).map nD = Z at w3 ⊢
        have h3' : (v1 : Int) = 4 := by omega
        simp [q1, q2, q3, h1', h2', h3', w3]
      · refine ⟨us, B3, nD v1, nD v2, u1, ?_⟩
        have h3' : ¬ (v1 : Int) = 4 := by omega
        simp [q1, q2, q3, h1', h2', h3']
end
end K18

/-! K18N: _law_form makes a form. -/
namespace K18
open PySem PySem.Spec PyProof.Rows L2 DL M18
section
variable (ca : CA) {n : Nat} {m : Mem}
theorem lstAdd {A B : List Nat} {m : Mem} (hz : A.length + B.length ≤ 100000) : oAdd false (.lst (A.map nD)) (.lst (B.map nD)) m = .ok (.lst ((A ++ B).map nD)) m := by
  rw [oAdd_lst rfl rfl (by simp; exact szL (by omega)), List.map_append] <;> rfl
theorem one_eq (k : Nat) (m : Mem) : oEq (nD k) (.int 1) m = .ok (.bl (decide (k = 1))) m := EncN.oEq (by decide) k 1
theorem filt_lt {p : Nat → Bool} {k : Nat} : ((List.range k).filter p).Pairwise (· < ·) := (range_lt k).sublist List.filter_sublist
theorem form_ok (hU : Und m) {B : Bag} (hB : m[n]? = some (bagO B)) {z : Int} (hz : 0 < z) (hz2 : z < 2 ^ 64) : ∃ (f : Frm) (B' : Bag), Ok f ∧ f.s ≤ 200 ∧ f.q ≤ 30 ∧ f__law_form ca [.obj n, .int z] m = .ok (frmD true true f) (MB m n B') := by
  have hn : n < m.length := (List.getElem?_eq_some_iff.mp hB).1
  have h0 : f__law_form ca [.obj n, .int z] m = trunc m.length (ofSR (b__law_form ca m.length (startD 17 [.obj n, .int z]) (MB m n B))) := by rw [startMB hB]; rfl
  rw [h0]
  have hs : startD 17 [.obj n, .int z] = some (.obj n) :: some (.int z) :: none :: none :: [none, none, none, none, none, none, none, none, none, none, none, none, none] := rfl
  rw [hs]
  unfold b__law_form
  obtain ⟨P, S, B1, hP, hP2, hS, e1⟩ := form_start ca hn B hz hz2 _ m.length [none, none, none, none, none, none, none, none, none, none, none, none, none]
  rw [e1]
  obtain ⟨T, B2, x4, hT, hT2, e2'⟩ := form_turn ca hU hn B1 (z := .int z) (S := S) hP hP2 _ m.length [none, none, none, none, none, none, none, none, none, none]
  rw [e2']
  obtain ⟨Wh, B3, x7, x8, hW, e3⟩ := form_wheel ca hU hn B2 (z := .int z) (x4 := x4) (P := P) (S := S) hT (by omega) _ m.length [none, none, none, none, none, none]
  rw [e3]
  obtain ⟨V, B4, hV, q4⟩ := takeM ca hn B3 (z := (S : Int) + 1) (by omega) (by omega)
  obtain ⟨v5, B5, h5, q5⟩ := takeM ca hn B4 (show (0 : Int) < 3 by decide) (by decide)
  have hVS : V ≤ S := by omega
  obtain ⟨O, hO, hO1⟩ : ∃ O : Int, (∀ m, oIx (.lst [.int 2, .int 2, .int 7]) (nD v5) m = .ok (.int O) m) ∧ 0 < O ∧ O < 2 ^ 64 := by
    have : v5 = 0 ∨ v5 = 1 ∨ v5 = 2 := by omega
    rcases this with e | e | e <;> subst e
    · exact ⟨2, fun m => oIx_lst rfl, by decide, by decide⟩
    · exact ⟨2, fun m => oIx_lst rfl, by decide, by decide⟩
    · exact ⟨7, fun m => oIx_lst rfl, by decide, by decide⟩
  have rg : ∀ (k : Nat), k ≤ 1000 → ∀ m, range1 [nD k] m = .ok (.st ((List.range k).map nD)) m := fun k hk m => by
    rw [range1_ok (smallR (by omega) (by omega)), Int.toNat_natCast, rangeD_nat]
  obtain ⟨us, B6, u1, q6⟩ := drawsM ca hU hn B5 (i := 10) (t := V) (z := O) (fi := eArgs range1 (aCons (eVar 11) aNil)) (te := eCall (callD 2 (f__law_take ca)) (aCons (eVar 0) (aCons (eVar 12) aNil))) (vs := [10])
    (loc := [some (.obj n), some (.int z), some (nD P), some (nD S), some x4, none, some (nD T), some x7, some x8, some (.lst (Wh.map nD)), none, some (nD V), some (.int O), none, none, none, none]) (by simp [rg V (by omega)]) hO1.1 hO1.2 (by omega) (fun d m1 => by simp [wipeD])
  -- the first numbers
  have lc1 : eLc false (eArgs range1 (aCons (eVar 11) aNil)) (gaName 10) (tBl (e2 oEq (e2 oIx (eVar 13) (eVar 10)) (eC (.int 1)))) (eVar 10) [10]
      [some (.obj n), some (.int z), some (nD P), some (nD S), some x4, none, some (nD T), some x7, some x8, some (.lst (Wh.map nD)), none, some (nD V), some (.int O), some (.lst (us.map nD)), none, none, none] (MB m n B6) = .ok (.lst (((List.range V).filter fun k => decide (us.getD k 0 = 1)).map nD)) (MB m n B6) := by
    refine lcA (g := nD) (p := fun k => decide (us.getD k 0 = 1)) (f := nD) (L := List.range V) (s := .st ((List.range V).map nD)) (by simp [rg V (by omega)]) srcSt (by simp; exact szL (by omega)) (fun a ha x => ?_) (fun a _ _ x => by simp [wipeD]) (fun _ _ _ => by simp) (undMB hU B6)
    have ha := List.mem_range.mp ha
    have ix := ix_nat (L := us) (k := a) (by omega) (m := MB m n B6 ++ [x])
    have oq := one_eq (us.getD a 0) (MB m n B6 ++ [x])
    generalize us.getD a 0 = r at ix oq ⊢
    simp only [wipeD, ev_tBl, ev_e2, ev_c, List.set, ev_var0, ev_varS, rbind_ok, ix, oq, isBl_bl]
  have wix : ∀ (k : Nat) (m : Mem), oIx (.lst (Wh.map nD)) (nD (k % T)) m = .ok (nD (Wh.getD (k % T) 0)) m := fun k m => ix_nat (by rw [hW]; exact Nat.mod_lt _ (by omega))
  have lc2 : ∀ F0 : D, eLc false (eArgs range2 (aCons (eVar 11) (aCons (eVar 3) aNil))) (gaName 10) (tBl (e2 oEq (e2 oIx (eVar 9) (e2 oMod (eCall fInt (aCons (e2 oSub (eVar 10) (eVar 3)) aNil)) (eVar 6))) (eC (.int 1)))) (eVar 10) [10]
      [some (.obj n), some (.int z), some (nD P), some (nD S), some x4, none, some (nD T), some x7, some x8, some (.lst (Wh.map nD)), none, some (nD V), some (.int O), some (.lst (us.map nD)), some F0, none, none] (MB m n B6) =
      .ok (.lst ((((List.range (S - V)).filter fun k => decide (Wh.getD ((((V + k : Nat) : Int) - (S : Int)) % (T : Int)).toNat 0 = 1)).map fun k => V + k).map nD)) (MB m n B6) := by
    intro F0
    rw [List.map_map]
    refine lcA (g := fun k => nD (V + k)) (p := fun k => decide (Wh.getD ((((V + k : Nat) : Int) - (S : Int)) % (T : Int)).toNat 0 = 1)) (f := nD ∘ fun k => V + k) (L := List.range (S - V)) (s := .st ((List.range (S - V)).map fun k => nD (V + k))) ?_ srcSt (show (List.range (S - V)).length ≤ sizeLine by rw [List.length_range]; exact szL (by omega)) (fun a ha x => ?_) (fun a _ _ x => ?_) (fun _ _ _ => by simp) (undMB hU B6)
    · have e1 : ((S : Int) - (V : Int)).toNat = S - V := by omega
      simp
      rw [range2_ok (smallR (by omega) (by omega)) (smallR (by omega) (by omega)), e1, rangeD_from]
    · obtain ⟨u, hu⟩ : ∃ u, u = V + a := ⟨_, rfl⟩
      rw [← hu]
      have e2 : (0 : Int) ≤ ((u : Int) - (S : Int)) % (T : Int) := Int.emod_nonneg _ (by omega)
      have e3 : ((u : Int) - (S : Int)) % (T : Int) < (T : Int) := Int.emod_lt_of_pos _ (by omega)
      obtain ⟨w, hw⟩ : ∃ w : Nat, w = (((u : Int) - (S : Int)) % (T : Int)).toNat := ⟨_, rfl⟩
      have e4 : ((u : Int) - (S : Int)) % (T : Int) = (w : Int) := by omega
      have ix := ix_nat (L := Wh) (k := w) (by omega) (m := MB m n B6 ++ [x])
      have oq := one_eq (Wh.getD w 0) (MB m n B6 ++ [x])
      have om : oMod (.int ((u : Int) - (S : Int))) (nD T) (MB m n B6 ++ [x]) = .ok (nD w) (MB m n B6 ++ [x]) := by rw [oMod_int (by omega), e4]
      rw [← hw]
      generalize Wh.getD w 0 = r at ix oq ⊢
      simp only [wipeD, ev_tBl, ev_e2, ev_c, ev_call, ev_aCons, ev_aNil, List.set, ev_var0, ev_varS, rbind_ok, oSub_int, fInt_int, om, ix, oq, isBl_bl]
    · show _ = R.ok (nD (V + a)) _
      generalize V + a = u
      simp [wipeD]
  have lc3 : ∀ F0 : D, eLc false (eArgs range1 (aCons (eVar 2) aNil)) (gaName 10) (tBl (e2 oEq (e2 oIx (eVar 9) (e2 oMod (eCall fInt (aCons (eVar 10) aNil)) (eVar 6))) (eC (.int 1)))) (eVar 10) [10]
      [some (.obj n), some (.int z), some (nD P), some (nD S), some x4, none, some (nD T), some x7, some x8, some (.lst (Wh.map nD)), none, some (nD V), some (.int O), some (.lst (us.map nD)), some F0, none, none] (MB m n B6) =
      .ok (.lst (((List.range P).filter fun k => decide (Wh.getD (k % T) 0 = 1)).map nD)) (MB m n B6) := by
    intro F0
    refine lcA (g := nD) (p := fun k => decide (Wh.getD (k % T) 0 = 1)) (f := nD) (L := List.range P) (s := .st ((List.range P).map nD)) (by simp [rg P (by omega)]) srcSt (by simp; exact szL (by omega)) (fun a ha x => ?_) (fun a _ _ x => by simp [wipeD]) (fun _ _ _ => by simp) (undMB hU B6)
    have ix := wix a (MB m n B6 ++ [x])
    have oq := one_eq (Wh.getD (a % T) 0) (MB m n B6 ++ [x])
    have om : oMod (nD a) (nD T) (MB m n B6 ++ [x]) = .ok (nD (a % T)) (MB m n B6 ++ [x]) := by rw [oMod_int (by omega)]; rfl
    generalize Wh.getD (a % T) 0 = r at ix oq ⊢
    simp only [wipeD, ev_tBl, ev_e2, ev_c, ev_call, ev_aCons, ev_aNil, List.set, ev_var0, ev_varS, rbind_ok, fInt_int, om, ix, oq, isBl_bl]
  obtain ⟨F1, hF1⟩ : ∃ F1, F1 = (List.range V).filter fun k => decide (us.getD k 0 = 1) := ⟨_, rfl⟩
  obtain ⟨F2, hF2⟩ : ∃ F2, F2 = ((List.range (S - V)).filter fun k => decide (Wh.getD ((((V + k : Nat) : Int) - (S : Int)) % (T : Int)).toNat 0 = 1)).map fun k => V + k := ⟨_, rfl⟩
  obtain ⟨Lt, hLt⟩ : ∃ Lt, Lt = (List.range P).filter fun k => decide (Wh.getD (k % T) 0 = 1) := ⟨_, rfl⟩
  rw [← hF1] at lc1
  rw [← hF2] at lc2
  rw [← hLt] at lc3
  have b1 : ∀ k ∈ F1, k < V := fun k hk => by rw [hF1] at hk; exact List.mem_range.mp (List.mem_filter.mp hk).1
  have b2 : ∀ k ∈ F2, V ≤ k ∧ k < S := fun k hk => by
    rw [hF2, List.mem_map] at hk
    obtain ⟨j, hj, rfl⟩ := hk
    have := List.mem_range.mp (List.mem_filter.mp hj).1
    omega
  have b3 : ∀ k ∈ Lt, k < P := fun k hk => by rw [hLt] at hk; exact List.mem_range.mp (List.mem_filter.mp hk).1
  have ok : Ok ⟨F1 ++ F2, S, P, Lt⟩ := by
    refine ⟨hP, ?_, fun k hk => ?_, ?_, b3⟩
    · rw [List.nodup_append]
      refine ⟨by rw [hF1]; exact lt_nodup filt_lt, ?_, fun a ha b hb e => ?_⟩
      · rw [hF2]
        exact List.Pairwise.map _ (fun a b hne e => hne (by omega)) (lt_nodup (filt_lt (k := S - V)))
      · have := b1 a ha; have := b2 b hb; omega
    · rcases List.mem_append.mp hk with q | q
      · have := b1 k q; show k < S; omega
      · exact (b2 k q).2
    · rw [hLt]; exact lt_nodup filt_lt
  have lf := len_first ok
  have ll := len_late ok
  simp only [List.length_append] at lf
  have ad := lstAdd (A := F1) (B := F2) (m := MB m n B6) (by show F1.length + F2.length ≤ 100000; have : F1.length + F2.length ≤ S := lf; omega)
  obtain ⟨v7, B7, h7, q7⟩ := takeM ca hn B6 (show (0 : Int) < 3 by decide) (by decide)
  obtain ⟨v8, B8, h8, q8⟩ := takeM ca hn B7 (z := (S : Int) + (P : Int)) (by omega) (by omega)
  have z4 : (4 : Nat) ≤ sizeLine := szL (by decide)
  have z3 : (3 : Nat) ≤ sizeLine := szL (by decide)
  obtain ⟨f', tg, te⟩ := toggle_ok ca ok (at_ := v8) (m := MB m n B8) (undMB hU B8) (by show v8 < S + P; omega) (by show S ≤ 1000; omega) (by show P ≤ 1000; omega)
  have fe : (.tup [.lst ((F1 ++ F2).map nD), nD S, nD P, .lst (Lt.map nD)] : D) = frmD true true ⟨F1 ++ F2, S, P, Lt⟩ := rfl
  have c0 : ∀ m, oEq (nD v7) (.int 0) m = .ok (.bl (decide (v7 = 0))) m := fun m => EncN.oEq (by decide) v7 0
  have nl3 : newLs false [.int 2, .int 2, .int 7] (MB m n B4) = .ok (.lst [.int 2, .int 2, .int 7]) (MB m n B4) := newLs_lst z3
  have tr : ∀ (d : D), trunc m.length (.ok d (MB m n B8)) = .ok d (MB m n B8) := fun d => trunc_same (by simp)
  rw [← fe] at te
  by_cases hv : v7 = 0
  · refine ⟨f', B8, tg.ok, by rw [tg.s]; exact hS, by rw [tg.q]; exact hP2, ?_⟩
    rw [decide_eq_true hv] at c0
    generalize (F1 ++ F2).map nD = Z1 at ad te
    generalize F1.map nD = Z2 at lc1 ad
    generalize F2.map nD = Z3 at lc2 ad
    generalize Lt.map nD = Z4 at lc3 te
    simp [q4, q5, nl3, hO, q6, lc1, lc2, ad, lc3, q7, q8, c0, newT_tup, z4, te, tr]
  · refine ⟨⟨F1 ++ F2, S, P, Lt⟩, B8, ok, hS, hP2, ?_⟩
    rw [decide_eq_false hv] at c0
    rw [← fe]
    generalize (F1 ++ F2).map nD = Z1 at ad ⊢
    generalize F1.map nD = Z2 at lc1 ad
    generalize F2.map nD = Z3 at lc2 ad
    generalize Lt.map nD = Z4 at lc3 ⊢
    simp [q4, q5, nl3, hO, q6, lc1, lc2, ad, lc3, q7, q8, c0, newT_tup, z4, tr]
end
end K18

/-! K18O: _law_order, _law_unfolded, _law_near. -/
namespace K18
open PySem PySem.Spec PyProof.Rows L2 DL M18
theorem insert_ok {n i k : Nat} {T : List Nat} {m : Mem} (h : m[n]? = some (.lst (T.map nD))) (hz : T.length ≤ 100000) (hi : i ≤ 1000000) : LstM fInsert (.obj n) [nD i, nD k] m = .ok .non (m.set n (.lst ((T.take i ++ k :: T.drop i).map nD))) := by
  have e : fInsert (T.map nD) [nD i, nD k] = some (.non, (T.take i ++ k :: T.drop i).map nD) := by
    have hl : T.length < sizeLine := by rw [sizeLine_eq]; omega
    have h2 : (i : Int) < 2 ^ 63 := by omega
    unfold fInsert
    simp only [List.length_map]
    rw [if_pos ⟨hl, by omega, h2⟩]
    simp [List.map_take, List.map_drop]
  simp [LstM, h, e]
theorem ins_perm (T : List Nat) (i k : Nat) : (T.take i ++ k :: T.drop i).Perm (T ++ [k]) := by
  have h1 : (T.take i ++ k :: T.drop i).Perm (k :: (T.take i ++ T.drop i)) := List.perm_middle
  rw [List.take_append_drop] at h1
  exact h1.trans (List.perm_append_singleton k T).symm
section
variable (ca : CA) {n : Nat} {m : Mem}
theorem takeX (hn : n < m.length) (B : Bag) {z : Int} (hz : 0 < z) (hz2 : z < 2 ^ 64) (x : Mem) : ∃ (v : Nat) (B' : Bag), (v : Int) < z ∧ f__law_take ca [.obj n, .int z] (MB m n B ++ x) = .ok (nD v) (MB m n B' ++ x) := by
  have hg : (MB m n B)[n]? = some (bagO B) := List.getElem?_set_self hn
  obtain ⟨v, B', h1, h2⟩ := take_ok ca (get_left (x := x) hg) hz hz2
  exact ⟨v, B', h1, by rw [h2, set_left hg, List.set_set]⟩
theorem order_ok (hU : Und m) (hn : n < m.length) (B : Bag) {L : List Nat} (hl : L.length ≤ 1000) : ∃ (L' : List Nat) (B' : Bag), L'.Perm L ∧ f__law_order ca [.obj n, .lst (L.map nD)] (MB m n B) = .ok (.lst (L'.map nD)) (MB m n B') := by
  have fl : ∀ m, fLen [.lst (L.map nD)] m = .ok (.int L.length) m := fun m => by simp [fLen, lenD, rget, lget]
  have tr : ∀ (d : D) (B : Bag), trunc m.length (.ok d (MB m n B)) = .ok d (MB m n B) := fun d B => trunc_same (by simp)
  have h0 : ∀ B, f__law_order ca [.obj n, .lst (L.map nD)] (MB m n B) = trunc m.length (ofSR (b__law_order ca m.length [some (.obj n), some (.lst (L.map nD)), none, none, none, none] (MB m n B))) := fun B => by
    show trunc (MB m n B).length (ofSR (b__law_order ca (MB m n B).length _ _)) = _
    rw [lenMB]; rfl
  rw [h0]
  unfold b__law_order
  by_cases h : 12 < L.length
  · have h' : (12 : Int) < (L.length : Int) := by omega
    obtain ⟨v1, B1, a1, q1⟩ := takeM ca hn B (z := (L.length : Int)) (by omega) (by omega)
    obtain ⟨v2, B2, a2, q2⟩ := takeM ca hn B1 (show (0 : Int) < 2 by decide) (by decide)
    have hv : v1 ≤ L.length := by omega
    have s1 : ∀ m, oSl false (.lst (L.map nD)) (some (v1 : Int)) none m = .ok (.lst ((L.drop v1).map nD)) m := fun m => by
      rw [oSl_lst, cut_drop (by simpa using hv), List.map_drop]; rfl
    have s2 : ∀ m, oSl false (.lst (L.map nD)) none (some (v1 : Int)) m = .ok (.lst ((L.take v1).map nD)) m := fun m => by
      rw [oSl_lst, cut_take (by simpa using hv), List.map_take]; rfl
    have ad := lstAdd (A := L.drop v1) (B := L.take v1) (m := MB m n B2) (by simp; omega)
    have pm : (L.drop v1 ++ L.take v1).Perm L := (List.perm_append_comm).trans (by rw [List.take_append_drop])
    have rv : oRev false (.lst ((L.drop v1 ++ L.take v1).map nD)) (MB m n B2) = .ok (.lst ((L.drop v1 ++ L.take v1).reverse.map nD)) (MB m n B2) := by
      simp only [oRev, rget, lget, ← List.map_reverse]
      rfl
    have c0 : ∀ m, oEq (nD v2) (.int 1) m = .ok (.bl (decide (v2 = 1))) m := fun m => one_eq v2 m
    by_cases hv2 : v2 = 1
    · refine ⟨(L.drop v1 ++ L.take v1).reverse, B2, (List.reverse_perm _).trans pm, ?_⟩
      rw [decide_eq_true hv2] at c0
      generalize (L.drop v1 ++ L.take v1).reverse.map nD = Z1 at rv ⊢
      generalize (L.drop v1 ++ L.take v1).map nD = Z2 at ad rv
      generalize (L.drop v1).map nD = Z3 at s1 ad
      generalize (L.take v1).map nD = Z4 at s2 ad
      generalize L.map nD = Z5 at *
      simp [fl, h', q1, q2, s1, s2, ad, c0, rv, tr, h]
    · refine ⟨L.drop v1 ++ L.take v1, B2, pm, ?_⟩
      rw [decide_eq_false hv2] at c0
      generalize (L.drop v1 ++ L.take v1).reverse.map nD = Z1 at rv
      generalize (L.drop v1 ++ L.take v1).map nD = Z2 at ad rv ⊢
      generalize (L.drop v1).map nD = Z3 at s1 ad
      generalize (L.take v1).map nD = Z4 at s2 ad
      generalize L.map nD = Z5 at *
      simp [fl, h', q1, q2, s1, s2, ad, c0, tr, h]
  · obtain ⟨l2, m2, e, w⟩ := forD_all (ga := gaName 5) (body := lp__law_order_1 ca) (I := fun k l m' => ∃ (T : List Nat) (B' : Bag) (x5 : Option D), T.Perm (L.take k) ∧ m' = MB m n B' ++ [.lst (T.map nD)] ∧ l = [some (.obj n), some (.lst (L.map nD)), none, none, some (.obj m.length), x5]) (L.map nD)
      (loc := [some (.obj n), some (.lst (L.map nD)), none, none, some (.obj m.length), none]) (m := MB m n B ++ [.lst []]) (fun k d l m' hd hI => by
        obtain ⟨T, B', x5, hT, rfl, rfl⟩ := hI
        rw [List.getElem?_map, Option.map_eq_some_iff] at hd
        obtain ⟨a, ha, rfl⟩ := hd
        have hk : k < L.length := (List.getElem?_eq_some_iff.mp ha).1
        have tl : T.length ≤ 1000 := by have := hT.length_eq; rw [List.length_take] at this; omega
        obtain ⟨v, B2, hv, qv⟩ := takeX ca hn B' (z := (T.length : Int) + 1) (by omega) (by omega) [.lst (T.map nD)]
        have gl : ∀ B, (MB m n B ++ [DO.lst (T.map nD)])[m.length]? = some (.lst (T.map nD)) := fun B => by
          rw [List.getElem?_append_right (by simp)]; simp
        have fl2 : fLen [.obj m.length] (MB m n B' ++ [.lst (T.map nD)]) = .ok (.int T.length) (MB m n B' ++ [.lst (T.map nD)]) := by
          simp only [fLen, lenD, rget, lget, gl]
          simp
        have io := insert_ok (n := m.length) (i := v) (k := a) (T := T) (m := MB m n B2 ++ [.lst (T.map nD)]) (gl B2) (by omega) (by omega)
        have st : (MB m n B2 ++ [DO.lst (T.map nD)]).set m.length (.lst ((T.take v ++ a :: T.drop v).map nD)) = MB m n B2 ++ [.lst ((T.take v ++ a :: T.drop v).map nD)] := by
          rw [List.set_append_right _ _ (by simp)]; simp
        rw [st] at io
        have ib : ∀ {r : R D} {tg : Tag r}, ifB "list" (MB m n B' ++ [DO.lst (T.map nD)]) (.obj m.length) r tg = r := fun {_ _} => ifB_obj (gl B')
        refine ⟨_, [some (.obj n), some (.lst (L.map nD)), none, none, some (.obj m.length), some (nD a)], MB m n B2 ++ [.lst ((T.take v ++ a :: T.drop v).map nD)], rfl, .inl ?_, T.take v ++ a :: T.drop v, B2, some (nD a), ?_, rfl, rfl⟩
        · unfold lp__law_order_1
          generalize (T.take v ++ a :: T.drop v).map nD = Z at io ⊢
          generalize T.map nD = Z2 at *
          simp [ib, fl2, qv, io]
        · rw [List.take_succ, ha]
          exact (ins_perm T v a).trans (hT.append_right _)) ⟨[], B, none, by simp, rfl, rfl⟩
    obtain ⟨T, B', x5, hT, rfl, rfl⟩ := w
    rw [List.length_map, List.take_length] at hT
    refine ⟨T, B', hT, ?_⟩
    have h' : ¬ (12 : Int) < (L.length : Int) := by omega
    have nl : newLs true ([] : List D) (MB m n B) = .ok (.obj m.length) (MB m n B ++ [.lst []]) := by
      rw [newLs_obj (Nat.zero_le _), lenMB]
    have e' : forS (gaName 5) (lp__law_order_1 ca) (.st (L.map nD)) [some (.obj n), some (.lst (L.map nD)), none, none, some (.obj m.length), none] (MB m n B ++ [.lst []]) = .nx [some (.obj n), some (.lst (L.map nD)), none, none, some (.obj m.length), x5] (MB m n B' ++ [.lst (T.map nD)]) := e
    have hUB := undMB (n := n) hU B'
    have hn' : n ≠ m.length := by omega
    have fz5 : D.fz m.length (.lst (T.map nD)) (.lst (L.map nD)) = .lst (L.map nD) := fz_lst
    have sfz : ∀ (f : SX), sFz 4 f m.length [some (.obj n), some (.lst (L.map nD)), none, none, some (.obj m.length), x5] (MB m n B' ++ [.lst (T.map nD)]) = f m.length [some (.obj n), some (.lst (L.map nD)), none, none, some (.lst (T.map nD)), x5.map (D.fz m.length (.lst (T.map nD)))] (MB m n B' ++ [.dead]) := fun f => by
      have := sFz_any (i := 4) (n := m.length) (N := m.length) (f := f) (L := T) (m := MB m n B') (x := [.lst (T.map nD)]) (loc := [some (.obj n), some (.lst (L.map nD)), none, none, some (.obj m.length), x5]) hUB (by simp [Mem.und, DO.und, undN]) (by simp) (by simp) rfl (by rw [List.getElem?_append_right (by simp)]; simp)
      rw [this]
      simp only [List.map_cons, List.map_nil, Option.map_some, Option.map_none, fz_ne hn', fz5, fz_self]
      rw [List.set_append_right _ _ (by simp)]
      simp
    have tr2 : trunc m.length (.ok (.lst (T.map nD)) (MB m n B' ++ [DO.dead])) = .ok (.lst (T.map nD)) (MB m n B') := trunc_app (by simp) (by simp [undN]) (by have := hUB; unfold Und at this; rwa [lenMB] at this)
    generalize L.map nD = Z5 at *
    generalize T.map nD = Z6 at *
    simp [fl, h', nl, e', sfz, h]
    exact tr2
end
end K18

/-! K18P: _law_unfolded, _law_near, _law_odd. -/
namespace K18
open PySem PySem.Spec PyProof.Rows L2 DL M18
/-- any listing of a set's numbers is a form of it -/
theorem listing {p : Pr} {s q : Nat} {A B : List Nat} (h : Per p s q) (hA : A.Perm (M18.firsts p s)) (hB : B.Perm (lates p s q)) : Ok ⟨A, s, q, B⟩ ∧ has ⟨A, s, q, B⟩ = p := by
  have hp := formOf_has h
  refine ⟨⟨h.1, hA.nodup_iff.mpr (lt_nodup firsts_lt), fun n hn => (mem_firsts.mp (hA.mem_iff.mp hn)).1, hB.nodup_iff.mpr (lt_nodup lates_lt), fun n hn => (mem_lates.mp (hB.mem_iff.mp hn)).1⟩, ?_⟩
  rw [← hp]
  funext n
  unfold has formOf
  dsimp only
  split
  · exact decide_eq_decide.mpr hA.mem_iff
  · exact decide_eq_decide.mpr hB.mem_iff
theorem Per.times {p : Pr} {s q k : Nat} (h : Per p s q) (hk : 0 < k) : Per p s (q * k) := ⟨Nat.mul_pos h.1 hk, fun n hn => by rw [Nat.mul_comm]; exact Per.mul h hn k⟩
section
variable (ca : CA) {n : Nat} {m : Mem}
theorem unfolded_ok (hU : Und m) (hn : n < m.length) (B : Bag) {f : Frm} (h : Ok f) (hs : f.s ≤ 200) (hq : f.q ≤ 30) : ∃ (f' : Frm) (B' : Bag), Ok f' ∧ has f' = has f ∧ f'.s ≤ 200 ∧ f'.q ≤ 30 ∧
    f__law_unfolded ca [.obj n, frmD true true f] (MB m n B) = .ok (frmD true true f') (MB m n B') := by
  have hq0 := h.q0
  obtain ⟨X, hX⟩ : ∃ X, X = frmD true true f := ⟨_, rfl⟩
  have i1 : ∀ m, oIx X (.int 1) m = .ok (nD f.s) m := fun m => by rw [hX]; exact f1
  have i2 : ∀ m, oIx X (.int 2) m = .ok (nD f.q) m := fun m => by rw [hX]; exact f2
  have hh : ∀ k m, f__law_has ca [X, nD k] m = .ok (.bl (has f k)) m := fun k m => by rw [hX]; exact has_ok ca hq0 k m
  obtain ⟨g, hg⟩ : ∃ g : Nat, g = 201 - f.s := ⟨_, rfl⟩
  have hg1 : (201 : Int) - (f.s : Int) = (g : Int) := by omega
  have mn : ∀ m, fMin2 [.int 9, .int (g : Int)] m = .ok (.int (if (g : Int) < 9 then (g : Int) else 9)) m := fun m => rfl
  obtain ⟨k, hk⟩ : ∃ k : Int, k = if (g : Int) < 9 then (g : Int) else 9 := ⟨_, rfl⟩
  have hk1 : 0 < k ∧ k ≤ g := by rw [hk]; split <;> omega
  rw [← hk] at mn
  obtain ⟨v1, B1, a1, q1⟩ := takeM ca hn B (z := k) hk1.1 (by omega)
  obtain ⟨v2, B2, a2, q2⟩ := takeM ca hn B1 (show (0 : Int) < 4 by decide) (by decide)
  -- the further numbers
  obtain ⟨w, B3, hw, q3⟩ : ∃ (w : Nat) (B3 : Bag), w < g ∧ ∀ (rest : SX) (N : Nat) (tl : DL.Loc), sSeq (sIf (tBl (e2 oEq (eCall (callD 2 (f__law_take ca)) (aCons (eVar 0) (aCons (eC (.int 4)) aNil))) (eC (.int 0)))) (sSeq (sSet 2 (eCall (callD 2 (f__law_take ca)) (aCons (eVar 0) (aCons (e2 oSub (eC (.int 201)) (e2 oIx (eVar 1) (eC (.int 1)))) aNil)))) sNil) sNil) rest N
      (some (.obj n) :: some X :: some (nD v1) :: tl) (MB m n B1) = rest N (some (.obj n) :: some X :: some (nD w) :: tl) (MB m n B3) := by
    by_cases e : v2 = 0
    · obtain ⟨v3, B3, a3, q3⟩ := takeM ca hn B2 (z := (g : Int)) (by omega) (by omega)
      subst e
      exact ⟨v3, B3, by omega, fun rest N tl => by simp [q2, i1, hg1, q3]⟩
    · exact ⟨v1, B2, by omega, fun rest N tl => by simp [q2, e]⟩
  obtain ⟨u, hu⟩ : ∃ u : Nat, u = 30 / f.q := ⟨_, rfl⟩
  have hu1 : 0 < u := by rw [hu]; exact Nat.div_pos hq hq0
  have hu3 : u ≤ 30 := by rw [hu]; exact Nat.div_le_self _ _
  have hu2 : f.q * u ≤ 30 := by rw [hu]; exact Nat.mul_div_le 30 f.q
  have fd : ∀ m, oFdiv (.int 30) (nD f.q) m = .ok (nD u) m := fun m => by rw [oFdiv_int (divOk (by omega) (by omega)), hu]; rfl
  obtain ⟨v4, B4, a4, q4⟩ := takeM ca hn B3 (z := (u : Int)) (by omega) (by omega)
  obtain ⟨t, ht⟩ : ∃ t : Nat, t = 1 + v4 := ⟨_, rfl⟩
  have et : (1 : Int) + (v4 : Int) = (t : Int) := by omega
  have ht1 : 1 ≤ t ∧ t ≤ u := by omega
  obtain ⟨S, hS⟩ : ∃ S : Nat, S = f.s + w := ⟨_, rfl⟩
  have eS : (f.s : Int) + (w : Int) = (S : Int) := by omega
  obtain ⟨Q, hQ⟩ : ∃ Q : Nat, Q = f.q * t := ⟨_, rfl⟩
  have hQ2 : Q ≤ 30 := by rw [hQ]; exact Nat.le_trans (Nat.mul_le_mul_left _ ht1.2) hu2
  have mu : ∀ m, oMul (nD f.q) (nD t) m = .ok (nD Q) m := fun m => by
    rw [oMul_int (mulOk_l (by omega)), hQ]
    show R.ok (D.int _) _ = R.ok (D.int _) _
    rw [Int.natCast_mul]
  have per : Per (has f) S Q := by rw [hQ]; exact (Per.times (has_per h) (by omega)).later (by omega)
  have rg : ∀ (k : Nat), k ≤ 1000 → ∀ m, range1 [nD k] m = .ok (.st ((List.range k).map nD)) m := fun k hk m => by
    rw [range1_ok (smallR (by omega) (by omega)), Int.toNat_natCast, rangeD_nat]
  have lc1 : eLc false (eArgs range1 (aCons (eVar 4) aNil)) (gaName 6) (tTru (eCall (callD 2 (f__law_has ca)) (aCons (eVar 1) (aCons (eVar 6) aNil)))) (eVar 6) [6] [some (.obj n), some X, some (nD w), some (nD t), some (nD S), none, none, none, none] (MB m n B4) = .ok (.lst ((M18.firsts (has f) S).map nD)) (MB m n B4) :=
    lcA (g := nD) (p := has f) (f := nD) (L := List.range S) (s := .st ((List.range S).map nD)) (by simp [rg S (by omega)]) srcSt (show (List.range S).length ≤ sizeLine by rw [List.length_range]; exact szL (by omega)) (fun a ha x => by simp [wipeD, hh]) (fun a _ _ x => by simp [wipeD]) (fun _ _ _ => by simp) (undMB hU B4)
  have lc2 : ∀ F0, eLc false (eArgs range1 (aCons (e2 oMul (e2 oIx (eVar 1) (eC (.int 2))) (eVar 3)) aNil)) (gaName 8) (tTru (eCall (callD 2 (f__law_has ca)) (aCons (eVar 1) (aCons (e2 (oAdd false) (eVar 4) (eVar 8)) aNil)))) (eVar 8) [8] [some (.obj n), some X, some (nD w), some (nD t), some (nD S), some F0, none, none, none] (MB m n B4) = .ok (.lst ((lates (has f) S Q).map nD)) (MB m n B4) := fun F0 =>
    lcA (g := nD) (p := fun i => has f (S + i)) (f := nD) (L := List.range Q) (s := .st ((List.range Q).map nD)) (by simp [i2, mu, rg Q (by omega)]) srcSt (show (List.range Q).length ≤ sizeLine by rw [List.length_range]; exact szL (by omega)) (fun a ha x => by
      obtain ⟨c, hc⟩ : ∃ c : Nat, c = S + a := ⟨_, rfl⟩
      have ec : (S : Int) + (a : Int) = (c : Int) := by omega
      rw [← hc]
      simp [wipeD, hh, ec]) (fun a _ _ x => by simp [wipeD]) (fun _ _ _ => by simp) (undMB hU B4)
  have l1 : (M18.firsts (has f) S).length ≤ 1000 := by unfold M18.firsts; exact Nat.le_trans (List.length_filter_le _ _) (by simp; omega)
  have l2 : (lates (has f) S Q).length ≤ 1000 := by unfold lates; exact Nat.le_trans (List.length_filter_le _ _) (by simp; omega)
  obtain ⟨A, B5, pA, q5⟩ := order_ok ca hU hn B4 l1
  obtain ⟨C, B6, pC, q6⟩ := order_ok ca hU hn B5 l2
  obtain ⟨ok', has'⟩ := listing per pA pC
  refine ⟨⟨A, S, Q, C⟩, B6, ok', has', by show S ≤ 200; omega, hQ2, ?_⟩
  have tr : ∀ (d : D) (B : Bag), trunc m.length (.ok d (MB m n B)) = .ok d (MB m n B) := fun d B => trunc_same (by simp)
  have h0 : ∀ B, f__law_unfolded ca [.obj n, X] (MB m n B) = trunc m.length (ofSR (b__law_unfolded ca m.length [some (.obj n), some X, none, none, none, none, none, none, none] (MB m n B))) := fun B => by
    show trunc (MB m n B).length (ofSR (b__law_unfolded ca (MB m n B).length _ _)) = _
    rw [lenMB]; rfl
  rw [← hX, h0]
  have fe : frmD true true ⟨A, S, Q, C⟩ = .tup [.lst (A.map nD), nD S, nD Q, .lst (C.map nD)] := rfl
  rw [fe]
  have z4 : (4 : Nat) ≤ sizeLine := szL (by decide)
  generalize A.map nD = Z1 at *
  generalize C.map nD = Z2 at *
  generalize (M18.firsts (has f) S).map nD = Z3 at *
  generalize (lates (has f) S Q).map nD = Z4 at *
  unfold b__law_unfolded
  have s1 : (sSet 2 (eCall (callD 2 (f__law_take ca)) (aCons (eVar 0) (aCons (eCall fMin2 (aCons (eC (.int 9)) (aCons (e2 oSub (eC (.int 201)) (e2 oIx (eVar 1) (eC (.int 1)))) aNil))) aNil)))) m.length [some (.obj n), some X, none, none, none, none, none, none, none] (MB m n B) = .nx [some (.obj n), some X, some (nD v1), none, none, none, none, none, none] (MB m n B1) := by
    simp [i1, hg1, mn, q1]
  rw [ev_sSeq, s1, seq_nx, q3]
  simp [fd, i2, i1, q4, et, eS, lc1, lc2, mu, q5, q6, newT_tup, z4, tr]
theorem near_ok (hU : Und m) (hn : n < m.length) (B : Bag) {f : Frm} (h : Ok f) (hs : f.s ≤ 200) (hq : f.q ≤ 30) : ∃ (f' : Frm) (B' : Bag), Tog f f' ∧ f__law_near ca [.obj n, frmD true true f] (MB m n B) = .ok (frmD true true f') (MB m n B') := by
  have hq0 := h.q0
  obtain ⟨v1, B1, a1, q1⟩ := takeM ca hn B (show (0 : Int) < 3 by decide) (by decide)
  obtain ⟨v2, B2, a2, q2⟩ := takeM ca hn B1 (z := (f.s : Int) + (f.q : Int)) (by omega) (by omega)
  have tr : ∀ (d : D) (B : Bag), trunc m.length (.ok d (MB m n B)) = .ok d (MB m n B) := fun d B => trunc_same (by simp)
  obtain ⟨X, hX⟩ : ∃ X, X = frmD true true f := ⟨_, rfl⟩
  have i1 : ∀ m, oIx X (.int 1) m = .ok (nD f.s) m := fun m => by rw [hX]; exact f1
  have i2 : ∀ m, oIx X (.int 2) m = .ok (nD f.q) m := fun m => by rw [hX]; exact f2
  have h0 : ∀ B, f__law_near ca [.obj n, X] (MB m n B) = trunc m.length (ofSR (b__law_near ca m.length [some (.obj n), some X, none, none] (MB m n B))) := fun B => by
    show trunc (MB m n B).length (ofSR (b__law_near ca (MB m n B).length _ _)) = _
    rw [lenMB]; rfl
  rw [← hX, h0]
  unfold b__law_near
  have fin : ∀ k : Nat, k < f.s + f.q → ∃ (f' : Frm), Tog f f' ∧ f__law_toggle ca [X, nD k] (MB m n B2) = .ok (frmD true true f') (MB m n B2) := fun k hk => by
    rw [hX]; exact toggle_ok ca h (undMB hU B2) hk (by omega) (by omega)
  have mx : ∀ m, fMax2 [.int 0, .int ((f.s : Int) - 1)] m = .ok (.int (if (f.s : Int) - 1 > 0 then (f.s : Int) - 1 else 0)) m := fun m => rfl
  obtain ⟨k0, hk0⟩ : ∃ k0 : Nat, k0 = f.s - 1 := ⟨_, rfl⟩
  have ek0 : (if (f.s : Int) - 1 > 0 then (f.s : Int) - 1 else 0) = (k0 : Int) := by split <;> omega
  rw [ek0] at mx
  obtain ⟨k1, hk1⟩ : ∃ k1 : Nat, k1 = f.s + f.q - 1 := ⟨_, rfl⟩
  have ek1 : (f.s : Int) + (f.q : Int) - 1 = (k1 : Int) := by omega
  by_cases c0 : v1 = 0
  · subst c0
    obtain ⟨f', tg, e⟩ := fin k0 (by omega)
    exact ⟨f', B2, tg, by simp [q1, i1, i2, q2, mx, e, tr]⟩
  · by_cases c1 : v1 = 1
    · subst c1
      obtain ⟨f', tg, e⟩ := fin k1 (by omega)
      exact ⟨f', B2, tg, by simp [q1, i1, i2, q2, ek1, e, tr]⟩
    · obtain ⟨f', tg, e⟩ := fin v2 (by omega)
      have c0' : ¬ (v1 : Int) = 0 := by omega
      have c1' : ¬ (v1 : Int) = 1 := by omega
      exact ⟨f', B2, tg, by simp [q1, i1, i2, q2, c0, c1', e, tr]⟩
/-- no number -/
structure OddD (d : D) : Prop where
  pl : PlD d
  no : isN d = false
  und : d.und 0 = true
theorem OddD.okD {d : D} (h : OddD d) (M : Nat) : okD M d = false := by
  have hn := h.no
  cases d with
  | int i =>
    have : ¬ 0 ≤ i := by simpa [isN] using hn
    simp [K18.okD, this]
  | _ => rfl
theorem odd_ok (hn : n < m.length) (B : Bag) : ∃ (d : D) (B' : Bag), OddD d ∧ f__law_odd ca [.obj n] (MB m n B) = .ok d (MB m n B') := by
  obtain ⟨v, B1, a1, q1⟩ := takeM ca hn B (show (0 : Int) < 7 by decide) (by decide)
  have tr : ∀ (d : D) (B : Bag), trunc m.length (.ok d (MB m n B)) = .ok d (MB m n B) := fun d B => trunc_same (by simp)
  have z1 : (1 : Nat) ≤ sizeLine := szL (by decide)
  have z7 : (7 : Nat) ≤ sizeLine := szL (by decide)
  obtain ⟨d, hd, hi⟩ : ∃ d, OddD d ∧ ∀ m, oIx (.lst [.bl true, .bl false, .non, .str "1", .int (-1), .tup [.int 0], .lst [.int 0]]) (nD v) m = .ok d m := by
    have : v = 0 ∨ v = 1 ∨ v = 2 ∨ v = 3 ∨ v = 4 ∨ v = 5 ∨ v = 6 := by omega
    rcases this with e | e | e | e | e | e | e <;> subst e
    · exact ⟨.bl true, ⟨trivial, rfl, by simp⟩, fun m => oIx_lst rfl⟩
    · exact ⟨.bl false, ⟨trivial, rfl, by simp⟩, fun m => oIx_lst rfl⟩
    · exact ⟨.non, ⟨trivial, rfl, by simp⟩, fun m => oIx_lst rfl⟩
    · exact ⟨.str "1", ⟨trivial, rfl, by simp⟩, fun m => oIx_lst rfl⟩
    · exact ⟨.int (-1), ⟨trivial, rfl, by simp⟩, fun m => oIx_lst rfl⟩
    · exact ⟨.tup [.int 0], ⟨trivial, rfl, by simp⟩, fun m => oIx_lst rfl⟩
    · exact ⟨.lst [.int 0], ⟨trivial, rfl, by simp⟩, fun m => oIx_lst rfl⟩
  refine ⟨d, B1, hd, ?_⟩
  have h0 : ∀ B, f__law_odd ca [.obj n] (MB m n B) = trunc m.length (ofSR (b__law_odd ca m.length [some (.obj n)] (MB m n B))) := fun B => by
    show trunc (MB m n B).length (ofSR (b__law_odd ca (MB m n B).length _ _)) = _
    rw [lenMB]; rfl
  rw [h0]
  unfold b__law_odd
  simp [oNeg, newT_tup, newLs_lst, z1, z7, q1, hi, tr]
end
end K18

/-! K18Q: _law_bent_row. -/
namespace K18
open PySem PySem.Spec PyProof.Rows L2 DL M18
/-- d is no row of unlike numbers below M -/
structure BadS (ca : CA) (M : Nat) (d : D) : Prop where
  und : d.und 0 = true
  no : ∀ m, Und m → f__are_unlike_below ca [d, nD M] m = .ok (.bl false) m
section
variable (ca : CA) {n : Nat} {m : Mem} {M : Nat}
theorem bad_elem {ds : List D} (b : Bool) (hu : D.unds 0 ds = true) (hp : ∀ x ∈ ds, PlD x) (hz : ds.length ≤ 1000) {x : D} (hx : x ∈ ds) (hno : okD M x = false) : BadS ca M (if b = true then .tup ds else .lst ds) := by
  cases b with
  | true => exact ⟨by simpa using hu, fun m hm => unlike_no ca hm (.inr (.inl rfl)) hp hz hx hno⟩
  | false => exact ⟨by simpa using hu, fun m hm => unlike_no ca hm (.inl rfl) hp hz hx hno⟩
theorem bad_dup {L : List Nat} (b : Bool) (hM : ∀ n ∈ L, n < M) (hz : L.length ≤ 1000) (nd : ¬ L.Nodup) : BadS ca M (if b = true then .tup (L.map nD) else .lst (L.map nD)) := by
  cases b with
  | true => exact ⟨by simp [undN], fun m hm => by
    show f__are_unlike_below ca [.tup (L.map nD), nD M] m = _
    rw [unlike_yes ca hm (.inr (.inl rfl)) hM hz, decide_eq_false nd]⟩
  | false => exact ⟨by simp [undN], fun m hm => by
    show f__are_unlike_below ca [.lst (L.map nD), nD M] m = _
    rw [unlike_yes ca hm (.inl rfl) hM hz, decide_eq_false nd]⟩
theorem insert_gen {k i : Nat} {d : D} {xs : List D} {m : Mem} (h : m[k]? = some (.lst xs)) (hz : xs.length ≤ 100000) (hi : i ≤ 1000000) : LstM fInsert (.obj k) [nD i, d] m = .ok .non (m.set k (.lst (xs.take i ++ d :: xs.drop i))) := by
  have e : fInsert xs [nD i, d] = some (.non, xs.take i ++ d :: xs.drop i) := by
    have hl : xs.length < sizeLine := by rw [sizeLine_eq]; omega
    have h2 : (i : Int) < 2 ^ 63 := by omega
    unfold fInsert
    simp only
    rw [if_pos ⟨hl, by omega, h2⟩]
    simp
  simp [LstM, h, e]
theorem unds_ins {xs : List D} {d : D} {i N : Nat} (h1 : D.unds N xs = true) (h2 : d.und N = true) : D.unds N (xs.take i ++ d :: xs.drop i) = true := by
  rw [unds_all] at h1 ⊢
  intro x hx
  rcases List.mem_append.mp hx with q | q
  · exact h1 x (List.mem_of_mem_take q)
  · rcases List.mem_cons.mp q with e | q
    · rw [e]; exact h2
    · exact h1 x (List.mem_of_mem_drop q)
theorem pl_ins {xs : List D} {d : D} {i : Nat} (h1 : ∀ x ∈ xs, PlD x) (h2 : PlD d) : ∀ x ∈ xs.take i ++ d :: xs.drop i, PlD x := by
  intro x hx
  rcases List.mem_append.mp hx with q | q
  · exact h1 x (List.mem_of_mem_take q)
  · rcases List.mem_cons.mp q with e | q
    · rw [e]; exact h2
    · exact h1 x (List.mem_of_mem_drop q)
theorem len_ins {α : Type} {xs : List α} {d : α} {i : Nat} : (xs.take i ++ d :: xs.drop i).length = xs.length + 1 := by
  simp only [List.length_append, List.length_cons, List.length_take, List.length_drop]
  omega
theorem bent_row_ok (hU : Und m) (hn : n < m.length) (B : Bag) {L : List Nat} (hl : L.length ≤ 900) (hM : ∀ n ∈ L, n < M) (nd : L.Nodup) (hMM : M ≤ 1000) : ∃ (d : D) (B' : Bag), BadS ca M d ∧ f__law_bent_row ca [.obj n, .lst (L.map nD), nD M] (MB m n B) = .ok d (MB m n B') := by
  obtain ⟨way, B1, a1, q1⟩ := takeM ca hn B (show (0 : Int) < 7 by decide) (by decide)
  obtain ⟨at_, B2, a2, q2⟩ := takeM ca hn B1 (z := (L.length : Int) + 1) (by omega) (by omega)
  obtain ⟨more, B3, a3, q3⟩ := takeM ca hn B2 (show (0 : Int) < 3 by decide) (by decide)
  obtain ⟨od, B4, ho, q4⟩ := odd_ok ca hn B3
  have hat : at_ ≤ L.length := by omega
  obtain ⟨Rw, hR⟩ : ∃ Rw, Rw = L.map nD := ⟨_, rfl⟩
  have hRl : Rw.length = L.length := by rw [hR, List.length_map]
  have hRu : D.unds 0 Rw = true := by rw [hR]; exact undN
  have hRp : ∀ x ∈ Rw, PlD x := fun x hx => by rw [hR] at hx; obtain ⟨k, _, rfl⟩ := List.mem_map.mp hx; trivial
  have fl : ∀ m, fLen [.lst Rw] m = .ok (.int L.length) m := fun m => by simp [fLen, lenD, rget, lget, hRl]
  have tr : ∀ (d : D) (B : Bag), d.und 0 = true → ∀ x, trunc m.length (.ok d (MB m n B ++ x)) = .ok d (MB m n B) := fun d B hd x => trunc_app (by simp) (und_mono (Nat.zero_le _) d hd) (by
    have := undMB (n := n) hU B
    unfold Und at this
    rwa [lenMB] at this)
  have h0 : ∀ B, f__law_bent_row ca [.obj n, .lst Rw, nD M] (MB m n B) = trunc m.length (ofSR (b__law_bent_row ca m.length [some (.obj n), some (.lst Rw), some (nD M), none, none, none, none, none] (MB m n B))) := fun B => by
    show trunc (MB m n B).length (ofSR (b__law_bent_row ca (MB m n B).length _ _)) = _
    rw [lenMB]; rfl
  rw [← hR, h0]
  have gl : ∀ (B : Bag) (xs : List D), (MB m n B ++ [DO.lst xs])[m.length]? = some (.lst xs) := fun B xs => by
    rw [List.getElem?_append_right (by simp)]; simp
  have sl : ∀ (B : Bag) (x y : DO), (MB m n B ++ [x]).set m.length y = MB m n B ++ [y] := fun B x y => by
    rw [List.set_append_right _ _ (by simp)]; simp
  have ib : ∀ (B : Bag) (xs : List D) {r : R D} {tg : Tag r}, ifB "list" (MB m n B ++ [DO.lst xs]) (.obj m.length) r tg = r := fun B xs _ _ => ifB_obj (gl B xs)
  have fL : fList true [.lst Rw] (MB m n B4) = .ok (.obj m.length) (MB m n B4 ++ [.lst Rw]) := by rw [fList_lst, lenMB]
  -- the end
  have hn' : n ≠ m.length := by omega
  have sfz : ∀ (f : SX) (ds : List D), D.unds 0 ds = true → sFz 7 f m.length [some (.obj n), some (.lst Rw), some (nD M), some (nD way), some (nD at_), some (nD more), some od, some (.obj m.length)] (MB m n B4 ++ [.lst ds]) = f m.length [some (.obj n), some (.lst Rw), some (nD M), some (nD way), some (nD at_), some (nD more), some od, some (.lst ds)] (MB m n B4 ++ [.dead]) := fun f ds hds => by
    have hUB := undMB (n := n) hU B4
    have hds2 : D.unds m.length ds = true := unds_mono (Nat.zero_le _) ds hds
    rw [sFz_last (n := m.length) (by simp) (by simp) rfl (by unfold Und at hUB; rwa [lenMB] at hUB) hds2]
    have e1 : D.fz m.length (.lst ds) (.lst Rw) = .lst Rw := fz_pure (by simpa using hRu)
    have e2 : D.fz m.length (.lst ds) od = od := fz_pure ho.und
    simp only [List.map_cons, List.map_nil, Option.map_some, fz_ne hn', e1, e2, fz_nD, fz_self]
  have c1 : ∀ m, oEq (nD more) (.int 1) m = .ok (.bl (decide (more = 1))) m := fun m => one_eq more m
  have fin : ∀ (ds : List D), D.unds 0 ds = true → ofSR (sFz 7 (sSeq (sIf (tBl (e2 oEq (eVar 5) (eC (.int 1)))) (sSeq (sRet (eCall fTuple (aCons (eVar 7) aNil))) sNil) sNil) (sSeq (sRet (eVar 7)) sNil)) m.length
      [some (.obj n), some (.lst Rw), some (nD M), some (nD way), some (nD at_), some (nD more), some od, some (.obj m.length)] (MB m n B4 ++ [.lst ds])) = .ok (if decide (more = 1) = true then .tup ds else .lst ds) (MB m n B4 ++ [.dead]) := fun ds hds => by
    rw [sfz _ ds hds]
    cases hb : decide (more = 1) with
    | true => rw [hb] at c1; simp [c1]
    | false => rw [hb] at c1; simp [c1]
  have done : ∀ (ds : List D), D.unds 0 ds = true → trunc m.length (.ok (if decide (more = 1) = true then .tup ds else .lst ds) (MB m n B4 ++ [DO.dead])) = .ok (if decide (more = 1) = true then .tup ds else .lst ds) (MB m n B4) := fun ds hds => tr _ _ (by split <;> simpa using hds) _
  have ne0 : ∀ m, oNe (.lst Rw) (.lst []) m = .ok (.bl (!decide (L = []))) m := fun m => by
    have := ne_lst (A := L) (B := []) (m := m)
    rw [hR]; simpa using this
  have nl0 : ∀ m, newLs false ([] : List D) m = .ok (.lst []) m := fun m => newLs_lst (Nat.zero_le _)
  have z6 : (6 : Nat) ≤ sizeLine := szL (by decide)
  have io : ∀ (d : D), LstM fInsert (.obj m.length) [nD at_, d] (MB m n B4 ++ [.lst Rw]) = .ok .non (MB m n B4 ++ [.lst (Rw.take at_ ++ d :: Rw.drop at_)]) := fun d => by
    rw [insert_gen (gl B4 Rw) (by omega) (by omega), sl]
  have ins : ∀ (d : D), PlD d → d.und 0 = true → okD M d = false → ∃ ds : List D, ds = Rw.take at_ ++ d :: Rw.drop at_ ∧ D.unds 0 ds = true ∧ BadS ca M (if decide (more = 1) = true then .tup ds else .lst ds) := fun d h1 h2 h3 =>
    ⟨_, rfl, unds_ins hRu h2, bad_elem ca _ (unds_ins hRu h2) (pl_ins hRp h1) (by rw [len_ins, hRl]; omega) (x := d) (by simp) h3⟩
  have w0 : ∀ m, oEq (nD way) (.int 0) m = .ok (.bl (decide (way = 0))) m := fun m => EncN.oEq (by decide) way 0
  have w1 : ∀ m, oEq (nD way) (.int 1) m = .ok (.bl (decide (way = 1))) m := fun m => EncN.oEq (by decide) way 1
  have w2 : ∀ m, oEq (nD way) (.int 2) m = .ok (.bl (decide (way = 2))) m := fun m => EncN.oEq (by decide) way 2
  have w5 : ∀ m, oEq (nD way) (.int 5) m = .ok (.bl (decide (way = 5))) m := fun m => EncN.oEq (by decide) way 5
  have l5 : ∀ m, oLt (nD way) (.int 5) m = .ok (.bl (decide (way < 5))) m := fun m => by
    show R.ok (D.bl (decide ((way : Int) < 5))) m = _
    congr 2
    exact decide_eq_decide.mpr ⟨fun h => by omega, fun h => by omega⟩
  have tl : ∀ (N : Nat) (d1 : D) (loc : DL.Loc) (m : Mem) (r : R D), True := fun _ _ _ _ _ => trivial
  unfold b__law_bent_row
  by_cases c0 : way = 0
  · obtain ⟨u, hu⟩ : ∃ u : Nat, u = M + more := ⟨_, rfl⟩
    have eu : (M : Int) + (more : Int) = (u : Int) := by omega
    obtain ⟨ds, e1, e2, e3⟩ := ins (nD u) trivial (by simp) (by simp [okD]; omega)
    refine ⟨_, B4, e3, ?_⟩
    have io := io (nD u)
    rw [← e1] at io
    have fin := fin ds e2
    have done := done ds e2
    rw [decide_eq_true c0] at w0
    generalize (if decide (more = 1) = true then D.tup ds else D.lst ds) = res at fin done ⊢
    simp [q1, fl, q2, q3, q4, fL, w0, gl, ifB_obj, eu, io]
    rw [fin, done]
  · rw [decide_eq_false c0] at w0
    by_cases c1' : way = 1
    · obtain ⟨u, hu⟩ : ∃ u : Int, u = -1 - (more : Int) := ⟨_, rfl⟩
      obtain ⟨ds, e1, e2, e3⟩ := ins (.int u) trivial (by simp) (by simp [okD]; omega)
      refine ⟨_, B4, e3, ?_⟩
      have io := io (.int u)
      rw [← e1] at io
      have fin := fin ds e2
      have done := done ds e2
      rw [decide_eq_true c1'] at w1
      generalize (if decide (more = 1) = true then D.tup ds else D.lst ds) = res at fin done ⊢
      simp [q1, fl, q2, q3, q4, fL, w0, w1, gl, ifB_obj, oNeg, ← hu, io]
      rw [fin, done]
    · rw [decide_eq_false c1'] at w1
      by_cases c2 : way = 2
      · rw [decide_eq_true c2] at w2
        obtain ⟨v, B5, hv, q5⟩ := takeX ca hn B4 (show (0 : Int) < 6 by decide) (by decide) [.lst Rw]
        have six : v = 0 ∨ v = 1 ∨ v = 2 ∨ v = 3 ∨ v = 4 ∨ v = 5 := by omega
        obtain ⟨d, hd, hi⟩ : ∃ d, BadS ca M d ∧ ∀ m, oIx (.lst [.non, .int 7, .str "", .str "01", .dic [] [], .bl true]) (nD v) m = .ok d m := by
          rcases six with e | e | e | e | e | e <;> subst e
          · exact ⟨.non, ⟨by simp, fun m hm => unlike_not ca rfl⟩, fun m => oIx_lst rfl⟩
          · exact ⟨.int 7, ⟨by simp, fun m hm => unlike_not ca rfl⟩, fun m => oIx_lst rfl⟩
          · exact ⟨.str "", ⟨by simp, fun m hm => unlike_not ca rfl⟩, fun m => oIx_lst rfl⟩
          · exact ⟨.str "01", ⟨by simp, fun m hm => unlike_not ca rfl⟩, fun m => oIx_lst rfl⟩
          · exact ⟨.dic [] [], ⟨by simp [D.und], fun m hm => unlike_not ca rfl⟩, fun m => oIx_lst rfl⟩
          · exact ⟨.bl true, ⟨by simp, fun m hm => unlike_not ca rfl⟩, fun m => oIx_lst rfl⟩
        refine ⟨d, B5, hd, ?_⟩
        have nw : ∀ m, newD false [] [] m = .ok (.dic [] []) m := fun m => rfl
        have nl6 : ∀ m, newLs false [.non, .int 7, .str "", .str "01", .dic [] [], .bl true] m = .ok (.lst [.non, .int 7, .str "", .str "01", .dic [] [], .bl true]) m := fun m => newLs_lst z6
        have tr2 := tr d B5 hd.und [.lst Rw]
        simp [q1, fl, q2, q3, q4, fL, w0, w1, w2, nw, nl6, q5, hi]
        exact tr2
      · rw [decide_eq_false c2] at w2
        by_cases hL : L = []
        · rw [decide_eq_true hL] at ne0
          obtain ⟨ds, e1, e2, e3⟩ := ins od ho.pl ho.und (ho.okD M)
          refine ⟨_, B4, e3, ?_⟩
          have io := io od
          rw [← e1] at io
          have fin := fin ds e2
          have done := done ds e2
          generalize (if decide (more = 1) = true then D.tup ds else D.lst ds) = res at fin done ⊢
          cases h5 : decide (way < 5) with
          | true =>
            rw [h5] at l5
            cases h6 : decide (way = 5) with
            | true =>
              rw [h6] at w5
              simp [q1, fl, q2, q3, q4, fL, w0, w1, w2, w5, l5, ne0, nl0, gl, ifB_obj, io]
              rw [fin, done]
            | false =>
              rw [h6] at w5
              simp [q1, fl, q2, q3, q4, fL, w0, w1, w2, w5, l5, ne0, nl0, gl, ifB_obj, io]
              rw [fin, done]
          | false =>
            rw [h5] at l5
            cases h6 : decide (way = 5) with
            | true =>
              rw [h6] at w5
              simp [q1, fl, q2, q3, q4, fL, w0, w1, w2, w5, l5, ne0, nl0, gl, ifB_obj, io]
              rw [fin, done]
            | false =>
              rw [h6] at w5
              simp [q1, fl, q2, q3, q4, fL, w0, w1, w2, w5, l5, ne0, nl0, gl, ifB_obj, io]
              rw [fin, done]
        · have hlen : 0 < L.length := List.length_pos_iff.mpr hL
          rw [decide_eq_false hL] at ne0
          by_cases c5 : way < 5
          · rw [decide_eq_true c5] at l5
            obtain ⟨u, hu⟩ : ∃ u : Nat, u = at_ + more := ⟨_, rfl⟩
            have eu : (at_ : Int) + (more : Int) = (u : Int) := by omega
            have om : ∀ m, oMod (nD u) (.int (L.length : Int)) m = .ok (nD (u % L.length)) m := fun m => by rw [oMod_int (by omega)]; rfl
            have hk : u % L.length < L.length := Nat.mod_lt _ hlen
            have ix : ∀ m, oIx (.lst Rw) (nD (u % L.length)) m = .ok (nD (L.getD (u % L.length) 0)) m := fun m => by rw [hR]; exact ix_nat hk
            obtain ⟨w, hw⟩ : ∃ w, w = L.getD (u % L.length) 0 := ⟨_, rfl⟩
            have hwL : w ∈ L := by rw [hw, List.getD_eq_getElem?_getD, List.getElem?_eq_getElem hk]; exact List.getElem_mem hk
            rw [← hw] at ix
            obtain ⟨k, hk'⟩ : ∃ k, k = u % L.length := ⟨_, rfl⟩
            rw [← hk'] at om ix
            have e1 : (Rw.take at_ ++ nD w :: Rw.drop at_) = (L.take at_ ++ w :: L.drop at_).map nD := by rw [hR]; simp [List.map_take, List.map_drop]
            have nnd : ¬ (L.take at_ ++ w :: L.drop at_).Nodup := fun h => by
              have := (ins_perm L at_ w).nodup_iff.mp h
              rw [List.nodup_append] at this
              exact this.2.2 w hwL w (by simp) rfl
            have bd := bad_dup ca (M := M) (L := L.take at_ ++ w :: L.drop at_) (decide (more = 1)) (fun x hx => by
              have := (ins_perm L at_ w).mem_iff.mp hx
              rcases List.mem_append.mp this with q | q
              · exact hM x q
              · rw [List.mem_singleton] at q; subst q; exact hM _ hwL) (by rw [len_ins]; omega) nnd
            refine ⟨_, B4, bd, ?_⟩
            have io := io (nD w)
            rw [e1] at io
            have fin := fin ((L.take at_ ++ w :: L.drop at_).map nD) undN
            have done := done ((L.take at_ ++ w :: L.drop at_).map nD) undN
            generalize ((L.take at_ ++ w :: L.drop at_).map nD) = ds at io fin done ⊢
            generalize (if decide (more = 1) = true then D.tup ds else D.lst ds) = res at fin done ⊢
            simp [q1, fl, q2, q3, q4, fL, w0, w1, w2, l5, ne0, nl0, gl, ifB_obj, eu, om, ix, io]
            rw [fin, done]
          · rw [decide_eq_false c5] at l5
            by_cases c6 : way = 5
            · rw [decide_eq_true c6] at w5
              have om : ∀ m, oMod (nD at_) (.int (L.length : Int)) m = .ok (nD (at_ % L.length)) m := fun m => by rw [oMod_int (by omega)]; rfl
              have hk : at_ % L.length < L.length := Nat.mod_lt _ hlen
              obtain ⟨k, hk'⟩ : ∃ k, k = at_ % L.length := ⟨_, rfl⟩
              rw [← hk'] at om hk
              have sx : setL (.obj m.length) (nD k) od (MB m n B4 ++ [.lst Rw]) = some (MB m n B4 ++ [.lst (Rw.set k od)]) := by
                rw [setL_ok (gl B4 Rw) (show ixN Rw.length (k : Int) = some k by unfold ixN; simp [hRl, hk]), sl]
              have hu2 : D.unds 0 (Rw.set k od) = true := unds_all.mpr fun x hx => by
                rcases List.mem_or_eq_of_mem_set hx with q | q
                · exact unds_all.mp hRu x q
                · rw [q]; exact ho.und
              have bd := bad_elem ca (M := M) (ds := Rw.set k od) (decide (more = 1)) hu2 (fun x hx => by
                rcases List.mem_or_eq_of_mem_set hx with q | q
                · exact hRp x q
                · rw [q]; exact ho.pl) (by rw [List.length_set, hRl]; omega) (x := od) (List.mem_iff_getElem.mpr ⟨k, by rw [List.length_set, hRl]; exact hk, by simp⟩) (ho.okD M)
              refine ⟨_, B4, bd, ?_⟩
              have fin := fin _ hu2
              have done := done _ hu2
              generalize Rw.set k od = ds at *
              generalize (if decide (more = 1) = true then D.tup ds else D.lst ds) = res at fin done ⊢
              simp [q1, fl, q2, q3, q4, fL, w0, w1, w2, w5, l5, ne0, nl0, om, sx]
              rw [fin, done]
            · rw [decide_eq_false c6] at w5
              obtain ⟨ds, e1, e2, e3⟩ := ins od ho.pl ho.und (ho.okD M)
              refine ⟨_, B4, e3, ?_⟩
              have io := io od
              rw [← e1] at io
              have fin := fin ds e2
              have done := done ds e2
              generalize (if decide (more = 1) = true then D.tup ds else D.lst ds) = res at fin done ⊢
              simp [q1, fl, q2, q3, q4, fL, w0, w1, w2, w5, l5, ne0, nl0, gl, ifB_obj, io]
              rw [fin, done]
end
end K18

/-! K18R: what the class refuses; _law_bent, _law_refused. -/
namespace K18
open PySem PySem.Spec PyProof.Rows L2 DL M18
/-- the class refuses these -/
def Ref (ca : CA) (d1 d2 d3 d4 : D) : Prop := ∀ m, Und m → oMake ca.c_Rounds 5 (f_Rounds___init__ ca) [d1, d2, d3, d4] m = .err ⟨.ref ca.c_InvalidRounds, none⟩ m
section
variable (ca : CA) {n : Nat} {m : Mem} {d1 d2 d3 d4 : D}
theorem ref_mk (h : ∀ m1 : Mem, Und m1 → ∀ x0 : Option D, ∃ loc, b_Rounds___init__ ca m1.length [x0, some d1, some d2, some d3, some d4, none, none, none, none, none] m1 = .err ⟨.ref ca.c_InvalidRounds, none⟩ loc m1) : Ref ca d1 d2 d3 d4 := by
  intro m hU
  have hU1 : Und (m ++ [DO.ins ca.c_Rounds [] []]) := hU.push (by simp [DO.und])
  obtain ⟨loc, e⟩ := h (m ++ [DO.ins ca.c_Rounds [] []]) hU1 (some (.obj m.length))
  have e1 : f_Rounds___init__ ca [.obj m.length, d1, d2, d3, d4] (m ++ [DO.ins ca.c_Rounds [] []]) = .err ⟨.ref ca.c_InvalidRounds, none⟩ (m ++ [DO.ins ca.c_Rounds [] []]) := by
    show trunc (m ++ [DO.ins ca.c_Rounds [] []]).length (ofSR (b_Rounds___init__ ca (m ++ [DO.ins ca.c_Rounds [] []]).length _ _)) = _
    have := trunc_err (m := m ++ [DO.ins ca.c_Rounds [] []]) (N := (m ++ [DO.ins ca.c_Rounds [] []]).length) (e := ⟨.ref ca.c_InvalidRounds, none⟩) (x := []) rfl rfl hU1
    rw [List.append_nil] at this
    rw [show startD 10 [.obj m.length, d1, d2, d3, d4] = [some (.obj m.length), some d1, some d2, some d3, some d4, none, none, none, none, none] from rfl, e]
    exact this
  unfold oMake
  unfold callD
  rw [if_pos (show [D.obj m.length, d1, d2, d3, d4].length = 5 from rfl), e1]
  unfold mkFin
  have hum : Mem.und m.length m = true := hU
  have et : (m ++ [DO.ins ca.c_Rounds [] []]).take m.length = m := by rw [List.take_left']; rfl
  simp [et, hum, Ex.und]
theorem ref1 (h : PlD d2) (hn : isN d2 = false) : Ref ca d1 d2 d3 d4 := ref_mk ca fun m1 _ x0 => by
  have e := num_ok ca h m1
  rw [hn] at e
  unfold b_Rounds___init__
  exact ⟨_, by simp [e]; rfl⟩
theorem ref2 (h2 : PlD d2) (hn2 : isN d2 = true) (h : PlD d3) (hn : isN d3 = false) : Ref ca d1 d2 d3 d4 := ref_mk ca fun m1 _ x0 => by
  have e := num_ok ca h m1
  have e2 := num_ok ca h2 m1
  rw [hn] at e
  rw [hn2] at e2
  unfold b_Rounds___init__
  exact ⟨_, by simp [e, e2]; rfl⟩
theorem ref3 {s : Nat} : Ref ca d1 (nD s) (.int 0) d4 := ref_mk ca fun m1 _ x0 => by
  have e := num_ok ca (d := nD s) trivial m1
  have e2 := num_ok ca (d := .int 0) trivial m1
  rw [isN_nat] at e
  rw [show isN (.int 0) = true from rfl] at e2
  unfold b_Rounds___init__
  exact ⟨_, by simp [e, e2]; rfl⟩
theorem ref4 {s q : Nat} (hq : 0 < q) (h : ∀ m, Und m → f__are_unlike_below ca [d1, nD s] m = .ok (.bl false) m) : Ref ca d1 (nD s) (nD q) d4 := ref_mk ca fun m1 hU x0 => by
  have e := num_ok ca (d := nD s) trivial m1
  have e2 := num_ok ca (d := nD q) trivial m1
  rw [isN_nat] at e e2
  have e3 := h m1 hU
  have h0 : ¬ q = 0 := by omega
  unfold b_Rounds___init__
  exact ⟨_, by simp [e, e2, e3, h0]; rfl⟩
theorem ref5 {s q : Nat} (hq : 0 < q) (h1 : ∀ m, Und m → f__are_unlike_below ca [d1, nD s] m = .ok (.bl true) m) (h : ∀ m, Und m → f__are_unlike_below ca [d4, nD q] m = .ok (.bl false) m) : Ref ca d1 (nD s) (nD q) d4 := ref_mk ca fun m1 hU x0 => by
  have e := num_ok ca (d := nD s) trivial m1
  have e2 := num_ok ca (d := nD q) trivial m1
  rw [isN_nat] at e e2
  have e3 := h1 m1 hU
  have e4 := h m1 hU
  have h0 : ¬ q = 0 := by omega
  unfold b_Rounds___init__
  exact ⟨_, by simp [e, e2, e3, e4, h0]; rfl⟩
theorem refused_ok (h : Ref ca d1 d2 d3 d4) (hU : Und m) : f__law_refused ca [.tup [d1, d2, d3, d4]] m = .ok (.bl true) m := by
  have e := h m hU
  have i0 : ∀ m, oIx (.tup [d1, d2, d3, d4]) (.int 0) m = .ok d1 m := fun m => oIx_tup rfl
  have i1 : ∀ m, oIx (.tup [d1, d2, d3, d4]) (.int 1) m = .ok d2 m := fun m => oIx_tup rfl
  have i2 : ∀ m, oIx (.tup [d1, d2, d3, d4]) (.int 2) m = .ok d3 m := fun m => oIx_tup rfl
  have i3 : ∀ m, oIx (.tup [d1, d2, d3, d4]) (.int 3) m = .ok d4 m := fun m => oIx_tup rfl
  unfold f__law_refused runD b__law_refused
  simp [startD, sTry, i0, i1, i2, i3, e, trunc_same]
end
end K18

/-! K18S: _law_bent makes what the class refuses. -/
namespace K18
open PySem PySem.Spec PyProof.Rows L2 DL M18
theorem max_nat {L : List Nat} (h : L ≠ []) (m : Mem) : ∃ k ∈ L, fMaxL [.lst (L.map nD)] m = .ok (nD k) m := by
  have hl : 0 < (castL L).length := by rw [List.length_map]; exact List.length_pos_iff.mpr h
  obtain ⟨h1, _⟩ := maxI_ok hl
  obtain ⟨k, hk, e⟩ := List.mem_map.mp h1
  refine ⟨k, hk, ?_⟩
  have hi : intsOf m (.lst (L.map nD)) = some (castL L) := by simp only [intsOf, rget, lget, Option.bind_some, intsD_nat]
  unfold fMaxL
  simp only [hi]
  rw [if_pos hl, ← e]
section
variable (ca : CA) {n : Nat} {m : Mem}
theorem bent_ok (hU : Und m) (hn : n < m.length) (B : Bag) {f : Frm} (h : Ok f) (hs : f.s ≤ 200) (hq : f.q ≤ 30) : ∃ (d1 d2 d3 d4 : D) (B' : Bag), Ref ca d1 d2 d3 d4 ∧ f__law_bent ca [.obj n, frmD true true f] (MB m n B) = .ok (.tup [d1, d2, d3, d4]) (MB m n B') := by
  have hq0 := h.q0
  have lf := len_first h
  have ll := len_late h
  obtain ⟨way, B1, a1, q1⟩ := takeM ca hn B (show (0 : Int) < 10 by decide) (by decide)
  have tr : ∀ (d : D) (B : Bag), trunc m.length (.ok d (MB m n B)) = .ok d (MB m n B) := fun d B => trunc_same (by simp)
  obtain ⟨X, hX⟩ : ∃ X, X = frmD true true f := ⟨_, rfl⟩
  have i0 : ∀ m, oIx X (.int 0) m = .ok (.lst (f.first.map nD)) m := fun m => by rw [hX]; exact f0
  have i1 : ∀ m, oIx X (.int 1) m = .ok (nD f.s) m := fun m => by rw [hX]; exact f1
  have i2 : ∀ m, oIx X (.int 2) m = .ok (nD f.q) m := fun m => by rw [hX]; exact f2
  have i3 : ∀ m, oIx X (.int 3) m = .ok (.lst (f.late.map nD)) m := fun m => by rw [hX]; exact f3
  have h0 : ∀ B, f__law_bent ca [.obj n, X] (MB m n B) = trunc m.length (ofSR (b__law_bent ca m.length [some (.obj n), some X, none, none, none] (MB m n B))) := fun B => by
    show trunc (MB m n B).length (ofSR (b__law_bent ca (MB m n B).length _ _)) = _
    rw [lenMB]; rfl
  rw [← hX, h0]
  have z4 : (4 : Nat) ≤ sizeLine := szL (by decide)
  have nt : ∀ (a b c d : D) m, newT [a, b, c, d] m = .ok (.tup [a, b, c, d]) m := fun a b c d m => newT_tup z4
  have w6 : ∀ m, oEq (nD way) (.int 6) m = .ok (.bl (decide (way = 6))) m := fun m => EncN.oEq (by decide) way 6
  have w7 : ∀ m, oEq (nD way) (.int 7) m = .ok (.bl (decide (way = 7))) m := fun m => EncN.oEq (by decide) way 7
  have w8 : ∀ m, oEq (nD way) (.int 8) m = .ok (.bl (decide (way = 8))) m := fun m => EncN.oEq (by decide) way 8
  have w9 : ∀ m, oEq (nD way) (.int 9) m = .ok (.bl (decide (way = 9))) m := fun m => EncN.oEq (by decide) way 9
  have l3 : ∀ m, oLt (nD way) (.int 3) m = .ok (.bl (decide (way < 3))) m := fun m => by
    show R.ok (D.bl (decide ((way : Int) < 3))) m = _
    congr 2
    exact decide_eq_decide.mpr ⟨fun h => by omega, fun h => by omega⟩
  have l6 : ∀ m, oLt (nD way) (.int 6) m = .ok (.bl (decide (way < 6))) m := fun m => by
    show R.ok (D.bl (decide ((way : Int) < 6))) m = _
    congr 2
    exact decide_eq_decide.mpr ⟨fun h => by omega, fun h => by omega⟩
  have yes1 : ∀ m, Und m → f__are_unlike_below ca [.lst (f.first.map nD), nD f.s] m = .ok (.bl true) m := fun m hm => by
    rw [unlike_yes ca hm (.inl rfl) h.fl (by omega), decide_eq_true h.fn]
  have nl0 : ∀ m, newLs false ([] : List D) m = .ok (.lst []) m := fun m => newLs_lst (Nat.zero_le _)
  have neF : ∀ m, oNe (.lst (f.first.map nD)) (.lst []) m = .ok (.bl (!decide (f.first = []))) m := fun m => by
    have := ne_lst (A := f.first) (B := []) (m := m)
    simpa using this
  have neL : ∀ m, oNe (.lst (f.late.map nD)) (.lst []) m = .ok (.bl (!decide (f.late = []))) m := fun m => by
    have := ne_lst (A := f.late) (B := []) (m := m)
    simpa using this
  unfold b__law_bent
  by_cases c3 : way < 3
  · rw [decide_eq_true c3] at l3
    obtain ⟨d, B2, bd, q2⟩ := bent_row_ok ca hU hn B1 (M := f.s) (L := f.first) (by omega) h.fl h.fn (by omega)
    refine ⟨d, nD f.s, nD f.q, .lst (f.late.map nD), B2, ref4 ca hq0 bd.no, ?_⟩
    generalize f.first.map nD = Z1 at *
    generalize f.late.map nD = Z2 at *
    simp [i0, i1, i2, i3, q1, l3, q2, nt, tr]
  · rw [decide_eq_false c3] at l3
    by_cases c6 : way < 6
    · rw [decide_eq_true c6] at l6
      obtain ⟨d, B2, bd, q2⟩ := bent_row_ok ca hU hn B1 (M := f.q) (L := f.late) (by omega) h.ll h.ln (by omega)
      refine ⟨.lst (f.first.map nD), nD f.s, nD f.q, d, B2, ref5 ca hq0 yes1 bd.no, ?_⟩
      generalize f.first.map nD = Z1 at *
      generalize f.late.map nD = Z2 at *
      simp [i0, i1, i2, i3, q1, l3, l6, q2, nt, tr]
    · rw [decide_eq_false c6] at l6
      by_cases e6 : way = 6
      · rw [decide_eq_true e6] at w6
        obtain ⟨d, B2, od, q2⟩ := odd_ok ca hn B1
        refine ⟨.lst (f.first.map nD), d, nD f.q, .lst (f.late.map nD), B2, ref1 ca od.pl od.no, ?_⟩
        generalize f.first.map nD = Z1 at *
        generalize f.late.map nD = Z2 at *
        simp [i0, i1, i2, i3, q1, l3, l6, w6, q2, nt, tr]
      · rw [decide_eq_false e6] at w6
        by_cases e7 : way = 7
        · rw [decide_eq_true e7] at w7
          obtain ⟨d, B2, od, q2⟩ := odd_ok ca hn B1
          refine ⟨.lst (f.first.map nD), nD f.s, d, .lst (f.late.map nD), B2, ref2 ca trivial (isN_nat _) od.pl od.no, ?_⟩
          generalize f.first.map nD = Z1 at *
          generalize f.late.map nD = Z2 at *
          simp [i0, i1, i2, i3, q1, l3, l6, w6, w7, q2, nt, tr]
        · rw [decide_eq_false e7] at w7
          -- the last way: 0 minus a draw as the period
          have last : way ≠ 8 → (way = 9 → f.late = [] ∨ ∃ k ∈ f.late, k = 0 ∧ ∀ m, fMaxL [.lst (f.late.map nD)] m = .ok (nD k) m) → ∃ (d1 d2 d3 d4 : D) (B' : Bag), Ref ca d1 d2 d3 d4 ∧ trunc m.length (ofSR (b__law_bent ca m.length [some (.obj n), some X, none, none, none] (MB m n B))) = .ok (.tup [d1, d2, d3, d4]) (MB m n B') := by
            intro e8 h9
            rw [decide_eq_false e8] at w8
            obtain ⟨v, B2, hv, q2⟩ := takeM ca hn B1 (show (0 : Int) < 3 by decide) (by decide)
            have rf : Ref ca (.lst (f.first.map nD)) (nD f.s) (.int (-(v : Int))) (.lst (f.late.map nD)) := by
              by_cases e : v = 0
              · subst e; exact ref3 ca
              · exact ref2 ca trivial (isN_nat _) trivial (by simp [isN]; omega)
            refine ⟨.lst (f.first.map nD), nD f.s, .int (-(v : Int)), .lst (f.late.map nD), B2, rf, ?_⟩
            unfold b__law_bent
            by_cases e9 : way = 9
            · rw [decide_eq_true e9] at w9
              rcases h9 e9 with hl | ⟨k, _, rfl, mx⟩
              · rw [decide_eq_true hl] at neL
                generalize f.first.map nD = Z1 at *
                generalize f.late.map nD = Z2 at *
                simp [i0, i1, i2, i3, q1, l3, l6, w6, w7, w8, w9, nl0, neL, q2, nt, tr]
              · generalize f.first.map nD = Z1 at *
                generalize f.late.map nD = Z2 at *
                cases hb : decide (f.late = []) with
                | true =>
                  rw [hb] at neL
                  simp [i0, i1, i2, i3, q1, l3, l6, w6, w7, w8, w9, nl0, neL, q2, nt, tr]
                | false =>
                  rw [hb] at neL
                  simp [i0, i1, i2, i3, q1, l3, l6, w6, w7, w8, w9, nl0, neL, mx, q2, nt, tr]
            · rw [decide_eq_false e9] at w9
              generalize f.first.map nD = Z1 at *
              generalize f.late.map nD = Z2 at *
              simp [i0, i1, i2, i3, q1, l3, l6, w6, w7, w8, w9, nl0, q2, nt, tr]
          by_cases e8 : way = 8
          · rw [decide_eq_true e8] at w8
            have e9 : ¬ way = 9 := by omega
            rw [decide_eq_false e9] at w9
            by_cases hf : f.first = []
            · obtain ⟨v, B2, hv, q2⟩ := takeM ca hn B1 (show (0 : Int) < 3 by decide) (by decide)
              obtain ⟨u, hu⟩ : ∃ u : Int, u = -1 - (v : Int) := ⟨_, rfl⟩
              refine ⟨.lst (f.first.map nD), .int u, nD f.q, .lst (f.late.map nD), B2, ref1 ca trivial (by simp [isN]; omega), ?_⟩
              rw [decide_eq_true hf] at neF
              generalize f.first.map nD = Z1 at *
              generalize f.late.map nD = Z2 at *
              simp [i0, i1, i2, i3, q1, l3, l6, w6, w7, w8, w9, nl0, neF, oNeg, q2, ← hu, nt, tr]
            · obtain ⟨k, hk, _⟩ := max_nat hf m
              obtain ⟨k, hk, mx⟩ := max_nat hf (MB m n B1)
              have hks := h.fl k hk
              obtain ⟨v, B2, hv, q2⟩ := takeM ca hn B1 (z := (k : Int) + 1) (by omega) (by omega)
              refine ⟨.lst (f.first.map nD), nD v, nD f.q, .lst (f.late.map nD), B2, ref4 ca hq0 (fun m hm => unlike_no ca hm (.inl rfl) (fun x hx => by obtain ⟨j, _, rfl⟩ := List.mem_map.mp hx; trivial) (by rw [List.length_map]; omega) (x := nD k) (List.mem_map_of_mem (f := nD) hk) (by simp [okD]; omega)), ?_⟩
              rw [decide_eq_false hf] at neF
              generalize f.first.map nD = Z1 at *
              generalize f.late.map nD = Z2 at *
              simp [i0, i1, i2, i3, q1, l3, l6, w6, w7, w8, nl0, neF, mx, q2, nt, tr]
          · by_cases e9 : way = 9
            · by_cases hl : f.late = []
              · exact last e8 fun _ => .inl hl
              · obtain ⟨k, hk, mx⟩ := max_nat hl (MB m n B1)
                have mxa : ∀ m, fMaxL [.lst (f.late.map nD)] m = .ok (nD k) m := fun m => by
                  have hi : intsOf m (.lst (f.late.map nD)) = some (castL f.late) := by simp only [intsOf, rget, lget, Option.bind_some, intsD_nat]
                  have hi2 : intsOf (MB m n B1) (.lst (f.late.map nD)) = some (castL f.late) := by simp only [intsOf, rget, lget, Option.bind_some, intsD_nat]
                  unfold fMaxL at mx ⊢
                  simp only [hi]
                  have hl2 : 0 < (castL f.late).length := by rw [List.length_map]; exact List.length_pos_iff.mpr hl
                  simp only [intsOf, rget, lget, Option.bind_some, intsD_nat] at mx
                  have hl3 : 0 < (f.late.map fun n : Nat => (n : Int)).length := hl2
                  rw [if_pos hl3] at mx
                  rw [if_pos hl2]
                  injection mx with mx
                  rw [← mx]
                by_cases hk0 : k = 0
                · exact last e8 fun _ => .inr ⟨k, hk, hk0, mxa⟩
                · rw [decide_eq_false e8] at w8
                  rw [decide_eq_true e9] at w9
                  have hkq := h.ll k hk
                  obtain ⟨v, B2, hv, q2⟩ := takeM ca hn B1 (z := (k : Int)) (by omega) (by omega)
                  obtain ⟨u, hu⟩ : ∃ u : Nat, u = 1 + v := ⟨_, rfl⟩
                  have eu : (1 : Int) + (v : Int) = (u : Int) := by omega
                  refine ⟨.lst (f.first.map nD), nD f.s, nD u, .lst (f.late.map nD), B2, ref5 ca (by omega) yes1 (fun m hm => unlike_no ca hm (.inl rfl) (fun x hx => by obtain ⟨j, _, rfl⟩ := List.mem_map.mp hx; trivial) (by rw [List.length_map]; omega) (x := nD k) (List.mem_map_of_mem (f := nD) hk) (by simp [okD]; omega)), ?_⟩
                  rw [decide_eq_false hl] at neL
                  have k0 : 0 < k := by omega
                  generalize f.first.map nD = Z1 at *
                  generalize f.late.map nD = Z2 at *
                  simp [i0, i1, i2, i3, q1, l3, l6, w6, w7, w8, w9, nl0, neL, mxa, k0, q2, eu, nt, tr]
            · exact last e8 fun e => absurd e e9
end
end K18

/-! K18T: _law_variant, _law_variants_right. -/
namespace K18
open PySem PySem.Spec PyProof.Rows L2 DL M18
theorem cut1 (L : List Nat) : DL.cutD (L.map nD) (some 1) none = (L.drop 1).map nD := by
  cases L with
  | nil => rfl
  | cons a r => 
    have := cut_drop (xs := (a :: r).map nD) (k := 1) (by simp)
    rw [List.map_drop]
    exact this
/-- any of the forms that a variant can be -/
theorem listed {f : Frm} (h : Ok f) (b c : Bool) : Ok f := h
section
variable (ca : CA) {n : Nat} {m : Mem}
theorem variant_ok (hU : Und m) (hn : n < m.length) (B : Bag) {p : Pr} {s q : Nat} (hq0 : 0 < q) (hs : s ≤ 200) (hq : q ≤ 30) : ∃ (f : Frm) (c : Bool) (B' : Bag), Ok f ∧ f.s ≤ 201 ∧ f.q ≤ 31 ∧ f__law_variant ca [.obj n, lstD p s q] (MB m n B) = .ok (frmD false c f) (MB m n B') := by
  obtain ⟨way, B1, a1, q1⟩ := takeM ca hn B (show (0 : Int) < 4 by decide) (by decide)
  have tr : ∀ (d : D) (B : Bag), trunc m.length (.ok d (MB m n B)) = .ok d (MB m n B) := fun d B => trunc_same (by simp)
  obtain ⟨X, hX⟩ : ∃ X, X = lstD p s q := ⟨_, rfl⟩
  obtain ⟨A, hA⟩ : ∃ A, A = M18.firsts p s := ⟨_, rfl⟩
  obtain ⟨C, hC⟩ : ∃ C, C = lates p s q := ⟨_, rfl⟩
  have i0 : ∀ m, oIx X (.int 0) m = .ok (.tup (A.map nD)) m := fun m => by rw [hX, hA]; exact f0
  have i1 : ∀ m, oIx X (.int 1) m = .ok (nD s) m := fun m => by rw [hX]; exact f1
  have i2 : ∀ m, oIx X (.int 2) m = .ok (nD q) m := fun m => by rw [hX]; exact f2
  have i3 : ∀ m, oIx X (.int 3) m = .ok (.tup (C.map nD)) m := fun m => by rw [hX, hC]; exact f3
  have h0 : ∀ B, f__law_variant ca [.obj n, X] (MB m n B) = trunc m.length (ofSR (b__law_variant ca m.length [some (.obj n), some X, none, none] (MB m n B))) := fun B => by
    show trunc (MB m n B).length (ofSR (b__law_variant ca (MB m n B).length _ _)) = _
    rw [lenMB]; rfl
  rw [← hX, h0]
  have z4 : (4 : Nat) ≤ sizeLine := szL (by decide)
  have nt : ∀ (a b c d : D) m, newT [a, b, c, d] m = .ok (.tup [a, b, c, d]) m := fun a b c d m => newT_tup z4
  have w0 : ∀ m, oEq (nD way) (.int 0) m = .ok (.bl (decide (way = 0))) m := fun m => EncN.oEq (by decide) way 0
  have w1 : ∀ m, oEq (nD way) (.int 1) m = .ok (.bl (decide (way = 1))) m := fun m => EncN.oEq (by decide) way 1
  have w2 : ∀ m, oEq (nD way) (.int 2) m = .ok (.bl (decide (way = 2))) m := fun m => EncN.oEq (by decide) way 2
  have ls : ∀ m, oLt (nD s) (.int 200) m = .ok (.bl (decide (s < 200))) m := fun m => by
    show R.ok (D.bl (decide ((s : Int) < 200))) m = _
    congr 2
    exact decide_eq_decide.mpr ⟨fun h => by omega, fun h => by omega⟩
  have lq : ∀ m, oLt (nD q) (.int 30) m = .ok (.bl (decide (q < 30))) m := fun m => by
    show R.ok (D.bl (decide ((q : Int) < 30))) m = _
    congr 2
    exact decide_eq_decide.mpr ⟨fun h => by omega, fun h => by omega⟩
  have base : Ok ⟨A, s, q, C⟩ := by rw [hA, hC]; exact formOf_ok hq0
  have okS : Ok ⟨A, s + 1, q, C⟩ := ⟨hq0, base.fn, fun k hk => Nat.lt_succ_of_lt (base.fl k hk), base.ln, base.ll⟩
  have okQ : Ok ⟨A, s, q + 1, C⟩ := ⟨Nat.succ_pos _, base.fn, base.fl, base.ln, fun k hk => Nat.lt_succ_of_lt (base.ll k hk)⟩
  have okD1 : Ok ⟨A.drop 1, s, q, C⟩ := ⟨hq0, base.fn.sublist (List.drop_sublist _ _), fun k hk => base.fl k (List.mem_of_mem_drop hk), base.ln, base.ll⟩
  have okT : Ok ⟨A, s, q, C.map fun o => (o + 1) % q⟩ := by
    refine ⟨hq0, base.fn, base.fl, ?_, fun k hk => ?_⟩
    · show (C.map fun o => (o + 1) % q).Nodup
      rw [List.Nodup, List.pairwise_map]
      refine List.Pairwise.imp_of_mem ?_ base.ln
      intro a b ha hb hne e
      have ha := base.ll a ha
      have hb := base.ll b hb
      simp only at ha hb
      have ea : (a + 1) % q = if a + 1 = q then 0 else a + 1 := by
        split
        · rename_i z; rw [z, Nat.mod_self]
        · exact Nat.mod_eq_of_lt (by omega)
      have eb : (b + 1) % q = if b + 1 = q then 0 else b + 1 := by
        split
        · rename_i z; rw [z, Nat.mod_self]
        · exact Nat.mod_eq_of_lt (by omega)
      rw [ea, eb] at e
      split at e <;> split at e <;> omega
    · obtain ⟨o, _, rfl⟩ := List.mem_map.mp hk
      exact Nat.mod_lt _ hq0
  have lC := len_late base
  have sl1 : ∀ m, oSl false (.tup (A.map nD)) (some 1) none m = .ok (.tup ((A.drop 1).map nD)) m := fun m => by
    show R.ok (D.tup (DL.cutD (A.map nD) (some 1) none)) m = _
    rw [cut1]
  have lc : eLc false (bnd (e2 oIx (eVar 1) (eC (.int 3))) fun d _ m => iterD d m) (gaName 3) tT (e2 oMod (eCall fInt (aCons (e2 (oAdd false) (eVar 3) (eC (.int 1))) aNil)) (e2 oIx (eVar 1) (eC (.int 2)))) [3] [some (.obj n), some X, some (nD way), none] (MB m n B1) = .ok (.lst ((C.map fun o => (o + 1) % q).map nD)) (MB m n B1) := by
    rw [List.map_map]
    refine lcT (g := nD) (L := C) (s := .st (C.map nD)) (by simp [i3]) srcSt (szL (by simp only at lC; omega)) (fun a ha x => ?_) (fun _ _ => by simp) (undMB hU B1)
    obtain ⟨u, hu⟩ : ∃ u : Nat, u = a + 1 := ⟨_, rfl⟩
    have eu : (a : Int) + 1 = (u : Int) := by omega
    show _ = R.ok (nD ((a + 1) % q)) _
    rw [← hu]
    have em : oMod (nD u) (nD q) (MB m n B1 ++ [x]) = .ok (nD (u % q)) (MB m n B1 ++ [x]) := by rw [oMod_int (by omega)]; rfl
    simp [wipeD, eu, i2, em]
  have last : (decide (way = 0) && decide (s < 200)) = false → (decide (way = 1) && decide (q < 30)) = false → decide (way = 2) = false → trunc m.length (ofSR (b__law_variant ca m.length [some (.obj n), some X, none, none] (MB m n B))) = .ok (frmD false false ⟨A.drop 1, s, q, C⟩) (MB m n B1) := by
    intro e1 e2 e3
    show _ = R.ok (D.tup [D.tup ((A.drop 1).map nD), nD s, nD q, .tup (C.map nD)]) _
    unfold b__law_variant
    rw [e3] at w2
    generalize (A.drop 1).map nD = Z1 at *
    generalize A.map nD = Z2 at *
    generalize C.map nD = Z3 at *
    cases g0 : decide (way = 0) with
    | true =>
      rw [g0] at w0 e1
      have g2 : decide (s < 200) = false := by simpa using e1
      have g1 : decide (way = 1) = false := by
        have := of_decide_eq_true g0
        exact decide_eq_false (by omega)
      rw [g2] at ls
      rw [g1] at w1
      simp [q1, w0, w1, w2, i0, i1, i2, i3, ls, sl1, nt, tr]
    | false =>
      rw [g0] at w0
      cases g1 : decide (way = 1) with
      | true =>
        rw [g1] at w1 e2
        have g2 : decide (q < 30) = false := by simpa using e2
        rw [g2] at lq
        simp [q1, w0, w1, w2, i0, i1, i2, i3, lq, sl1, nt, tr]
      | false =>
        rw [g1] at w1
        simp [q1, w0, w1, w2, i0, i1, i2, i3, sl1, nt, tr]
  by_cases c0 : way = 0 ∧ s < 200
  · refine ⟨_, false, B1, okS, by show s + 1 ≤ 201; omega, by show q ≤ 31; omega, ?_⟩
    show _ = R.ok (D.tup [D.tup (A.map nD), nD (s + 1), nD q, .tup (C.map nD)]) _
    unfold b__law_variant
    rw [decide_eq_true c0.1] at w0
    rw [decide_eq_true c0.2] at ls
    obtain ⟨u, hu⟩ : ∃ u : Nat, u = s + 1 := ⟨_, rfl⟩
    have eu : (s : Int) + 1 = (u : Int) := by omega
    rw [← hu]
    generalize A.map nD = Z2 at *
    generalize C.map nD = Z3 at *
    simp [q1, w0, i0, i1, i2, i3, ls, eu, nt, tr]
  · by_cases c1 : way = 1 ∧ q < 30
    · refine ⟨_, false, B1, okQ, by show s ≤ 201; omega, by show q + 1 ≤ 31; omega, ?_⟩
      show _ = R.ok (D.tup [D.tup (A.map nD), nD s, nD (q + 1), .tup (C.map nD)]) _
      unfold b__law_variant
      rw [decide_eq_true c1.1] at w1
      rw [decide_eq_true c1.2] at lq
      rw [decide_eq_false (show ¬ way = 0 by omega)] at w0
      obtain ⟨u, hu⟩ : ∃ u : Nat, u = q + 1 := ⟨_, rfl⟩
      have eu : (q : Int) + 1 = (u : Int) := by omega
      rw [← hu]
      generalize A.map nD = Z2 at *
      generalize C.map nD = Z3 at *
      simp [q1, w0, w1, i0, i1, i2, i3, lq, eu, nt, tr]
    · by_cases c2 : way = 2
      · refine ⟨_, true, B1, okT, by show s ≤ 201; omega, by show q ≤ 31; omega, ?_⟩
        show _ = R.ok (D.tup [D.tup (A.map nD), nD s, nD q, .lst ((C.map fun o => (o + 1) % q).map nD)]) _
        unfold b__law_variant
        rw [decide_eq_true c2] at w2
        rw [decide_eq_false (show ¬ way = 0 by omega)] at w0
        rw [decide_eq_false (show ¬ way = 1 by omega)] at w1
        generalize (C.map fun o => (o + 1) % q).map nD = Z1 at *
        generalize A.map nD = Z2 at *
        generalize C.map nD = Z3 at *
        simp [q1, w0, w1, w2, i0, i1, i2, i3, lc, nt, tr]
      · exact ⟨_, false, B1, okD1, by show s ≤ 201; omega, by show q ≤ 31; omega, last (by rw [← Bool.decide_and]; exact decide_eq_false c0) (by rw [← Bool.decide_and]; exact decide_eq_false c1) (decide_eq_false c2)⟩
end
end K18

/-! K18U: _law_variants_right; making from forms. -/
namespace K18
open PySem PySem.Spec PyProof.Rows L2 DL M18
theorem EncF : Enc (fun f : Frm => frmD false false f) (fun f => PyData.tuple [.tuple (f.first.map fun n : Nat => PyData.int n), .int f.s, .int f.q, .tuple (f.late.map fun n : Nat => PyData.int n)]) 2 where
  py := fun f => by
    have h1 := EncN.tup.py f.first
    have h2 := EncN.tup.py f.late
    show pyOf (.tup [.tup (f.first.map nD), nD f.s, nD f.q, .tup (f.late.map nD)]) = _
    generalize f.first.map nD = A at *
    generalize f.late.map nD = C at *
    simp only [pyOf, pysOf] at h1 h2 ⊢
    rw [h1, h2]
    rfl
  eq := fun a b => by
    have h1 := EncN.tup.eq a.first b.first
    have h2 := EncN.tup.eq a.late b.late
    have h3 := EncN.eq a.s b.s
    have h4 := EncN.eq a.q b.q
    have e1 : PyData.eqv (.tuple [.tuple (a.first.map fun n : Nat => PyData.int n), .int a.s, .int a.q, .tuple (a.late.map fun n : Nat => PyData.int n)]) (.tuple [.tuple (b.first.map fun n : Nat => PyData.int n), .int b.s, .int b.q, .tuple (b.late.map fun n : Nat => PyData.int n)]) =
        (PyData.eqv (.tuple (a.first.map fun n : Nat => PyData.int n)) (.tuple (b.first.map fun n : Nat => PyData.int n)) && (PyData.eqv (.int a.s) (.int b.s) && (PyData.eqv (.int a.q) (.int b.q) && (PyData.eqv (.tuple (a.late.map fun n : Nat => PyData.int n)) (.tuple (b.late.map fun n : Nat => PyData.int n)) && true)))) := by
      conv => lhs; unfold PyData.eqv
      simp only [PyData.eqvAll]
    rw [e1, h1, h2, h3, h4]
    rw [Bool.and_true, ← Bool.decide_and, ← Bool.decide_and, ← Bool.decide_and]
    refine decide_eq_decide.mpr ?_
    obtain ⟨a1, a2, a3, a4⟩ := a
    obtain ⟨b1, b2, b3, b4⟩ := b
    simp
  lay := fun f => by
    have h1 := EncN.tup.lay f.first
    have h2 := EncN.tup.lay f.late
    simp only [PyData.canLay0, PyData.canLayAll0] at h1 h2 ⊢
    simp [h1, h2]
  dep := fun f => by
    have h1 := EncN.deps f.first
    have h2 := EncN.deps f.late
    simp only [PyData.depth, PyData.depthAll]
    omega
theorem lst_eq {p p' : Pr} {s s' q q' : Nat} {m : Mem} : oEq (lstD p s q) (lstD p' s' q') m = .ok (.bl (decide (formOf p s q = formOf p' s' q'))) m := EncF.oEq (by decide) _ _
section
variable (ca : CA) {n : Nat} {m : Mem}
/-- made out of lists or tuples -/
theorem make_ok {f : Frm} (h : Ok f) {d1 d4 : D} {m : Mem} (h1 : SqIs m d1 (f.first.map nD)) (h4 : SqIs m d4 (f.late.map nD)) (hu : Und m) (hz : f.s ≤ 1000) (hz2 : f.q ≤ 60) {s q : Nat} (hL : Lst (has f) s q) :
    oMake ca.c_Rounds 5 (f_Rounds___init__ ca) [d1, nD f.s, nD f.q, d4] m = .ok (rndD ca.c_Rounds (has f) s q) m := by
  obtain ⟨s', q', hL', e⟩ := init_ok ca h h1 h4 hu hz hz2
  obtain ⟨rfl, rfl⟩ := hL.uniq hL'
  exact e
theorem least_is {b c : Bool} {f : Frm} (h : Ok f) (hb : f.s + 2 * f.q ≤ 100000) {m : Mem} (hU : Und m) {s q : Nat} (hL : Lst (has f) s q) : f__law_least ca [frmD b c f] m = .ok (lstD (has f) s q) m := by
  obtain ⟨s', q', hL', _, _, e⟩ := least_ok ca (b := b) (c := c) h hb m hU
  obtain ⟨rfl, rfl⟩ := hL.uniq hL'
  exact e
theorem lst_ex {f : Frm} (h : Ok f) (hb : f.s + 2 * f.q ≤ 100000) : ∃ s q, Lst (has f) s q ∧ s ≤ f.s ∧ q ≤ f.q ∧ 0 < q := by
  have h1 := step_ok h
  obtain ⟨P, hP⟩ : ∃ P, P = stepN f.late f.q f.late.length := ⟨_, rfl⟩
  rw [← hP] at h1
  obtain ⟨b, _, b2, b3, b4⟩ := start_spec h h1.1
  obtain ⟨l1, l2⟩ := low_ok h1.1 b2 b3 b4
  exact ⟨b, P, ⟨l1, h1.2, l2⟩, b2, h1.2 _ _ (has_per h), h1.1.1⟩
theorem variants_ok (hU : Und m) (hn : n < m.length) (B : Bag) {p : Pr} {s q : Nat} (hL : Lst p s q) (hs : s ≤ 200) (hq : q ≤ 30) : ∃ B', f__law_variants_right ca [.obj n, rndD ca.c_Rounds p s q, lstD p s q] (MB m n B) = .ok (.bl true) (MB m n B') := by
  have hq0 := hL.per.1
  obtain ⟨X, hX⟩ : ∃ X, X = rndD ca.c_Rounds p s q := ⟨_, rfl⟩
  obtain ⟨Y, hY⟩ : ∃ Y, Y = lstD p s q := ⟨_, rfl⟩
  obtain ⟨l2, m2, e, w⟩ := forD_all (ga := gaName 3) (body := lp__law_variants_right_1 ca) (I := fun i l m' => ∃ (B' : Bag) (x3 x4 x5 x6 : Option D), m' = MB m n B' ∧ l = [some (.obj n), some X, some Y, x3, x4, x5, x6]) (rangeD 0 1 2)
    (loc := [some (.obj n), some X, some Y, none, none, none, none]) (m := MB m n B) (fun i d l m' hd hI => by
      obtain ⟨B', x3, x4, x5, x6, rfl, rfl⟩ := hI
      obtain ⟨f, c, B2, okf, fs, fq, q1⟩ := variant_ok ca hU hn B' (p := p) hq0 hs hq
      obtain ⟨s', q', hL', _, _, _⟩ := lst_ex okf (by omega)
      have hU2 := undMB (n := n) hU B2
      have q2 := least_is ca (b := false) (c := c) okf (by omega) hU2 hL'
      have q3 := make_ok ca okf (d1 := .lst (f.first.map nD)) (d4 := .lst (f.late.map nD)) (.inl rfl) (.inl rfl) hU2 (by omega) (by omega) hL'
      have sl := hL'.low _ (has_per okf |>.later (Nat.le_refl _) |> fun h => by exact (hL'.per.later (Nat.le_refl _)))
      have s'b : s' ≤ 1000 := by
        have : Per (has f) f.s q' := by
          obtain ⟨b1, b2⟩ := step_ok okf
          have e1 : stepN f.late f.q f.late.length = q' := Nat.le_antisymm (b2 _ _ hL'.per) (hL'.few _ _ b1)
          rw [← e1]; exact b1
        have := hL'.low _ this
        omega
      have q'b : q' ≤ 1000 := by have := hL'.few _ _ (has_per okf); omega
      have q4 := shows_ok ca (p := has f) (s := s') (q := q') (b := false) (c := false) hU2 s'b q'b
      have q5 := eq_ok ca (p := p) (p' := has f) (s := s) (s' := s') (q := q) (q' := q') (m := MB m n B2)
      have q6 := lst_eq (p := has f) (p' := p) (s := s') (s' := s) (q := q') (q' := q) (m := MB m n B2)
      have sym : decide (formOf p s q = formOf (has f) s' q') = decide (formOf (has f) s' q' = formOf p s q) := decide_eq_decide.mpr ⟨Eq.symm, Eq.symm⟩
      rw [sym] at q5
      obtain ⟨bb, hbb⟩ : ∃ bb, bb = decide (formOf (has f) s' q' = formOf p s q) := ⟨_, rfl⟩
      rw [← hbb] at q5 q6
      have g0 : ∀ m, oIx (frmD false c f) (.int 0) m = .ok (sqD false f.first) m := fun m => f0
      have g1 : ∀ m, oIx (frmD false c f) (.int 1) m = .ok (nD f.s) m := fun m => f1
      have g2 : ∀ m, oIx (frmD false c f) (.int 2) m = .ok (nD f.q) m := fun m => f2
      have g3 : ∀ m, oIx (frmD false c f) (.int 3) m = .ok (sqD c f.late) m := fun m => f3
      have t0 : ∀ m, fList false [sqD false f.first] m = .ok (.lst (f.first.map nD)) m := fun m => list_sq
      have t3 : ∀ m, fList false [sqD c f.late] m = .ok (.lst (f.late.map nD)) m := fun m => list_sq
      rw [← hY] at q1 q6
      rw [← hX] at q5
      have q4' : f__law_shows ca [rndD ca.c_Rounds (has f) s' q', lstD (has f) s' q'] (MB m n B2) = .ok (.bl true) (MB m n B2) := q4
      refine ⟨_, [some (.obj n), some X, some Y, some d, some (frmD false c f), some (lstD (has f) s' q'), some (rndD ca.c_Rounds (has f) s' q')], MB m n B2, rfl, .inl ?_, B2, _, _, _, _, rfl, rfl⟩
      unfold lp__law_variants_right_1
      generalize f.first.map nD = Z1 at *
      generalize f.late.map nD = Z2 at *
      generalize sqD false f.first = Z3 at *
      generalize sqD c f.late = Z4 at *
      generalize frmD false c f = Z5 at *
      generalize lstD (has f) s' q' = Z6 at *
      generalize rndD ca.c_Rounds (has f) s' q' = Z7 at *
      have nb : oNe (.bl bb) (.bl bb) (MB m n B2) = .ok (.bl false) (MB m n B2) := by rw [oNe_bl]; simp
      simp [q1, q2, g0, g1, g2, g3, t0, t3, q3, q4', q5, q6, nb]) ⟨B, none, none, none, none, rfl, rfl⟩
  obtain ⟨B', x3, x4, x5, x6, rfl, rfl⟩ := w
  refine ⟨B', ?_⟩
  have tr : ∀ (d : D) (B : Bag), trunc m.length (.ok d (MB m n B)) = .ok d (MB m n B) := fun d B => trunc_same (by simp)
  have h0 : ∀ B, f__law_variants_right ca [.obj n, X, Y] (MB m n B) = trunc m.length (ofSR (b__law_variants_right ca m.length [some (.obj n), some X, some Y, none, none, none, none] (MB m n B))) := fun B => by
    show trunc (MB m n B).length (ofSR (b__law_variants_right ca (MB m n B).length _ _)) = _
    rw [lenMB]; rfl
  rw [← hX, ← hY, h0]
  unfold b__law_variants_right
  have rg : range1 [.int 2] (MB m n B) = .ok (.st (rangeD 0 1 2)) (MB m n B) := range1_ok (by decide)
  have e' : forS (gaName 3) (lp__law_variants_right_1 ca) (.st (rangeD 0 1 2)) [some (.obj n), some X, some Y, none, none, none, none] (MB m n B) = .nx [some (.obj n), some X, some Y, x3, x4, x5, x6] (MB m n B') := e
  simp [rg, e', tr]
end
end K18

/-! K18V: the law. -/
namespace K18
open PySem PySem.Spec PyProof.Rows L2 DL M18
theorem perm_firsts {f : Frm} (h : Ok f) {A : List Nat} (p : A.Perm f.first) : A.Perm (M18.firsts (has f) f.s) := p.trans (perm_of h.fn (lt_nodup firsts_lt) fun n => by rw [mem_firsts, has_first h])
theorem perm_lates {f : Frm} (h : Ok f) {A : List Nat} (p : A.Perm f.late) : A.Perm (lates (has f) f.s f.q) := p.trans (perm_of h.ln (lt_nodup lates_lt) fun n => by rw [mem_lates, has_late h])
theorem isT (b : Bool) (m : Mem) : oIsB true (.bl b) (.bl b) m = .ok (.bl false) m := by simp [oIsB]
section
variable (ca : CA)
/-- the bent forms, one by one -/
theorem bents_ok (ns : List Int) {f : Frm} (h : Ok f) (hs : f.s ≤ 200) (hq : f.q ≤ 30) {scr : D} (hscr : scr = .ro (ns.map D.int)) (ds : List D) (hds : ∀ d ∈ ds, ∃ k : Nat, d = nD k) (a : DL.Loc) (b : DL.Loc) (m : Mem) (hU : Und m) (ha : a.length = 12) :
    ∃ (m' : Mem) (x : Option D), Und m' ∧ forS (gaName 14) (lp_law_1 ca) (.st ds) (some scr :: some (frmD true true f) :: (a ++ none :: b)) m = .nx (some scr :: some (frmD true true f) :: (a ++ x :: b)) m' := by
  obtain ⟨l2, m2, e, w1, x, w2⟩ := forD_all (ga := gaName 14) (body := lp_law_1 ca) (I := fun i l m' => Und m' ∧ ∃ x : Option D, l = some scr :: some (frmD true true f) :: (a ++ x :: b)) ds (loc := some scr :: some (frmD true true f) :: (a ++ none :: b)) (m := m) (fun i d l m' hd hI => by
    obtain ⟨hU', x, rfl⟩ := hI
    obtain ⟨k, rfl⟩ := hds d (List.mem_of_getElem? hd)
    obtain ⟨B, q1⟩ := box_ok ca ns k m'
    rw [← hscr] at q1
    have hU2 : Und (m' ++ [bagO B]) := hU'.push (by simp [DO.und])
    have st : MB (m' ++ [bagO B]) m'.length B = m' ++ [bagO B] := startMB (by simp)
    obtain ⟨d1, d2, d3, d4, B', rf, q2⟩ := bent_ok ca hU2 (n := m'.length) (by simp) B h hs hq
    rw [st] at q2
    have e2 : MB (m' ++ [bagO B]) m'.length B' = m' ++ [bagO B'] := by simp
    rw [e2] at q2
    have hU3 : Und (m' ++ [bagO B']) := hU'.push (by simp [DO.und])
    have q3 := refused_ok ca rf hU3
    have ls : (some scr :: some (frmD true true f) :: (a ++ x :: b)).set 14 (some (nD k)) = some scr :: some (frmD true true f) :: (a ++ some (nD k) :: b) := by
      show some scr :: some (frmD true true f) :: ((a ++ x :: b).set 12 (some (nD k))) = _
      rw [List.set_append_right _ _ (by omega), ha]
      rfl
    have v14 : ∀ m, eVar 14 (some scr :: some (frmD true true f) :: (a ++ some (nD k) :: b)) m = .ok (nD k) m := fun m => by
      have : (some scr :: some (frmD true true f) :: (a ++ some (nD k) :: b))[14]? = some (some (nD k)) := by
        show (a ++ some (nD k) :: b)[12]? = _
        rw [List.getElem?_append_right (by omega), ha]
        rfl
      unfold eVar
      rw [this]
    refine ⟨_, some scr :: some (frmD true true f) :: (a ++ some (nD k) :: b), m' ++ [bagO B'], rfl, .inl ?_, hU3, _, rfl⟩
    rw [ls]
    unfold lp_law_1
    simp [v14, q1, q2, q3]) ⟨hU, none, rfl⟩
  exact ⟨m2, x, w1, by rw [← w2]; exact e⟩
end
end K18

/-! K18W: the law. -/
namespace K18
open PySem PySem.Spec PyProof.Rows L2 DL M18
theorem seq_step {S T : SX} {N : Nat} {loc loc' : DL.Loc} {m m' : Mem} (h : S N loc m = .nx loc' m') : sSeq S T N loc m = T N loc' m' := by
  rw [ev_sSeq, h, seq_nx]
section
variable (ca : CA)
theorem shows_f {p : Pr} {s q : Nat} {m : Mem} (hU : Und m) (hs : s ≤ 1000) (hq : q ≤ 1000) : f__law_shows ca [rndD ca.c_Rounds p s q, lstD p s q] m = .ok (.bl true) m := shows_ok ca hU hs hq
theorem zero_ok {L : List Nat} (hL : L = [] ∨ L = [0]) {d1 d4 : D} (h1 : d1 = .lst [] ∨ d1 = .tup []) (h4 : d4 = .lst (L.map nD) ∨ d4 = .tup (L.map nD)) {m : Mem} (hU : Und m) :
    ∃ x, oMake ca.c_Rounds 5 (f_Rounds___init__ ca) [d1, .int 0, .int 1, d4] m = .ok x m ∧ f__law_shows ca [x, .tup [.tup [], .int 0, .int 1, .tup (L.map nD)]] m = .ok (.bl true) m := by
  have ok : Ok ⟨[], 0, 1, L⟩ := by
    refine ⟨Nat.one_pos, by simp, by simp, ?_, ?_⟩
    · rcases hL with e | e <;> subst e <;> simp
    · rcases hL with e | e <;> subst e <;> simp
  obtain ⟨s, q, hl, hs, hq, hq0⟩ := lst_ex ok (show 0 + 2 * 1 ≤ 100000 by decide)
  have es : s = 0 := by simpa using hs
  have eq : q = 1 := by
    have : q ≤ 1 := hq
    omega
  subst es eq
  have e := make_ok ca ok (d1 := d1) (d4 := d4) (m := m) (by rcases h1 with e | e <;> subst e <;> simp [SqIs]) (by rcases h4 with e | e <;> subst e <;> simp [SqIs]) hU (by simp) (by simp) hl
  refine ⟨_, e, ?_⟩
  have w := shows_f ca (p := has ⟨[], 0, 1, L⟩) (s := 0) (q := 1) hU (by decide) (by decide)
  have el : lstD (has ⟨[], 0, 1, L⟩) 0 1 = .tup [.tup [], .int 0, .int 1, .tup (L.map nD)] := by
    have : lates (has ⟨[], 0, 1, L⟩) 0 1 = L := by
      rcases hL with e | e <;> subst e <;> decide
    show D.tup [.tup [], .int 0, .int 1, .tup ((lates (has ⟨[], 0, 1, L⟩) 0 1).map nD)] = _
    rw [this]
  rw [el] at w
  exact w
end
theorem law_plain (ca : CA) (ns : List Int) (hl : ns.length ≤ 63) : ∃ m, f_law ca [.ro (ns.map D.int)] [] = .ok (.bl true) m := by
  obtain ⟨scr, hscr⟩ : ∃ scr, scr = D.ro (ns.map D.int) := ⟨_, rfl⟩
  -- the first box and the form
  obtain ⟨B0, q0⟩ := box_ok ca ns 0 []
  obtain ⟨f, B0', okf, fs, fq, q1⟩ := form_ok ca (n := 0) (m := [bagO B0]) (by simp [Und, Mem.und, DO.und]) rfl (show (0 : Int) < 4 by decide) (by decide)
  have e1 : MB [bagO B0] 0 B0' = [bagO B0'] := rfl
  rw [e1] at q1
  obtain ⟨s, q, hL, ls, lq, lq0⟩ := lst_ex okf (by omega)
  have hp := hL.per
  have U1 : Und [bagO B0'] := by simp [Und, Mem.und, DO.und]
  have q2 := least_is ca (b := true) (c := true) okf (by omega) U1 hL
  -- the second box
  obtain ⟨B1, q3⟩ := box_ok ca ns 1 [bagO B0']
  have U2 : Und [bagO B0', bagO B1] := by simp [Und, Mem.und, DO.und]
  obtain ⟨A, B2, pA, q4⟩ := order_ok ca (n := 1) (m := [bagO B0', bagO B1]) U2 (by simp) B1 (L := f.first) (by have := len_first okf; omega)
  obtain ⟨C, B3, pC, q5⟩ := order_ok ca (n := 1) (m := [bagO B0', bagO B1]) U2 (by simp) B2 (L := f.late) (by have := len_late okf; omega)
  have hA := len_first okf
  have hC := len_late okf
  have lA : A.length ≤ 200 := by have := pA.length_eq; omega
  have lC : C.length ≤ 30 := by have := pC.length_eq; omega
  obtain ⟨okAC, hasAC⟩ := listing (has_per okf) (perm_firsts okf pA) (perm_lates okf pC)
  have hL2 : Lst (has ⟨A, f.s, f.q, C⟩) s q := by rw [hasAC]; exact hL
  have UE : ∀ (B : Bag) (a c : List Nat), Und ([bagO B0', bagO B] ++ [.lst (a.map nD), .lst (c.map nD)]) := fun B a c => by simp [Und, Mem.und, DO.und, undN]
  have q6 := make_ok ca okAC (d1 := .obj 2) (d4 := .obj 3) (m := [bagO B0', bagO B3] ++ [.lst (A.map nD), .lst (C.map nD)]) (.inr (.inr ⟨2, rfl, rfl⟩)) (.inr (.inr ⟨3, rfl, rfl⟩)) (UE _ _ _) (by show f.s ≤ 1000; omega) (by show f.q ≤ 60; omega) hL2
  rw [hasAC] at q6
  have q7 := shows_f ca (p := has f) (s := s) (q := q) (UE B3 A C) (by omega) (by omega)
  -- unfolded, with both lists frozen
  obtain ⟨m2, hm2⟩ : ∃ m2 : Mem, m2 = [bagO B0', bagO B3, .dead, .dead] := ⟨_, rfl⟩
  have Um2 : Und m2 := by rw [hm2]; simp [Und, Mem.und, DO.und]
  have lm2 : 1 < m2.length := by rw [hm2]; simp
  obtain ⟨g, B4, okg, hasg, gs, gq, q8⟩ := unfolded_ok ca (n := 1) Um2 lm2 B3 okf fs fq
  rw [show MB m2 1 B3 = m2 from startMB (by rw [hm2]; rfl)] at q8
  have UB : ∀ B, Und (MB m2 1 B) := fun B => undMB Um2 B
  have hLg : Lst (has g) s q := by rw [hasg]; exact hL
  have q9 := make_ok ca okg (d1 := .tup (g.first.map nD)) (d4 := .tup (g.late.map nD)) (m := MB m2 1 B4) (.inr (.inl rfl)) (.inr (.inl rfl)) (UB B4) (by omega) (by omega) hLg
  rw [hasg] at q9
  have okd : Ok (formOf (has f) s q) := formOf_ok lq0
  have hLd : Lst (has (formOf (has f) s q)) s q := by rw [formOf_has hp]; exact hL
  have q10 := make_ok ca okd (d1 := .tup ((formOf (has f) s q).first.map nD)) (d4 := .lst ((formOf (has f) s q).late.map nD)) (m := MB m2 1 B4) (.inr (.inl rfl)) (.inl rfl) (UB B4) (by show s ≤ 1000; omega) (by show q ≤ 60; omega) hLd
  rw [formOf_has hp] at q10
  have q11 := shows_f ca (p := has f) (s := s) (q := q) (UB B4) (by omega) (by omega)
  have q12 := fun m => eq_ok ca (p := has f) (p' := has f) (s := s) (s' := s) (q := q) (q' := q) (m := m)
  rw [decide_eq_true rfl] at q12
  -- near
  obtain ⟨h, B5, tg, q13⟩ := near_ok ca (n := 1) Um2 lm2 B4 okf fs fq
  have okh := tg.ok
  have hs' := tg.s
  have hq' := tg.q
  obtain ⟨s', q', hLh, ls', lq', lq0'⟩ := lst_ex okh (by omega)
  have q14 := make_ok ca okh (d1 := .lst (h.first.map nD)) (d4 := .tup (h.late.map nD)) (m := MB m2 1 B5) (.inl rfl) (.inr (.inl rfl)) (UB B5) (by omega) (by omega) hLh
  have q15 := fun m hU => least_is ca (b := true) (c := true) okh (by omega) (m := m) hU hLh
  have q16 := fun m hU => shows_f ca (p := has h) (s := s') (q := q') (m := m) hU (by omega) (by omega)
  have ne1 : ¬ formOf (has f) s q = formOf (has h) s' q' := fun e => tg.ne (form_det hp hLh.per e).symm
  have ne2 : ¬ formOf (has h) s' q' = formOf (has f) s q := fun e => ne1 e.symm
  have q17 := fun m => eq_ok ca (p := has f) (p' := has h) (s := s) (s' := s') (q := q) (q' := q') (m := m)
  have q18 := fun m => eq_ok ca (p := has h) (p' := has f) (s := s') (s' := s) (q := q') (q' := q) (m := m)
  rw [decide_eq_false ne1] at q17
  rw [decide_eq_false ne2] at q18
  -- variants
  obtain ⟨B6, q19⟩ := variants_ok ca (n := 1) Um2 lm2 B5 hL (by omega) (by omega)
  -- the bent forms
  obtain ⟨made, hmade⟩ : ∃ x, x = rndD ca.c_Rounds (has f) s q := ⟨_, rfl⟩
  obtain ⟨mate, hmate⟩ : ∃ x, x = rndD ca.c_Rounds (has h) s' q' := ⟨_, rfl⟩
  obtain ⟨due, hdue⟩ : ∃ x, x = lstD (has f) s q := ⟨_, rfl⟩
  obtain ⟨dueh, hdueh⟩ : ∃ x, x = lstD (has h) s' q' := ⟨_, rfl⟩
  obtain ⟨frm, hfrm⟩ : ∃ x, x = frmD true true f := ⟨_, rfl⟩
  obtain ⟨unf, hunf⟩ : ∃ x, x = frmD true true g := ⟨_, rfl⟩
  obtain ⟨near, hnear⟩ : ∃ x, x = frmD true true h := ⟨_, rfl⟩
  obtain ⟨k, hk⟩ : ∃ k : Nat, k = max 7 (min ns.length 40) - 2 := ⟨_, rfl⟩
  obtain ⟨m3, x14, U3, q20⟩ := bents_ok ca ns okf fs fq hscr (rangeD 2 1 k) (fun d hd => by
    rw [show (2 : Int) = ((2 : Nat) : Int) from rfl, rangeD_from] at hd
    obtain ⟨i, _, rfl⟩ := List.mem_map.mp hd
    exact ⟨_, rfl⟩) [some due, some (.obj 1), some (.lst (A.map nD)), some (.lst (C.map nD)), some (.lst ((A ++ [f.s]).map nD)), some (.lst []), some made, some unf, some made, some made, some near, some mate] [none] (MB m2 1 B6) (UB B6) rfl
  -- the end
  obtain ⟨z1, q21, q22⟩ := zero_ok ca (L := []) (.inl rfl) (d1 := .lst []) (d4 := .lst []) (.inl rfl) (.inl rfl) U3
  obtain ⟨z2, q23, q24⟩ := zero_ok ca (L := [0]) (.inr rfl) (d1 := .tup []) (d4 := .tup [.int 0]) (.inr rfl) (.inr rfl) U3
  have q25 := make_ok ca okAC (d1 := .tup (A.map nD)) (d4 := .lst (C.map nD)) (m := m3) (.inr (.inl rfl)) (.inl rfl) U3 (by show f.s ≤ 1000; omega) (by show f.q ≤ 60; omega) hL2
  rw [hasAC] at q25
  have q26 := shows_f ca (p := has f) (s := s) (q := q) U3 (by omega) (by omega)
  rw [← hmade] at q6 q7 q9 q10 q11 q12 q17 q18 q19 q25 q26
  rw [← hmate] at q14 q16 q17 q18
  rw [← hdue] at q2 q7 q11 q19 q26
  rw [← hdueh] at q15 q16
  rw [← hscr] at q0 q3
  have q0 : f__law_box ca [scr, .int 0] [] = .ok (.obj 0) [bagO B0] := q0
  have q3 : f__law_box ca [scr, .int 1] [bagO B0'] = .ok (.obj 1) [bagO B0', bagO B1] := q3
  have q4 : f__law_order ca [.obj 1, .lst (f.first.map nD)] [bagO B0', bagO B1] = .ok (.lst (A.map nD)) [bagO B0', bagO B2] := q4
  have q5 : f__law_order ca [.obj 1, .lst (f.late.map nD)] [bagO B0', bagO B2] = .ok (.lst (C.map nD)) [bagO B0', bagO B3] := q5
  have q6 : oMake ca.c_Rounds 5 (f_Rounds___init__ ca) [.obj 2, nD f.s, nD f.q, .obj 3] [bagO B0', bagO B3, .lst (A.map nD), .lst (C.map nD)] = .ok made [bagO B0', bagO B3, .lst (A.map nD), .lst (C.map nD)] := q6
  have q7 : f__law_shows ca [made, due] [bagO B0', bagO B3, .lst (A.map nD), .lst (C.map nD)] = .ok (.bl true) [bagO B0', bagO B3, .lst (A.map nD), .lst (C.map nD)] := q7
  have n1 : oNe (.obj 2) (.lst (A.map nD)) [bagO B0', bagO B3, .lst (A.map nD), .lst (C.map nD)] = .ok (.bl false) [bagO B0', bagO B3, .lst (A.map nD), .lst (C.map nD)] := by
    have := EncN.oNe_obj (m := [bagO B0', bagO B3, .lst (A.map nD), .lst (C.map nD)]) (by decide) (n := 2) (xs := A) (ys := A) rfl
    rwa [decide_eq_true rfl] at this
  have n2 : oNe (.obj 3) (.lst (C.map nD)) [bagO B0', bagO B3, .lst (A.map nD), .lst (C.map nD)] = .ok (.bl false) [bagO B0', bagO B3, .lst (A.map nD), .lst (C.map nD)] := by
    have := EncN.oNe_obj (m := [bagO B0', bagO B3, .lst (A.map nD), .lst (C.map nD)]) (by decide) (n := 3) (xs := C) (ys := C) rfl
    rwa [decide_eq_true rfl] at this
  have i0 : ∀ m, oIx frm (.int 0) m = .ok (.lst (f.first.map nD)) m := fun m => by rw [hfrm]; exact f0
  have i1 : ∀ m, oIx frm (.int 1) m = .ok (nD f.s) m := fun m => by rw [hfrm]; exact f1
  have i2 : ∀ m, oIx frm (.int 2) m = .ok (nD f.q) m := fun m => by rw [hfrm]; exact f2
  have i3 : ∀ m, oIx frm (.int 3) m = .ok (.lst (f.late.map nD)) m := fun m => by rw [hfrm]; exact f3
  have j0 : ∀ m, oIx unf (.int 0) m = .ok (.lst (g.first.map nD)) m := fun m => by rw [hunf]; exact f0
  have j1 : ∀ m, oIx unf (.int 1) m = .ok (nD g.s) m := fun m => by rw [hunf]; exact f1
  have j2 : ∀ m, oIx unf (.int 2) m = .ok (nD g.q) m := fun m => by rw [hunf]; exact f2
  have j3 : ∀ m, oIx unf (.int 3) m = .ok (.lst (g.late.map nD)) m := fun m => by rw [hunf]; exact f3
  have k0 : ∀ m, oIx near (.int 0) m = .ok (.lst (h.first.map nD)) m := fun m => by rw [hnear]; exact f0
  have k1 : ∀ m, oIx near (.int 1) m = .ok (nD h.s) m := fun m => by rw [hnear]; exact f1
  have k2 : ∀ m, oIx near (.int 2) m = .ok (nD h.q) m := fun m => by rw [hnear]; exact f2
  have k3 : ∀ m, oIx near (.int 3) m = .ok (.lst (h.late.map nD)) m := fun m => by rw [hnear]; exact f3
  have q22 : f__law_shows ca [z1, .tup [.tup [], .int 0, .int 1, .tup []]] m3 = .ok (.bl true) m3 := q22
  have q24 : f__law_shows ca [z2, .tup [.tup [], .int 0, .int 1, .tup [.int 0]]] m3 = .ok (.bl true) m3 := q24
  have q10 : oMake ca.c_Rounds 5 (f_Rounds___init__ ca) [.tup ((formOf (has f) s q).first.map nD), nD s, nD q, .lst ((formOf (has f) s q).late.map nD)] (MB m2 1 B4) = .ok made (MB m2 1 B4) := q10
  have d0 : ∀ m, oIx due (.int 0) m = .ok (.tup ((formOf (has f) s q).first.map nD)) m := fun m => by rw [hdue]; exact f0
  have d1 : ∀ m, oIx due (.int 1) m = .ok (nD s) m := fun m => by rw [hdue]; exact f1
  have d2 : ∀ m, oIx due (.int 2) m = .ok (nD q) m := fun m => by rw [hdue]; exact f2
  have d3 : ∀ m, oIx due (.int 3) m = .ok (.tup ((formOf (has f) s q).late.map nD)) m := fun m => by rw [hdue]; exact f3
  rw [← hfrm] at q1 q2 q8 q13 q20
  rw [← hunf] at q8
  rw [← hnear] at q13 q15
  have tl : ∀ (L : List D) (m : Mem), fTuple [.lst L] m = .ok (.tup L) m := fun L m => rfl
  have lt : ∀ (L : List D) (m : Mem), fList false [.tup L] m = .ok (.lst L) m := fun L m => rfl
  have ll : ∀ (L : List D) (m : Mem), fList false [.lst L] m = .ok (.lst L) m := fun L m => rfl
  have ql : ∀ (L : List D) (m : Mem), fList true [.lst L] m = .ok (.obj m.length) (m ++ [.lst L]) := fun L m => rfl
  have nt : ∀ (xs : List D) (m : Mem), xs.length ≤ 10 → newT xs m = .ok (.tup xs) m := fun xs m h => newT_tup (by rw [sizeLine_eq]; omega)
  have fz : ∀ n z, D.fz n z scr = scr ∧ D.fz n z frm = frm ∧ D.fz n z due = due ∧ D.fz n z made = made := fun n z => by
    refine ⟨?_, ?_, ?_, ?_⟩
    · rw [hscr]; exact fz_pure (by show D.unds 0 (ns.map D.int) = true; exact unds_map (fun _ => by simp [D.und]) ns)
    · rw [hfrm]; exact fz_frm
    · rw [hdue]; exact fz_frm
    · rw [hmade]; simp [rndD, D.fz, D.fzs, fzN]
  have key : b_law ca 0 [some scr, none, none, none, none, none, none, none, none, none, none, none, none, none, none, none] [] = .ret (.bl true) m3 := by
    unfold b_law
    refine (seq_step (loc' := [some scr, some frm, none, none, none, none, none, none, none, none, none, none, none, none, none, none]) (m' := [bagO B0']) ?_).trans ?_
    · simp [q0, q1]
    refine (seq_step (loc' := [some scr, some frm, some due, none, none, none, none, none, none, none, none, none, none, none, none, none]) (m' := [bagO B0']) ?_).trans ?_
    · simp [q2]
    refine (seq_step (loc' := [some scr, some frm, some due, some (.obj 1), none, none, none, none, none, none, none, none, none, none, none, none]) (m' := [bagO B0', bagO B1]) ?_).trans ?_
    · simp [q3]
    refine (seq_step (loc' := [some scr, some frm, some due, some (.obj 1), some (.lst (A.map nD)), none, none, none, none, none, none, none, none, none, none, none]) (m' := [bagO B0', bagO B2]) ?_).trans ?_
    · generalize A.map nD = ZA at *
      generalize C.map nD = ZC at *
      generalize f.first.map nD = ZF at *
      generalize f.late.map nD = ZL at *
      simp [i0, q4]
    refine (seq_step (loc' := [some scr, some frm, some due, some (.obj 1), some (.lst (A.map nD)), some (.lst (C.map nD)), none, none, none, none, none, none, none, none, none, none]) (m' := [bagO B0', bagO B3]) ?_).trans ?_
    · generalize A.map nD = ZA at *
      generalize C.map nD = ZC at *
      generalize f.first.map nD = ZF at *
      generalize f.late.map nD = ZL at *
      simp [i3, q5]
    refine (seq_step (loc' := [some scr, some frm, some due, some (.obj 1), some (.lst (A.map nD)), some (.lst (C.map nD)), some (.obj 2), none, none, none, none, none, none, none, none, none]) (m' := [bagO B0', bagO B3, .lst (A.map nD)]) ?_).trans ?_
    · generalize A.map nD = ZA at *
      simp [ql]
    refine (seq_step (loc' := [some scr, some frm, some due, some (.obj 1), some (.lst (A.map nD)), some (.lst (C.map nD)), some (.obj 2), some (.obj 3), none, none, none, none, none, none, none, none]) (m' := [bagO B0', bagO B3, .lst (A.map nD), .lst (C.map nD)]) ?_).trans ?_
    · generalize A.map nD = ZA at *
      generalize C.map nD = ZC at *
      simp [ql]
    refine (seq_step (loc' := [some scr, some frm, some due, some (.obj 1), some (.lst (A.map nD)), some (.lst (C.map nD)), some (.obj 2), some (.obj 3), some made, none, none, none, none, none, none, none]) (m' := [bagO B0', bagO B3, .lst (A.map nD), .lst (C.map nD)]) ?_).trans ?_
    · generalize A.map nD = ZA at *
      generalize C.map nD = ZC at *
      simp [i1, i2, q6]
    refine (seq_step (loc' := [some scr, some frm, some due, some (.obj 1), some (.lst (A.map nD)), some (.lst (C.map nD)), some (.obj 2), some (.obj 3), some made, none, none, none, none, none, none, none]) (m' := [bagO B0', bagO B3, .lst (A.map nD), .lst (C.map nD)]) ?_).trans ?_
    · generalize A.map nD = ZA at *
      generalize C.map nD = ZC at *
      simp [q7, n1, n2]
    refine (seq_step (loc' := [some scr, some frm, some due, some (.obj 1), some (.lst (A.map nD)), some (.lst (C.map nD)), some (.obj 2), some (.obj 3), some made, none, none, none, none, none, none, none]) (m' := [bagO B0', bagO B3, .lst ((A ++ [f.s]).map nD), .lst (C.map nD)]) ?_).trans ?_
    · have a1 : LstM fAppend (.obj 2) [nD f.s] [bagO B0', bagO B3, .lst (A.map nD), .lst (C.map nD)] = .ok .non [bagO B0', bagO B3, .lst ((A ++ [f.s]).map nD), .lst (C.map nD)] := by
        rw [append_obj (n := 2) (xs := A.map nD) rfl (by rw [List.length_map, sizeLine_eq]; omega), List.map_append]
        rfl
      have a2 : ∀ r t, ifB "list" [bagO B0', bagO B3, .lst (A.map nD), .lst (C.map nD)] (.obj 2) r t = r := fun r t => ifB_obj (n := 2) rfl
      generalize (A ++ [f.s]).map nD = ZB at *
      generalize A.map nD = ZA at *
      generalize C.map nD = ZC at *
      simp [i1, a1, a2]
    have z1' : ∀ (g' : SX), sFz 6 g' 0 [some scr, some frm, some due, some (.obj 1), some (.lst (A.map nD)), some (.lst (C.map nD)), some (.obj 2), some (.obj 3), some made, none, none, none, none, none, none, none] [bagO B0', bagO B3, .lst ((A ++ [f.s]).map nD), .lst (C.map nD)] =
        g' 0 [some scr, some frm, some due, some (.obj 1), some (.lst (A.map nD)), some (.lst (C.map nD)), some (.lst ((A ++ [f.s]).map nD)), some (.obj 3), some made, none, none, none, none, none, none, none] [bagO B0', bagO B3, .dead, .lst (C.map nD)] := fun g' => by
      have := sFz_any (i := 6) (n := 2) (N := 0) (f := g') (L := A ++ [f.s]) (m := [bagO B0', bagO B3]) (x := [.lst ((A ++ [f.s]).map nD), .lst (C.map nD)]) (loc := [some scr, some frm, some due, some (.obj 1), some (.lst (A.map nD)), some (.lst (C.map nD)), some (.obj 2), some (.obj 3), some made, none, none, none, none, none, none, none]) (by simp [Und, Mem.und, DO.und]) (by simp [Mem.und, DO.und, undN]) (Nat.le_refl _) (Nat.zero_le _) rfl rfl
      refine Eq.trans this ?_
      simp only [List.map_cons, List.map_nil, Option.map_some, Option.map_none, fz, fz_self, fz_lst, fz_ne (show 1 ≠ 2 by decide), fz_ne (show 3 ≠ 2 by decide)]
      rfl
    refine (z1' _).trans ?_
    refine (seq_step (loc' := [some scr, some frm, some due, some (.obj 1), some (.lst (A.map nD)), some (.lst (C.map nD)), some (.lst ((A ++ [f.s]).map nD)), some (.obj 3), some made, none, none, none, none, none, none, none]) (m' := [bagO B0', bagO B3, .dead, .lst []]) ?_).trans ?_
    · have a2 : ∀ r t, ifB "list" [bagO B0', bagO B3, .dead, .lst (C.map nD)] (.obj 3) r t = r := fun r t => ifB_obj (n := 3) rfl
      have a1 : LstM fClear (.obj 3) [] [bagO B0', bagO B3, .dead, .lst (C.map nD)] = .ok .non [bagO B0', bagO B3, .dead, .lst []] := rfl
      generalize (A ++ [f.s]).map nD = ZB at *
      generalize A.map nD = ZA at *
      generalize C.map nD = ZC at *
      simp [a1, a2]
    have z2' : ∀ (g' : SX), sFz 7 g' 0 [some scr, some frm, some due, some (.obj 1), some (.lst (A.map nD)), some (.lst (C.map nD)), some (.lst ((A ++ [f.s]).map nD)), some (.obj 3), some made, none, none, none, none, none, none, none] [bagO B0', bagO B3, .dead, .lst []] =
        g' 0 [some scr, some frm, some due, some (.obj 1), some (.lst (A.map nD)), some (.lst (C.map nD)), some (.lst ((A ++ [f.s]).map nD)), some (.lst []), some made, none, none, none, none, none, none, none] m2 := fun g' => by
      have := sFz_any (i := 7) (n := 3) (N := 0) (f := g') (L := []) (m := [bagO B0', bagO B3, .dead]) (x := [.lst []]) (loc := [some scr, some frm, some due, some (.obj 1), some (.lst (A.map nD)), some (.lst (C.map nD)), some (.lst ((A ++ [f.s]).map nD)), some (.obj 3), some made, none, none, none, none, none, none, none]) (by simp [Und, Mem.und, DO.und]) (by simp [Mem.und, DO.und]) (Nat.le_refl _) (Nat.zero_le _) rfl rfl
      refine Eq.trans this ?_
      simp only [List.map_cons, List.map_nil, Option.map_some, Option.map_none, fz, fz_self, fz_lst, fz_ne (show 1 ≠ 3 by decide)]
      rw [hm2]
      rfl
    refine (z2' _).trans ?_
    generalize (A ++ [f.s]).map nD = ZB at *
    generalize A.map nD = ZA at *
    generalize C.map nD = ZC at *
    generalize g.first.map nD = ZG at *
    generalize g.late.map nD = ZH at *
    generalize h.first.map nD = ZI at *
    generalize h.late.map nD = ZJ at *
    generalize (formOf (has f) s q).first.map nD = ZK at *
    generalize (formOf (has f) s q).late.map nD = ZM at *
    refine (seq_step (loc' := [some scr, some frm, some due, some (.obj 1), some (.lst ZA), some (.lst ZC), some (.lst ZB), some (.lst []), some made, some unf, none, none, none, none, none, none]) (m' := MB m2 1 B4) ?_).trans ?_
    · simp [q8]
    refine (seq_step (loc' := [some scr, some frm, some due, some (.obj 1), some (.lst ZA), some (.lst ZC), some (.lst ZB), some (.lst []), some made, some unf, some made, none, none, none, none, none]) (m' := MB m2 1 B4) ?_).trans ?_
    · simp [j0, j1, j2, j3, tl, q9]
    refine (seq_step (loc' := [some scr, some frm, some due, some (.obj 1), some (.lst ZA), some (.lst ZC), some (.lst ZB), some (.lst []), some made, some unf, some made, some made, none, none, none, none]) (m' := MB m2 1 B4) ?_).trans ?_
    · simp [d0, d1, d2, d3, lt, q10]
    refine (seq_step (loc' := [some scr, some frm, some due, some (.obj 1), some (.lst ZA), some (.lst ZC), some (.lst ZB), some (.lst []), some made, some unf, some made, some made, none, none, none, none]) (m' := MB m2 1 B4) ?_).trans ?_
    · simp [q11]
    refine (seq_step (loc' := [some scr, some frm, some due, some (.obj 1), some (.lst ZA), some (.lst ZC), some (.lst ZB), some (.lst []), some made, some unf, some made, some made, none, none, none, none]) (m' := MB m2 1 B4) ?_).trans ?_
    · simp [q12, isT]
    refine (seq_step (loc' := [some scr, some frm, some due, some (.obj 1), some (.lst ZA), some (.lst ZC), some (.lst ZB), some (.lst []), some made, some unf, some made, some made, some near, none, none, none]) (m' := MB m2 1 B5) ?_).trans ?_
    · simp [q13]
    refine (seq_step (loc' := [some scr, some frm, some due, some (.obj 1), some (.lst ZA), some (.lst ZC), some (.lst ZB), some (.lst []), some made, some unf, some made, some made, some near, some mate, none, none]) (m' := MB m2 1 B5) ?_).trans ?_
    · simp [k0, k1, k2, k3, tl, ll, q14]
    refine (seq_step (loc' := [some scr, some frm, some due, some (.obj 1), some (.lst ZA), some (.lst ZC), some (.lst ZB), some (.lst []), some made, some unf, some made, some made, some near, some mate, none, none]) (m' := MB m2 1 B5) ?_).trans ?_
    · simp [q15 _ (UB B5), q16 _ (UB B5)]
    refine (seq_step (loc' := [some scr, some frm, some due, some (.obj 1), some (.lst ZA), some (.lst ZC), some (.lst ZB), some (.lst []), some made, some unf, some made, some made, some near, some mate, none, none]) (m' := MB m2 1 B5) ?_).trans ?_
    · simp [q17, q18, isT]
    refine (seq_step (loc' := [some scr, some frm, some due, some (.obj 1), some (.lst ZA), some (.lst ZC), some (.lst ZB), some (.lst []), some made, some unf, some made, some made, some near, some mate, none, none]) (m' := MB m2 1 B6) ?_).trans ?_
    · simp [q19]
    refine (seq_step (loc' := [some scr, some frm, some due, some (.obj 1), some (.lst ZA), some (.lst ZC), some (.lst ZB), some (.lst []), some made, some unf, some made, some made, some near, some mate, x14, none]) (m' := m3) ?_).trans ?_
    · have rg : eArgs range2 (aCons (eC (.int 2)) (aCons (eCall fMax2 (aCons (eC (.int 7)) (aCons (eCall fMin2 (aCons (eCall fLen (aCons (eVar 0) aNil)) (aCons (eC (.int 40)) aNil))) aNil))) aNil)) [some scr, some frm, some due, some (.obj 1), some (.lst ZA), some (.lst ZC), some (.lst ZB), some (.lst []), some made, some unf, some made, some made, some near, some mate, none, none] (MB m2 1 B6) = .ok (.st (rangeD 2 1 k)) (MB m2 1 B6) := by
        have g1 : ∀ m, fLen [scr] m = .ok (.int (ns.length : Int)) m := fun m => by rw [hscr]; simp [fLen, lenD, rget]
        have g2 : ∀ m, fMin2 [.int (ns.length : Int), .int 40] m = .ok (nD (min ns.length 40)) m := fun m => by
          show R.ok (D.int (if (40 : Int) < (ns.length : Int) then (40 : Int) else (ns.length : Int))) m = _
          rw [show (if (40 : Int) < (ns.length : Int) then (40 : Int) else (ns.length : Int)) = ((min ns.length 40 : Nat) : Int) by split <;> omega]
        have g3 : ∀ m, fMax2 [.int 7, nD (min ns.length 40)] m = .ok (nD (max 7 (min ns.length 40))) m := fun m => by
          show R.ok (D.int (if ((min ns.length 40 : Nat) : Int) > (7 : Int) then ((min ns.length 40 : Nat) : Int) else (7 : Int))) m = _
          rw [show (if ((min ns.length 40 : Nat) : Int) > (7 : Int) then ((min ns.length 40 : Nat) : Int) else (7 : Int)) = ((max 7 (min ns.length 40) : Nat) : Int) by split <;> omega]
        obtain ⟨u, hu⟩ : ∃ u : Nat, u = min ns.length 40 := ⟨_, rfl⟩
        rw [← hu] at g2 g3 hk
        obtain ⟨w, hw⟩ : ∃ w : Nat, w = max 7 u := ⟨_, rfl⟩
        rw [← hw] at g3 hk
        have g4 : ∀ m, range2 [.int 2, nD w] m = .ok (.st (rangeD 2 1 k)) m := fun m => by
          rw [range2_ok ⟨by decide, by decide⟩ (smallR (by omega) (by omega)), show ((w : Int) - 2).toNat = k by omega]
        obtain ⟨len, hlen⟩ : ∃ len : Int, len = (ns.length : Int) := ⟨_, rfl⟩
        rw [← hlen] at g1 g2
        simp [g1, g2, g3, g4]
      unfold sFor
      rw [rg]
      exact q20
    refine (seq_step (loc' := [some scr, some frm, some due, some (.obj 1), some (.lst ZA), some (.lst ZC), some (.lst ZB), some (.lst []), some made, some unf, some made, some made, some near, some mate, x14, none]) (m' := m3) ?_).trans ?_
    · simp [newLs_lst, nt, q21, q22]
    refine (seq_step (loc' := [some scr, some frm, some due, some (.obj 1), some (.lst ZA), some (.lst ZC), some (.lst ZB), some (.lst []), some made, some unf, some made, some made, some near, some mate, x14, none]) (m' := m3) ?_).trans ?_
    · simp [newLs_lst, nt, q23, q24]
    refine (seq_step (loc' := [some scr, some frm, some due, some (.obj 1), some (.lst ZA), some (.lst ZC), some (.lst ZB), some (.lst []), some made, some unf, some made, some made, some near, some mate, x14, some made]) (m' := m3) ?_).trans ?_
    · simp [tl, ll, i1, i2, q25]
    refine (seq_step (loc' := [some scr, some frm, some due, some (.obj 1), some (.lst ZA), some (.lst ZC), some (.lst ZB), some (.lst []), some made, some unf, some made, some made, some near, some mate, x14, some made]) (m' := m3) ?_).trans ?_
    · simp [q26, q12, isT]
    simp [q26, q15 _ U3, q16 _ U3]
  refine ⟨m3.take 0, ?_⟩
  show trunc 0 (ofSR (b_law ca 0 [some (D.ro (ns.map D.int)), none, none, none, none, none, none, none, none, none, none, none, none, none, none, none] [])) = _
  rw [← hscr, key]
  exact trunc_cut (by simp [D.und]) (by simp [Mem.und])
end K18

namespace K18
open PySem PySem.Spec PyProof.Rows L2 DL
theorem end_ok {P : Program} {w : World} {K : PySem.W.Frag} {mg : Str → Option Value} {ca : CA} {fa : Addr} {fd : FuncData} (fx : Fx K mg ca) (df : Defs K mg ca) (F : Fun K "law" "law" s_law fa fd) (B : ∀ (s : Shared) (u : Value), BindsTo s fd ⟨[u], []⟩ [("script", u)]) :
    ∃ (fd : FuncData) (g : List D → Mem → R D), (∀ (s : Shared) (u : Value), BindsTo s fd ⟨[u], []⟩ [("script", u)]) ∧
        (∀ base : Heap, FnOk P w K mg base (L2.CX P w) 6 fa fd ["script"] (spD K 1 g)) ∧
        ∀ ns : List Int, ns.length ≤ 63 → (∀ z ∈ ns, Builtin.Int.intBits z ≤ 1048576) → ∃ m, g [.ro (ns.map D.int)] [] = .ok (.bl true) m :=
  ⟨fd, f_law ca, B, fun base => top_ok F fx df, fun ns hl _ => law_plain ca ns hl⟩
end K18
open PySem PySem.W PyProof.Rows
set_option maxHeartbeats 0 in
theorem PySem.Challenge.cw_sumhouse_k18_rounds_keep_the_least_form_holds : PySem.Challenge.rw_sumhouse_k18_rounds_keep_the_least_form.Holds := by
  w_on; o_law; k_head; (case hw => w_witness2)
  k_fill
  refine DL.walk_D (l := PySem.Challenge.rw_sumhouse_k18_rounds_keep_the_least_form) (n := 63) (k := 6) (x := "script") rfl (by decide) rfl ⟨rfl, by decide, by decide⟩ (fun w h Y => PySem.W.kIn_of Y) ?F
  case F =>
    intro w mg fa h KX G hmg
    refine' DL.name_then "Rounds" KX G ?a fun g_Rounds => ?_
    (case a => k_is)
    refine' DL.name_then "SumError" KX G ?a fun g_SumError => ?_
    (case a => k_is)
    refine' DL.name_then "InvalidRounds" KX G ?a fun g_InvalidRounds => ?_
    (case a => k_is)
    refine' DL.name_then "InvalidText" KX G ?a fun g_InvalidText => ?_
    (case a => k_is)
    refine' DL.excT_then KX g_InvalidRounds ?kp ?sb ?ty ?ex fun t_InvalidRounds => ?_
    (case kp => k_is)
    (case sb => k_is)
    (case ty => k_is)
    (case ex => k_exc)
    refine' DL.cls_then KX g_Rounds ?pg ?hd ?po ?sa fun k_Rounds => ?_
    (case pg => k_is)
    (case hd => k_is)
    (case po => k_is)
    (case sa => k_is)
    refine' DL.kc_then k_Rounds ?ha ?hn ?ht ?hm fun kc_Rounds => ?_
    (case ha => k_is)
    (case hn => k_is)
    (case ht => k_is)
    (case hm => k_is)
    refine' DL.sf_then k_Rounds ?a fun sf_Rounds => ?_
    (case a => k_is)
    refine' DL.na_then "first" k_Rounds ?a fun na_Rounds_first => ?_
    (case a => k_is)
    refine' DL.na_then "late" k_Rounds ?a fun na_Rounds_late => ?_
    (case a => k_is)
    refine' DL.na_then "period" k_Rounds ?a fun na_Rounds_period => ?_
    (case a => k_is)
    refine' DL.na_then "start" k_Rounds ?a fun na_Rounds_start => ?_
    (case a => k_is)
    refine' DL.exm_then KX g_InvalidRounds g_InvalidRounds ?h1 ?h2 ?h3 ?h4 fun x_1 => ?_
    (case h1 => k_is)
    (case h2 => k_is)
    (case h3 => k_is)
    (case h4 => k_is)
    refine' DL.excC_then KX g_InvalidRounds ?hg ?hk ?hs ?hd ?ha ?hn ?ht ?hm fun x_2 => ?_
    (case hg => k_is)
    (case hk => k_is)
    (case hs => k_is)
    (case hd => k_is)
    (case ha => k_is)
    (case hn => k_is)
    (case ht => k_is)
    (case hm => k_is)
    refine' DL.kit_then true KX g_InvalidRounds g_SumError ?ne ?h2 ?h3 ?h4 fun x_3 => ?_
    (case ne => decide)
    (case h2 => k_is)
    (case h3 => k_is)
    (case h4 => k_is)
    refine' DL.kitb_then "ValueError" true KX g_InvalidRounds ?hm ?h4 fun x_4 => ?_
    (case hm => decide +kernel)
    (case h4 => k_is)
    refine' DL.kit_then false KX g_InvalidRounds g_InvalidText ?ne ?h2 ?h3 ?h4 fun x_5 => ?_
    (case ne => decide)
    (case h2 => k_is)
    (case h3 => k_is)
    (case h4 => k_is)
    have n_ValueError : mg "ValueError" = none := by
      refine' DL.gone_mk KX G ?a
      (case a => k_is)
    have n_abs : mg "abs" = none := by
      refine' DL.gone_mk KX G ?a
      (case a => k_is)
    have n_all : mg "all" = none := by
      refine' DL.gone_mk KX G ?a
      (case a => k_is)
    have n_bool : mg "bool" = none := by
      refine' DL.gone_mk KX G ?a
      (case a => k_is)
    have n_int : mg "int" = none := by
      refine' DL.gone_mk KX G ?a
      (case a => k_is)
    have n_isinstance : mg "isinstance" = none := by
      refine' DL.gone_mk KX G ?a
      (case a => k_is)
    have n_len : mg "len" = none := by
      refine' DL.gone_mk KX G ?a
      (case a => k_is)
    have n_list : mg "list" = none := by
      refine' DL.gone_mk KX G ?a
      (case a => k_is)
    have n_max : mg "max" = none := by
      refine' DL.gone_mk KX G ?a
      (case a => k_is)
    have n_min : mg "min" = none := by
      refine' DL.gone_mk KX G ?a
      (case a => k_is)
    have n_range : mg "range" = none := by
      refine' DL.gone_mk KX G ?a
      (case a => k_is)
    have n_set : mg "set" = none := by
      refine' DL.gone_mk KX G ?a
      (case a => k_is)
    have n_sorted : mg "sorted" = none := by
      refine' DL.gone_mk KX G ?a
      (case a => k_is)
    have n_tuple : mg "tuple" = none := by
      refine' DL.gone_mk KX G ?a
      (case a => k_is)
    refine' DL.fun_then "_is_number" ["value"] K18.s__is_number KX G (fun _ _ _ _ _ _ us hl => match us, hl with | [_], _ => rfl) ?a ?l ?c ?k fun a__is_number => ?_
    (case a => k_is)
    (case l => k_is)
    (case c => k_is)
    (case k => k_is)
    refine' DL.fun_then "_least_period" ["late", "period"] K18.s__least_period KX G (fun _ _ _ _ _ _ us hl => match us, hl with | [_, _], _ => rfl) ?a ?l ?c ?k fun a__least_period => ?_
    (case a => k_is)
    (case l => k_is)
    (case c => k_is)
    (case k => k_is)
    refine' DL.fun_then "_least_start" ["first", "start", "step", "offsets"] K18.s__least_start KX G (fun _ _ _ _ _ _ us hl => match us, hl with | [_, _, _, _], _ => rfl) ?a ?l ?c ?k fun a__least_start => ?_
    (case a => k_is)
    (case l => k_is)
    (case c => k_is)
    (case k => k_is)
    refine' DL.fun_then "_law_seed" ["script", "place"] K18.s__law_seed KX G (fun _ _ _ _ _ _ us hl => match us, hl with | [_, _], _ => rfl) ?a ?l ?c ?k fun a__law_seed => ?_
    (case a => k_is)
    (case l => k_is)
    (case c => k_is)
    (case k => k_is)
    refine' DL.fun_then "_law_take" ["box", "many"] K18.s__law_take KX G (fun _ _ _ _ _ _ us hl => match us, hl with | [_, _], _ => rfl) ?a ?l ?c ?k fun a__law_take => ?_
    (case a => k_is)
    (case l => k_is)
    (case c => k_is)
    (case k => k_is)
    refine' DL.fun_then "_law_is_number" ["value"] K18.s__law_is_number KX G (fun _ _ _ _ _ _ us hl => match us, hl with | [_], _ => rfl) ?a ?l ?c ?k fun a__law_is_number => ?_
    (case a => k_is)
    (case l => k_is)
    (case c => k_is)
    (case k => k_is)
    refine' DL.fun_then "_law_has" ["form", "number"] K18.s__law_has KX G (fun _ _ _ _ _ _ us hl => match us, hl with | [_, _], _ => rfl) ?a ?l ?c ?k fun a__law_has => ?_
    (case a => k_is)
    (case l => k_is)
    (case c => k_is)
    (case k => k_is)
    refine' DL.fun_then "_law_toggle" ["form", "at"] K18.s__law_toggle KX G (fun _ _ _ _ _ _ us hl => match us, hl with | [_, _], _ => rfl) ?a ?l ?c ?k fun a__law_toggle => ?_
    (case a => k_is)
    (case l => k_is)
    (case c => k_is)
    (case k => k_is)
    refine' DL.meth_then "__eq__" "Rounds.__eq__" ["self", "other"] K18.s_Rounds___eq__ k_Rounds (fun _ _ _ _ _ _ us hl => match us, hl with | [_, _], _ => rfl) ?a ?i ?l ?c ?k ?n fun a_Rounds___eq__ => ?_
    (case a => k_is)
    (case i => k_is)
    (case l => k_is)
    (case c => k_is)
    (case k => k_is)
    (case n => k_is)
    refine' DL.fun_then "_are_unlike_below" ["values", "most"] K18.s__are_unlike_below KX G (fun _ _ _ _ _ _ us hl => match us, hl with | [_, _], _ => rfl) ?a ?l ?c ?k fun a__are_unlike_below => ?_
    (case a => k_is)
    (case l => k_is)
    (case c => k_is)
    (case k => k_is)
    refine' DL.fun_then "_law_box" ["script", "place"] K18.s__law_box KX G (fun _ _ _ _ _ _ us hl => match us, hl with | [_, _], _ => rfl) ?a ?l ?c ?k fun a__law_box => ?_
    (case a => k_is)
    (case l => k_is)
    (case c => k_is)
    (case k => k_is)
    refine' DL.fun_then "_law_least" ["form"] K18.s__law_least KX G (fun _ _ _ _ _ _ us hl => match us, hl with | [_], _ => rfl) ?a ?l ?c ?k fun a__law_least => ?_
    (case a => k_is)
    (case l => k_is)
    (case c => k_is)
    (case k => k_is)
    refine' DL.fun_then "_law_shows" ["made", "due"] K18.s__law_shows KX G (fun _ _ _ _ _ _ us hl => match us, hl with | [_, _], _ => rfl) ?a ?l ?c ?k fun a__law_shows => ?_
    (case a => k_is)
    (case l => k_is)
    (case c => k_is)
    (case k => k_is)
    refine' DL.fun_then "_law_form" ["box", "share"] K18.s__law_form KX G (fun _ _ _ _ _ _ us hl => match us, hl with | [_, _], _ => rfl) ?a ?l ?c ?k fun a__law_form => ?_
    (case a => k_is)
    (case l => k_is)
    (case c => k_is)
    (case k => k_is)
    refine' DL.fun_then "_law_order" ["box", "row"] K18.s__law_order KX G (fun _ _ _ _ _ _ us hl => match us, hl with | [_, _], _ => rfl) ?a ?l ?c ?k fun a__law_order => ?_
    (case a => k_is)
    (case l => k_is)
    (case c => k_is)
    (case k => k_is)
    refine' DL.fun_then "_law_odd" ["box"] K18.s__law_odd KX G (fun _ _ _ _ _ _ us hl => match us, hl with | [_], _ => rfl) ?a ?l ?c ?k fun a__law_odd => ?_
    (case a => k_is)
    (case l => k_is)
    (case c => k_is)
    (case k => k_is)
    refine' DL.fun_then "_law_near" ["box", "form"] K18.s__law_near KX G (fun _ _ _ _ _ _ us hl => match us, hl with | [_, _], _ => rfl) ?a ?l ?c ?k fun a__law_near => ?_
    (case a => k_is)
    (case l => k_is)
    (case c => k_is)
    (case k => k_is)
    refine' DL.fun_then "_law_variant" ["box", "due"] K18.s__law_variant KX G (fun _ _ _ _ _ _ us hl => match us, hl with | [_, _], _ => rfl) ?a ?l ?c ?k fun a__law_variant => ?_
    (case a => k_is)
    (case l => k_is)
    (case c => k_is)
    (case k => k_is)
    refine' DL.fun_then "_law_unfolded" ["box", "form"] K18.s__law_unfolded KX G (fun _ _ _ _ _ _ us hl => match us, hl with | [_, _], _ => rfl) ?a ?l ?c ?k fun a__law_unfolded => ?_
    (case a => k_is)
    (case l => k_is)
    (case c => k_is)
    (case k => k_is)
    refine' DL.fun_then "_law_bent_row" ["box", "row", "bound"] K18.s__law_bent_row KX G (fun _ _ _ _ _ _ us hl => match us, hl with | [_, _, _], _ => rfl) ?a ?l ?c ?k fun a__law_bent_row => ?_
    (case a => k_is)
    (case l => k_is)
    (case c => k_is)
    (case k => k_is)
    refine' DL.make_then "Rounds.__init__" ["self", "first", "start", "period", "late"] K18.s_Rounds___init__ KX g_Rounds (fun _ _ _ _ _ _ us hl => match us, hl with | [_, _, _, _, _], _ => rfl) ?a ?i ?l ?c ?k ?mk ?kc fun a_Rounds___init__ => ?_
    (case a => k_is)
    (case i => k_is)
    (case l => k_is)
    (case c => k_is)
    (case k => k_is)
    (case mk => k_is)
    (case kc => k_is)
    refine' DL.fun_then "_law_bent" ["box", "form"] K18.s__law_bent KX G (fun _ _ _ _ _ _ us hl => match us, hl with | [_, _], _ => rfl) ?a ?l ?c ?k fun a__law_bent => ?_
    (case a => k_is)
    (case l => k_is)
    (case c => k_is)
    (case k => k_is)
    refine' DL.fun_then "_law_refused" ["bent"] K18.s__law_refused KX G (fun _ _ _ _ _ _ us hl => match us, hl with | [_], _ => rfl) ?a ?l ?c ?k fun a__law_refused => ?_
    (case a => k_is)
    (case l => k_is)
    (case c => k_is)
    (case k => k_is)
    refine' DL.fun_then "_law_variants_right" ["box", "made", "due"] K18.s__law_variants_right KX G (fun _ _ _ _ _ _ us hl => match us, hl with | [_, _, _], _ => rfl) ?a ?l ?c ?k fun a__law_variants_right => ?_
    (case a => k_is)
    (case l => k_is)
    (case c => k_is)
    (case k => k_is)
    refine' DL.fun_then "law" ["script"] K18.s_law KX G (fun _ _ _ _ _ _ us hl => match us, hl with | [_], _ => rfl) ?a ?l ?c ?k fun a_law => ?_
    (case a => k_is)
    (case l => k_is)
    (case c => k_is)
    (case k => k_is)
    refine' DL.top_then "law" ["script"] K18.s_law KX G hmg (fun _ _ _ _ _ _ s v => .of_eq rfl) ?a ?l ?c ?k fun fd F B => ?_
    (case a => k_is)
    (case l => k_is)
    (case c => k_is)
    (case k => k_is)
    exact K18.end_ok (ca := ⟨_, _, _, _⟩) ⟨n_ValueError, n_abs, n_all, n_bool, n_int, n_isinstance, n_len, n_list, n_max, n_min, n_range, n_set, n_sorted, n_tuple, g_Rounds, k_Rounds, kc_Rounds, sf_Rounds, na_Rounds_first, na_Rounds_late, na_Rounds_period, na_Rounds_start, g_SumError, t_InvalidRounds, g_InvalidText, x_1, x_2, x_3, x_4, x_5⟩ ⟨a__is_number, a__least_period, a__least_start, a__law_seed, a__law_take, a__law_is_number, a__law_has, a__law_toggle, a_Rounds___eq__, a__are_unlike_below, a__law_box, a__law_least, a__law_shows, a__law_form, a__law_order, a__law_odd, a__law_near, a__law_variant, a__law_unfolded, a__law_bent_row, a_Rounds___init__, a__law_bent, a__law_refused, a__law_variants_right, a_law⟩ F B
