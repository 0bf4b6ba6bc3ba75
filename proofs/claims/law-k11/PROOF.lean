import PyProof.Rows.All
import Wide.All
import OpenK.AllK
import Wide.FinOn
import HandS.ForMost
import HandS.Conv
import HandS.Codes
import HandS.Evl
import HandS.TupAny
import HandS.TupSets
import PySem.Challenge.RW_callsheets_k11_figures_of_days
set_option Elab.async false
set_option linter.all false
set_option maxRecDepth 100000
namespace Cs
open PySem PySem.Spec PyProof.Rows L2
set_option autoImplicit false
abbrev St := L2.St
/-! Data without the heap: what a frame holds, slot by slot. -/

/-! ### data at a value; S: the lists that nobody changes any more -/
mutual
inductive Dt (K : PySem.W.Frag) (S : Addr → Prop) (H : Hp) : V → PyData → Prop
  | non : Dt K S H .non .none
  | bl (b : Bool) : Dt K S H (.bl b) (.bool b)
  | int (i : Int) : Dt K S H (.int i) (.int i)
  | str (x : Str) : Dt K S H (.str x) (.str x)
  | lst {a : Addr} {xs : List V} {ds : List PyData} : S a → H a = some (.lst xs) → DtAll K S H xs ds → Dt K S H (.ref a) (.list ds)
  | tup {a : Addr} {xs : List V} {ds : List PyData} : SqT K H a xs → DtAll K S H xs ds → Dt K S H (.ref a) (.tuple ds)
inductive DtAll (K : PySem.W.Frag) (S : Addr → Prop) (H : Hp) : List V → List PyData → Prop
  | nil : DtAll K S H [] []
  | cons {v : V} {vs : List V} {d : PyData} {ds : List PyData} : Dt K S H v d → DtAll K S H vs ds → DtAll K S H (v :: vs) (d :: ds)
end

/-- what data lean on is kept -/
structure Evo (K : PySem.W.Frag) (S : Addr → Prop) (H : Hp) (S' : Addr → Prop) (H' : Hp) : Prop where
  tup : ∀ a xs, SqT K H a xs → SqT K H' a xs
  lst : ∀ a xs, S a → H a = some (.lst xs) → H' a = some (.lst xs)
  sub : ∀ a, S a → S' a

section
variable {K : PySem.W.Frag} {S S' S'' : Addr → Prop} {H H' H'' : Hp}
theorem Evo.refl : Evo K S H S H := ⟨fun _ _ h => h, fun _ _ _ h => h, fun _ h => h⟩
theorem Evo.trans (a : Evo K S H S' H') (b : Evo K S' H' S'' H'') : Evo K S H S'' H'' :=
  ⟨fun p xs h => b.tup p xs (a.tup p xs h), fun p xs s h => b.lst p xs (a.sub p s) (a.lst p xs s h), fun p h => b.sub p (a.sub p h)⟩
mutual
theorem Dt.mono (e : Evo K S H S' H') : ∀ (d : PyData) (v : V), Dt K S H v d → Dt K S' H' v d
  | .none, _, h => by cases h; exact .non
  | .bool b, _, h => by cases h; exact .bl b
  | .int b, _, h => by cases h; exact .int b
  | .str b, _, h => by cases h; exact .str b
  | .list ds, _, h => by
    cases h with
    | lst s h q => exact .lst (e.sub _ s) (e.lst _ _ s h) (DtAll.mono e ds _ q)
  | .tuple ds, _, h => by
    cases h with
    | tup h q => exact .tup (e.tup _ _ h) (DtAll.mono e ds _ q)
  | .dict _, _, h => by cases h
theorem DtAll.mono (e : Evo K S H S' H') : ∀ (ds : List PyData) (vs : List V), DtAll K S H vs ds → DtAll K S' H' vs ds
  | [], _, h => by cases h; exact .nil
  | d :: ds, _, h => by
    cases h with
    | cons h q => exact .cons (Dt.mono e d _ h) (DtAll.mono e ds _ q)
end
theorem Dt.evo {v : V} {d : PyData} (h : Dt K S H v d) (e : Evo K S H S' H') : Dt K S' H' v d := Dt.mono e d v h
theorem DtAll.evo {v : List V} {d : List PyData} (h : DtAll K S H v d) (e : Evo K S H S' H') : DtAll K S' H' v d := DtAll.mono e d v h
mutual
theorem Dt.dp : ∀ (d : PyData) (v : V), Dt K S H v d → Dp K H v d
  | .none, _, h => by cases h; exact .non
  | .bool b, _, h => by cases h; exact .bl b
  | .int b, _, h => by cases h; exact .int b
  | .str b, _, h => by cases h; exact .str b
  | .list ds, _, h => by
    cases h with
    | lst s h q => exact .lst (SqL.of h) (DtAll.dp ds _ q)
  | .tuple ds, _, h => by
    cases h with
    | tup h q => exact .tup h (DtAll.dp ds _ q)
  | .dict _, _, h => by cases h
theorem DtAll.dp : ∀ (ds : List PyData) (vs : List V), DtAll K S H vs ds → DpAll K H vs ds
  | [], _, h => by cases h; exact .nil
  | d :: ds, _, h => by
    cases h with
    | cons h q => exact .cons (Dt.dp d _ h) (DtAll.dp ds _ q)
end
theorem DtAll.length : ∀ {vs : List V} {ds : List PyData}, DtAll K S H vs ds → vs.length = ds.length
  | _, _, .nil => rfl
  | _, _, .cons _ q => by rw [List.length_cons, List.length_cons, q.length]
theorem DtAll.get : ∀ {vs : List V} {ds : List PyData} {i : Nat} {d : PyData}, DtAll K S H vs ds → ds[i]? = some d → ∃ v, vs[i]? = some v ∧ Dt K S H v d
  | _, _, _, _, .nil, e => by simp at e
  | _, _, 0, _, .cons h _, e => by simp at e; subst e; exact ⟨_, rfl, h⟩
  | _, _, i + 1, d, .cons _ q, e => by
    obtain ⟨v, e1, h⟩ := DtAll.get (i := i) (d := d) q (by simpa using e)
    exact ⟨v, by simpa using e1, h⟩
theorem DtAll.get' {vs : List V} {ds : List PyData} {i : Nat} {v : V} (h : DtAll K S H vs ds) (e : vs[i]? = some v) : ∃ d, ds[i]? = some d ∧ Dt K S H v d := by
  have hi : i < ds.length := by
    have := (List.getElem?_eq_some_iff.mp e).1
    rw [h.length] at this
    exact this
  obtain ⟨u, e1, q⟩ := h.get (List.getElem?_eq_getElem hi)
  rw [e] at e1
  cases e1
  exact ⟨_, List.getElem?_eq_getElem hi, q⟩
theorem DtAll.append : ∀ {vs : List V} {ds : List PyData} {us : List V} {es : List PyData}, DtAll K S H vs ds → DtAll K S H us es → DtAll K S H (vs ++ us) (ds ++ es)
  | _, _, _, _, .nil, s => s
  | _, _, _, _, .cons h q, s => .cons h (q.append s)
theorem DtAll.snoc {vs : List V} {ds : List PyData} {v : V} {d : PyData} (h : DtAll K S H vs ds) (q : Dt K S H v d) : DtAll K S H (vs ++ [v]) (ds ++ [d]) := h.append (.cons q .nil)
theorem DtAll.take : ∀ {vs : List V} {ds : List PyData} (n : Nat), DtAll K S H vs ds → DtAll K S H (vs.take n) (ds.take n)
  | _, _, 0, _ => .nil
  | _, _, _ + 1, .nil => .nil
  | _, _, n + 1, .cons h q => .cons h (q.take n)
theorem DtAll.drop : ∀ {vs : List V} {ds : List PyData} (n : Nat), DtAll K S H vs ds → DtAll K S H (vs.drop n) (ds.drop n)
  | _, _, 0, h => h
  | _, _, _ + 1, .nil => .nil
  | _, _, n + 1, .cons _ q => q.drop n
theorem DtAll.set : ∀ {vs : List V} {ds : List PyData} (n : Nat) {v : V} {d : PyData}, Dt K S H v d → DtAll K S H vs ds → DtAll K S H (vs.set n v) (ds.set n d)
  | _, _, _, _, _, _, .nil => .nil
  | _, _, 0, _, _, h, .cons _ q => .cons h q
  | _, _, n + 1, _, _, h, .cons g q => .cons g (q.set n h)
theorem DtAll.eraseIdx : ∀ {vs : List V} {ds : List PyData} (n : Nat), DtAll K S H vs ds → DtAll K S H (vs.eraseIdx n) (ds.eraseIdx n)
  | _, _, _, .nil => .nil
  | _, _, 0, .cons _ q => q
  | _, _, n + 1, .cons g q => .cons g (q.eraseIdx n)
theorem DtAll.ints : ∀ {ns : List Int} {vs : List V}, DtAll K S H vs (ns.map PyData.int) → vs = ns.map V.int
  | [], _, .nil => rfl
  | n :: ns, _, .cons h q => by cases h; rw [DtAll.ints q, List.map_cons]
theorem DtAll.strs : ∀ {ns : List Str} {vs : List V}, DtAll K S H vs (ns.map PyData.str) → vs = ns.map V.str
  | [], _, .nil => rfl
  | n :: ns, _, .cons h q => by cases h; rw [DtAll.strs q, List.map_cons]
theorem DtAll.bools : ∀ {ns : List Bool} {vs : List V}, DtAll K S H vs (ns.map PyData.bool) → vs = ns.map V.bl
  | [], _, .nil => rfl
  | n :: ns, _, .cons h q => by cases h; rw [DtAll.bools q, List.map_cons]
theorem DtAll.of_ints : ∀ (ns : List Int), DtAll K S H (ns.map V.int) (ns.map PyData.int)
  | [] => .nil
  | n :: ns => .cons (.int n) (DtAll.of_ints ns)
theorem DtAll.of_strs : ∀ (ns : List Str), DtAll K S H (ns.map V.str) (ns.map PyData.str)
  | [] => .nil
  | n :: ns => .cons (.str n) (DtAll.of_strs ns)
theorem DtAll.of_bools : ∀ (ns : List Bool), DtAll K S H (ns.map V.bl) (ns.map PyData.bool)
  | [] => .nil
  | n :: ns => .cons (.bl n) (DtAll.of_bools ns)
end

/-! ### what a slot holds -/
/-- the law's source of draws: [the script's ints, the place, what is left of an int, the seed] -/
def DrawD (ds : List PyData) : Prop := ∃ (ns : List Int) (i b s : Int), ds = [.list (ns.map .int), .int i, .int b, .int s] ∧ 0 ≤ i ∧ 0 ≤ b ∧ 0 ≤ s ∧ s < 2147483647
inductive SD where
  | na | dat (d : PyData) | own (ds : List PyData) | drw
def SD.isOwn : SD → Bool
  | .own _ => true
  | .drw => true
  | _ => false
def RelS (K : PySem.W.Frag) (S : Addr → Prop) (H : Hp) (v : Option V) : SD → Prop
  | .na => True
  | .dat d => ∃ x, v = some x ∧ Dt K S H x d
  | .own ds => ∃ a xs, v = some (.ref a) ∧ H a = some (.lst xs) ∧ DtAll K S H xs ds
  | .drw => ∃ a xs ds, v = some (.ref a) ∧ H a = some (.lst xs) ∧ DtAll K S H xs ds ∧ DrawD ds
def Owned (σ : St) (E : List SD) (i : Nat) (a : Addr) : Prop := σ[i]? = some (some (.ref a)) ∧ ∃ sd, E[i]? = some sd ∧ sd.isOwn = true
/-- the entry: its heap, what may be changed of it, its fixed lists -/
structure Cx0 where
  H0 : Hp
  M : Addr → Prop
  S0 : Addr → Prop
  /-- the slots that hold a source of draws, which stays -/
  P : Nat → Option Addr
structure Res (K : PySem.W.Frag) (c : Cx0) (S : Addr → Prop) (σ : St) (H : Hp) (E : List SD) : Prop where
  len : σ.length = E.length
  rel : ∀ (i : Nat) (sd : SD), E[i]? = some sd → RelS K S H (σ[i]?.join) sd
  inj : ∀ i j a, Owned σ E i a → Owned σ E j a → i = j
  sep : ∀ i a, Owned σ E i a → ¬ S a
  keep : ∀ b o, c.H0 b = some o → ¬ c.M b → H b = some o
  there : ∀ b o, c.H0 b = some o → ∃ u, H b = some u
  own : ∀ i a, Owned σ E i a → c.M a ∨ c.H0 a = none
  grow : ∀ a, c.S0 a → S a
  frsh : ∀ a, S a → c.S0 a ∨ c.M a ∨ c.H0 a = none
  lists : ∀ a, S a → ∃ xs, H a = some (.lst xs)
  par : ∀ i a, c.P i = some a → σ[i]? = some (some (.ref a)) ∧ E[i]? = some .drw

/-- what an expression brings: data, a new list, the very object of a slot -/
inductive RD where
  | dat (d : PyData) | new (ds : List PyData) | al (i : Nat)
def RelT (K : PySem.W.Frag) (c : Cx0) (S : Addr → Prop) (σ : St) (E : List SD) (H : Hp) (v : V) : RD → Prop
  | .dat d => Dt K S H v d
  | .new ds => ∃ l xs, v = .ref l ∧ H l = some (.lst xs) ∧ DtAll K S H xs ds ∧ ¬ S l ∧ (∀ i, ¬ Owned σ E i l) ∧ (c.M l ∨ c.H0 l = none)
  | .al i => σ[i]? = some (some v)
section
variable {K : PySem.W.Frag} {c : Cx0} {S S' : Addr → Prop} {σ σ' : St} {H H' : Hp} {E E' : List SD} {v : V} {r : RD}

def drwAt (σ : St) (E : List SD) (i : Nat) : Option Addr := match σ[i]?, E[i]? with
  | some (some (.ref a)), some .drw => some a
  | _, _ => none
theorem drwAt_of {i : Nat} {a : Addr} (h : σ[i]? = some (some (.ref a))) (q : E[i]? = some .drw) : drwAt σ E i = some a := by
  unfold drwAt
  rw [h, q]
theorem of_drwAt {i : Nat} {a : Addr} (h : drwAt σ E i = some a) : σ[i]? = some (some (.ref a)) ∧ E[i]? = some .drw := by
  unfold drwAt at h
  split at h
  · rename_i b e1 e2
    cases h
    exact ⟨e1, e2⟩
  · cases h
def Cx0.now (S : Addr → Prop) (σ : St) (H : Hp) (E : List SD) : Cx0 := ⟨H, fun a => ∃ i, Owned σ E i a, S, drwAt σ E⟩
theorem Res.now (R : Res K c S σ H E) : Res K (Cx0.now S σ H E) S σ H E :=
  ⟨R.len, R.rel, R.inj, R.sep, fun _ _ h _ => h, fun _ _ h => ⟨_, h⟩, fun i a h => .inl ⟨i, h⟩, fun _ h => h, fun _ h => .inl h, R.lists, fun _ _ h => of_drwAt h⟩
theorem Res.ownLst (R : Res K c S σ H E) {i : Nat} {a : Addr} (o : Owned σ E i a) : ∃ xs, H a = some (.lst xs) := by
  obtain ⟨e, sd, h, q⟩ := o
  have r := R.rel i sd h
  rw [e] at r
  cases sd with
  | na => cases q
  | dat d => cases q
  | own ds =>
    obtain ⟨b, xs, e1, e2, _⟩ := r
    cases e1
    exact ⟨_, e2⟩
  | drw =>
    obtain ⟨b, xs, _, e1, e2, _⟩ := r
    cases e1
    exact ⟨_, e2⟩
/-- what a tuple is read off is not a list of ours -/
theorem SqT.keep {a : Addr} {xs : List V} (h : SqT K H a xs) (k : ∀ u, H a = some u → (∀ ys, u ≠ .lst ys) → H' a = some u) : SqT K H' a xs := by
  rcases h with (h | ⟨o, h⟩) | h
  · exact .inl (.inl (k _ h fun ys e => by cases e))
  · exact .inl (.inr ⟨o, k _ h fun ys e => by cases e⟩)
  · exact .inr h
theorem Res.evo (R : Res K c S σ H E) (R' : Res K (Cx0.now S σ H E) S' σ' H' E') : Evo K S H S' H' := by
  refine ⟨fun a xs h => SqT.keep h fun u hu nl => R'.keep a u hu ?_, fun a xs s h => R'.keep a _ h ?_, R'.grow⟩
  · rintro ⟨i, o⟩
    obtain ⟨ys, e⟩ := R.ownLst o
    rw [hu] at e
    exact nl ys (Option.some.inj e)
  · rintro ⟨i, o⟩
    exact R.sep i a o s
theorem Res.trans (R : Res K c S σ H E) (R' : Res K (Cx0.now S σ H E) S' σ' H' E') : Res K c S' σ' H' E' := by
  refine ⟨R'.len, R'.rel, R'.inj, R'.sep, fun b o h m => R'.keep b o (R.keep b o h m) ?_, fun b o h => ?_, fun i a o => ?_, fun a s => R'.grow a (R.grow a s), fun a s => ?_, R'.lists, fun i a h => R'.par i a (drwAt_of (R.par i a h).1 (R.par i a h).2)⟩
  · rintro ⟨i, z⟩
    rcases R.own i b z with q | q
    · exact m q
    · rw [h] at q; cases q
  · obtain ⟨u, q⟩ := R.there b o h
    exact R'.there b u q
  · rcases R'.own i a o with ⟨j, q⟩ | q
    · exact R.own j a q
    · refine .inr ?_
      cases z : c.H0 a with
      | none => rfl
      | some u =>
        obtain ⟨w, y⟩ := R.there a u z
        have q' : H a = none := q
        rw [q'] at y; cases y
  · rcases R'.frsh a s with q | ⟨i, q⟩ | q
    · exact R.frsh a q
    · exact .inr (R.own i a q)
    · refine .inr (.inr ?_)
      cases z : c.H0 a with
      | none => rfl
      | some u =>
        obtain ⟨w, y⟩ := R.there a u z
        have q' : H a = none := q
        rw [q'] at y; cases y
/-- a value that stood before -/
theorem RelT.lift (R : Res K c S σ H E) (R' : Res K (Cx0.now S σ H E) S' σ H' E') (h : RelT K c S σ E H v r) : RelT K c S' σ E' H' v r := by
  cases r with
  | dat d => exact Dt.evo h (R.evo R')
  | al i => exact h
  | new ds =>
    obtain ⟨l, xs, rfl, e, q, ns, no, f⟩ := h
    have nM : ¬ (Cx0.now S σ H E).M l := fun ⟨i, o⟩ => no i o
    refine ⟨l, xs, rfl, R'.keep l _ e nM, q.evo (R.evo R'), fun s => ?_, fun i o => ?_, f⟩
    · rcases R'.frsh l s with z | z | z
      · exact ns z
      · exact nM z
      · have z' : H l = none := z
        rw [e] at z'; cases z'
    · rcases R'.own i l o with z | z
      · exact nM z
      · have z' : H l = none := z
        rw [e] at z'; cases z'
/-- a value that came from the changed entry -/
theorem RelT.back (R : Res K c S σ H E) (h : RelT K (Cx0.now S σ H E) S' σ' E' H' v r) : RelT K c S' σ' E' H' v r := by
  cases r with
  | dat d => exact h
  | al i => exact h
  | new ds =>
    obtain ⟨l, xs, rfl, e, q, ns, no, f⟩ := h
    refine ⟨l, xs, rfl, e, q, ns, no, ?_⟩
    rcases f with ⟨i, f⟩ | f
    · exact R.own i l f
    refine .inr ?_
    cases z : c.H0 l with
    | none => rfl
    | some u =>
      obtain ⟨w, y⟩ := R.there l u z
      have q' : H l = none := f
      rw [q'] at y; cases y
end

/-! What the steps do to what a frame holds. -/
section
variable {K : PySem.W.Frag} {c : Cx0} {S S' : Addr → Prop} {σ σ' : St} {H H' : Hp} {E E' : List SD} {v : V} {r : RD}

/-- every fact of data is kept where only lists that nobody shares change -/
theorem Evo.upd {a : Addr} {o : HO} (ht : ∀ u, H a = some u → ∃ xs, u = .lst xs) (hs : ¬ S a) : Evo K S H S (upd H a o) := by
  refine ⟨fun b xs h => SqT.keep h fun u hu nl => ?_, fun b xs s h => ?_, fun _ h => h⟩
  · rw [upd_ne]
    · exact hu
    · rintro rfl
      obtain ⟨ys, e⟩ := ht u hu
      exact nl ys e
  · rw [upd_ne]
    · exact h
    · rintro rfl
      exact hs s
theorem Evo.laid {a : Addr} {o : HO} (h : H a = none) (L : ∀ b, S b → ∃ xs, H b = some (.lst xs)) : Evo K S H S (L2.upd H a o) :=
  Evo.upd (fun u hu => by rw [h] at hu; cases hu) fun s => by
    obtain ⟨xs, e⟩ := L a s
    rw [h] at e
    cases e
theorem RelS.evo {w : Option V} {sd : SD} (e : Evo K S H S' H') (own : sd.isOwn = true → ∀ a u, w = some (.ref a) → H a = some u → H' a = some u) (h : RelS K S H w sd) : RelS K S' H' w sd := by
  cases sd with
  | na => exact trivial
  | dat d =>
    obtain ⟨x, e1, q⟩ := h
    exact ⟨x, e1, q.evo e⟩
  | own ds =>
    obtain ⟨a, xs, e1, e2, q⟩ := h
    exact ⟨a, xs, e1, own rfl a _ e1 e2, q.evo e⟩
  | drw =>
    obtain ⟨a, xs, ds, e1, e2, q, d⟩ := h
    exact ⟨a, xs, ds, e1, own rfl a _ e1 e2, q.evo e, d⟩
theorem Owned.tracked (R : Res K c S σ H E) {i : Nat} {a : Addr} (o : Owned σ E i a) : H a ≠ none := by
  obtain ⟨xs, e⟩ := R.ownLst o
  rw [e]
  intro z
  cases z
/-- any change of the heap that keeps what is owned and what is shared -/
theorem Res.heap (R : Res K c S σ H E) (e : Evo K S H S' H') (ho : ∀ i a u, Owned σ E i a → H a = some u → H' a = some u) (hk : ∀ b o, H b = some o → c.H0 b = some o → ¬ c.M b → H' b = some o) (ht : ∀ b o, H b = some o → ∃ u, H' b = some u)
    (hsep : ∀ i a, Owned σ E i a → ¬ S' a) (hf : ∀ a, S' a → c.S0 a ∨ c.M a ∨ c.H0 a = none) (hl : ∀ a, S' a → ∃ xs, H' a = some (.lst xs)) : Res K c S' σ H' E := by
  refine ⟨R.len, fun i sd h => ?_, R.inj, hsep, fun b o h m => hk b o (R.keep b o h m) h m, fun b o h => ?_, R.own, fun a s => e.sub a (R.grow a s), hf, hl, R.par⟩
  · refine RelS.evo e (fun q a u e1 e2 => ho i a u ⟨?_, sd, h, q⟩ e2) (R.rel i sd h)
    cases z : σ[i]? with
    | none => rw [z] at e1; cases e1
    | some y =>
      rw [z] at e1
      have e1' : y = some (.ref a) := e1
      rw [e1']
  · obtain ⟨u, q⟩ := R.there b o h
    exact ht b u q
theorem Res.laid (R : Res K c S σ H E) {p : Addr} {o : HO} (hp : H p = none) : Res K c S σ (upd H p o) E := by
  have ne : ∀ b u, H b = some u → b ≠ p := fun b u h z => by rw [z, hp] at h; cases h
  refine R.heap (Evo.laid hp R.lists) (fun i a u _ h => by rw [upd_ne (ne a u h)]; exact h) (fun b o h _ _ => by rw [upd_ne (ne b o h)]; exact h) (fun b o h => ⟨o, by rw [upd_ne (ne b o h)]; exact h⟩) R.sep R.frsh fun a s => ?_
  obtain ⟨xs, h⟩ := R.lists a s
  exact ⟨xs, by rw [upd_ne (ne a _ h)]; exact h⟩
/-- a new list -/
theorem Res.newL (R : Res K c S σ H E) {p : Addr} {xs : List V} {ds : List PyData} (hp : H p = none) (q : DtAll K S H xs ds) : RelT K c S σ E (upd H p (.lst xs)) (.ref p) (.new ds) := by
  refine ⟨p, xs, rfl, upd_same, q.evo (Evo.laid hp R.lists), fun s => ?_, fun i o => o.tracked R hp, ?_⟩
  · obtain ⟨ys, e⟩ := R.lists p s
    rw [hp] at e
    cases e
  · refine .inr ?_
    cases z : c.H0 p with
    | none => rfl
    | some u =>
      obtain ⟨w, y⟩ := R.there p u z
      rw [hp] at y
      cases y
/-- a new tuple -/
theorem Res.newT (R : Res K c S σ H E) {p : Addr} {xs : List V} {ds : List PyData} (hp : H p = none) (q : DtAll K S H xs ds) : RelT K c S σ E (upd H p (.tup xs)) (.ref p) (.dat (.tuple ds)) :=
  .tup (SqT.of upd_same) (q.evo (Evo.laid hp R.lists))
def RD.rel? : RD → Option PyData
  | .dat d => some d
  | .new ds => some (.list ds)
  | .al _ => none
/-- a new list is shared from now on -/
theorem Res.release (R : Res K c S σ H E) (h : RelT K c S σ E H v r) {d : PyData} (e : r.rel? = some d) : ∃ S', Res K c S' σ H E ∧ Evo K S H S' H ∧ Dt K S' H v d := by
  cases r with
  | dat d' =>
    cases e
    exact ⟨S, R, Evo.refl, h⟩
  | al i => cases e
  | new ds =>
    cases e
    obtain ⟨l, xs, rfl, hl, q, ns, no, f⟩ := h
    have ev : Evo K S H (fun a => S a ∨ a = l) H := ⟨fun _ _ h => h, fun _ _ _ h => h, fun _ h => .inl h⟩
    refine ⟨fun a => S a ∨ a = l, R.heap ev (fun _ _ _ _ h => h) (fun _ _ h _ _ => h) (fun b o h => ⟨o, h⟩) (fun i a o s => ?_) (fun a s => ?_) (fun a s => ?_), ev, .lst (.inr rfl) hl (q.evo ev)⟩
    · rcases s with s | rfl
      · exact R.sep i a o s
      · exact no i o
    · rcases s with s | rfl
      · exact R.frsh a s
      · exact .inr f
    · rcases s with s | rfl
      · exact R.lists a s
      · exact ⟨xs, hl⟩

theorem Owned.set {i j : Nat} {a : Addr} {w : Option V} {sd : SD} (o : Owned (σ.set i w) (E.set i sd) j a) (hi : i < E.length) (hl : σ.length = E.length) : (j = i ∧ w = some (.ref a) ∧ sd.isOwn = true) ∨ (j ≠ i ∧ Owned σ E j a) := by
  obtain ⟨e, sd', h, q⟩ := o
  by_cases hj : j = i
  · subst hj
    rw [List.getElem?_set_self (by omega)] at e
    rw [List.getElem?_set_self hi] at h
    cases e
    cases h
    exact .inl ⟨rfl, rfl, q⟩
  · rw [List.getElem?_set_ne (Ne.symm hj)] at e h
    exact .inr ⟨hj, e, sd', h, q⟩
/-- a slot of no own object is stored -/
theorem Res.setAny (R : Res K c S σ H E) {i : Nat} {sd0 sd : SD} {w : Option V} (h0 : E[i]? = some sd0) (n0 : sd0.isOwn = false) (hr : RelS K S H w sd)
    (ho : sd.isOwn = true → ∀ a, w = some (.ref a) → ¬ S a ∧ (∀ j, ¬ Owned σ E j a) ∧ (c.M a ∨ c.H0 a = none)) : Res K c S (σ.set i w) H (E.set i sd) := by
  have hi : i < E.length := (List.getElem?_eq_some_iff.mp h0).1
  have hl := R.len
  refine ⟨by rw [List.length_set, List.length_set, hl], fun j sd' h => ?_, fun j k a oj ok => ?_, fun j a o => ?_, R.keep, R.there, fun j a o => ?_, R.grow, R.frsh, R.lists, fun j a h => ?_⟩
  · by_cases hj : j = i
    · subst hj
      rw [List.getElem?_set_self hi] at h
      cases h
      rw [List.getElem?_set_self (by omega)]
      exact hr
    · rw [List.getElem?_set_ne (Ne.symm hj)] at h
      rw [List.getElem?_set_ne (Ne.symm hj)]
      exact R.rel j sd' h
  · rcases oj.set hi hl with ⟨rfl, e1, q1⟩ | ⟨nj, oj'⟩
    · rcases ok.set hi hl with ⟨rfl, e2, q2⟩ | ⟨nk, ok'⟩
      · rfl
      · exact absurd ok' ((ho q1 a e1).2.1 k)
    · rcases ok.set hi hl with ⟨rfl, e2, q2⟩ | ⟨nk, ok'⟩
      · exact absurd oj' ((ho q2 a e2).2.1 j)
      · exact R.inj j k a oj' ok'
  · rcases o.set hi hl with ⟨rfl, e1, q1⟩ | ⟨nj, oj'⟩
    · exact (ho q1 a e1).1
    · exact R.sep j a oj'
  · rcases o.set hi hl with ⟨rfl, e1, q1⟩ | ⟨nj, oj'⟩
    · exact (ho q1 a e1).2.2
    · exact R.own j a oj'
  · obtain ⟨e1, e2⟩ := R.par j a h
    have hj : i ≠ j := by
      rintro rfl
      rw [e2] at h0
      cases h0
      cases n0
    rw [List.getElem?_set_ne hj, List.getElem?_set_ne hj]
    exact ⟨e1, e2⟩
theorem Res.set (R : Res K c S σ H E) {i : Nat} {sd0 : SD} {d : PyData} (h0 : E[i]? = some sd0) (n0 : sd0.isOwn = false) (q : Dt K S H v d) : Res K c S (σ.set i (some v)) H (E.set i (.dat d)) :=
  R.setAny h0 n0 ⟨v, rfl, q⟩ fun z => by cases z
theorem Res.setOwn (R : Res K c S σ H E) {i : Nat} {sd0 : SD} {ds : List PyData} (h0 : E[i]? = some sd0) (n0 : sd0.isOwn = false) (q : RelT K c S σ E H v (.new ds)) : Res K c S (σ.set i (some v)) H (E.set i (.own ds)) := by
  obtain ⟨l, xs, rfl, hl, q, ns, no, f⟩ := q
  refine R.setAny h0 n0 ⟨l, xs, rfl, hl, q⟩ fun _ a e => ?_
  cases e
  exact ⟨ns, no, f⟩
theorem Res.setDrw (R : Res K c S σ H E) {i : Nat} {sd0 : SD} {ds : List PyData} (h0 : E[i]? = some sd0) (n0 : sd0.isOwn = false) (q : RelT K c S σ E H v (.new ds)) (d : DrawD ds) : Res K c S (σ.set i (some v)) H (E.set i .drw) := by
  obtain ⟨l, xs, rfl, hl, q, ns, no, f⟩ := q
  refine R.setAny h0 n0 ⟨l, xs, ds, rfl, hl, q, d⟩ fun _ a e => ?_
  cases e
  exact ⟨ns, no, f⟩
theorem Res.drop (R : Res K c S σ H E) {i : Nat} {sd0 : SD} (h0 : E[i]? = some sd0) (n0 : sd0.isOwn = false) : Res K c S (σ.set i none) H (E.set i .na) :=
  R.setAny h0 n0 trivial fun z => by cases z
/-- the list of a slot is changed -/
theorem Res.write (R : Res K c S σ H E) {i : Nat} {a : Addr} {ds ds' : List PyData} {ys : List V} (hi : σ[i]? = some (some (.ref a))) (h0 : E[i]? = some (.own ds)) (q : DtAll K S H ys ds') : Res K c S σ (upd H a (.lst ys)) (E.set i (.own ds')) := by
  have o : Owned σ E i a := ⟨hi, _, h0, rfl⟩
  obtain ⟨xs0, hx0⟩ := R.ownLst o
  have ev : Evo K S H S (upd H a (.lst ys)) := Evo.upd (fun u hu => by rw [hx0] at hu; cases hu; exact ⟨_, rfl⟩) (R.sep i a o)
  have hE : i < E.length := (List.getElem?_eq_some_iff.mp h0).1
  have oo : ∀ j b, Owned σ (E.set i (.own ds')) j b → Owned σ E j b := fun j b ⟨e, sd, h, q⟩ => by
    by_cases hj : j = i
    · subst hj
      exact ⟨e, _, h0, rfl⟩
    · rw [List.getElem?_set_ne (Ne.symm hj)] at h
      exact ⟨e, sd, h, q⟩
  refine ⟨by rw [List.length_set, R.len], fun j sd h => ?_, fun j k b oj ok => R.inj j k b (oo j b oj) (oo k b ok), fun j b o' => R.sep j b (oo j b o'), fun b u h m => ?_, fun b u h => ?_, fun j b o' => R.own j b (oo j b o'), R.grow, R.frsh, fun b s => ?_, fun j b h => ?_⟩
  · by_cases hj : j = i
    · subst hj
      rw [List.getElem?_set_self hE] at h
      cases h
      exact ⟨a, ys, by rw [hi]; rfl, upd_same, q.evo ev⟩
    · rw [List.getElem?_set_ne (Ne.symm hj)] at h
      refine RelS.evo ev (fun w b u e1 e2 => ?_) (R.rel j sd h)
      have ob : Owned σ E j b := by
        refine ⟨?_, sd, h, w⟩
        cases z : σ[j]? with
        | none => rw [z] at e1; cases e1
        | some y =>
          rw [z] at e1
          have e1' : y = some (.ref b) := e1
          rw [e1']
      rw [upd_ne]
      · exact e2
      · rintro rfl
        exact hj (R.inj j i b ob o)
  · rw [upd_ne]
    · exact R.keep b u h m
    · rintro rfl
      rcases R.own i b o with z | z
      · exact m z
      · rw [h] at z; cases z
  · by_cases hb : b = a
    · subst hb; exact ⟨_, upd_same⟩
    · obtain ⟨w, e⟩ := R.there b u h
      exact ⟨w, by rw [upd_ne hb]; exact e⟩
  · obtain ⟨xs, e⟩ := R.lists b s
    refine ⟨xs, ?_⟩
    rw [upd_ne]
    · exact e
    · rintro rfl
      exact R.sep i b o s
  · obtain ⟨e1, e2⟩ := R.par j b h
    refine ⟨e1, ?_⟩
    rw [List.getElem?_set_ne]
    · exact e2
    · rintro rfl
      rw [e2] at h0
      cases h0
/-- a list that is nobody's slot is changed -/
theorem Res.other (R : Res K c S σ H E) {a : Addr} {xs ys : List V} (ha : H a = some (.lst xs)) (ns : ¬ S a) (no : ∀ i, ¬ Owned σ E i a) (f : c.M a ∨ c.H0 a = none) : Res K c S σ (upd H a (.lst ys)) E := by
  refine R.heap (Evo.upd (fun u hu => by rw [ha] at hu; cases hu; exact ⟨_, rfl⟩) ns) (fun i b u o h => ?_) (fun b o h h0 m => ?_) (fun b o h => ?_) R.sep R.frsh fun b s => ?_
  · rw [upd_ne]
    · exact h
    · rintro rfl; exact no i o
  · rw [upd_ne]
    · exact h
    · rintro rfl
      rcases f with z | z
      · exact m z
      · rw [h0] at z; cases z
  · by_cases hb : b = a
    · subst hb; exact ⟨_, upd_same⟩
    · exact ⟨o, by rw [upd_ne hb]; exact h⟩
  · obtain ⟨zs, e⟩ := R.lists b s
    refine ⟨zs, ?_⟩
    rw [upd_ne]
    · exact e
    · rintro rfl; exact ns s

/-! ### the slots of a comprehension's own names -/
def wipeE (E : List SD) : List Nat → List SD
  | [] => E
  | v :: vs => (wipeE E vs).set v .na
theorem wipeE_length (E : List SD) : ∀ vs : List Nat, (wipeE E vs).length = E.length
  | [] => rfl
  | v :: vs => by unfold wipeE; rw [List.length_set, wipeE_length E vs]
theorem wipeE_get (E : List SD) {i : Nat} : ∀ {vs : List Nat}, i ∉ vs → (wipeE E vs)[i]? = E[i]?
  | [], _ => rfl
  | v :: vs, h => by
    unfold wipeE
    rw [List.getElem?_set_ne (fun e => h (by rw [e]; exact List.mem_cons_self)), wipeE_get E fun q => h (List.mem_cons_of_mem _ q)]
theorem wipe_get (σ : St) {i : Nat} : ∀ {vs : List Nat}, i ∉ vs → (wipe σ vs)[i]? = σ[i]?
  | [], _ => rfl
  | v :: vs, h => by
    unfold wipe
    rw [List.getElem?_set_ne (fun e => h (by rw [e]; exact List.mem_cons_self)), wipe_get σ fun q => h (List.mem_cons_of_mem _ q)]
def freeOf (E : List SD) (vs : List Nat) : Bool := vs.all fun i => match E[i]? with
  | some sd => !sd.isOwn
  | none => false
theorem freeOf_get {vs : List Nat} (h : freeOf E vs = true) {i : Nat} (hi : i ∈ vs) : ∃ sd, E[i]? = some sd ∧ sd.isOwn = false := by
  have q := List.all_eq_true.mp h i hi
  cases e : E[i]? with
  | none => rw [e] at q; cases q
  | some sd =>
    rw [e] at q
    exact ⟨sd, rfl, by simpa using q⟩
theorem freeOf_set {vs : List Nat} (h : freeOf E vs = true) {i : Nat} {sd : SD} (q : sd.isOwn = false) : freeOf (E.set i sd) vs = true := by
  refine List.all_eq_true.mpr fun j hj => ?_
  obtain ⟨sd', e, n⟩ := freeOf_get h hj
  by_cases hij : i = j
  · subst hij
    rw [List.getElem?_set_self (List.getElem?_eq_some_iff.mp e).1]
    simp [q]
  · rw [List.getElem?_set_ne hij, e]
    simp [n]
theorem Res.wipe (R : Res K c S σ H E) : ∀ {vs : List Nat}, freeOf E vs = true → Res K c S (wipe σ vs) H (wipeE E vs)
  | [], _ => R
  | v :: vs, h => by
    have h' : freeOf E vs = true := by
      unfold freeOf at h ⊢
      rw [List.all_cons, Bool.and_eq_true] at h
      exact h.2
    have q := R.wipe h'
    by_cases hv : v ∈ vs
    · have z : ∃ sd, (wipeE E vs)[v]? = some sd ∧ sd.isOwn = false := by
        clear q h
        induction vs with
        | nil => cases hv
        | cons u us ih =>
          by_cases e : u = v
          · subst e
            refine ⟨.na, ?_, rfl⟩
            unfold wipeE
            rw [List.getElem?_set_self]
            rw [wipeE_length]
            obtain ⟨sd, e1, _⟩ := freeOf_get h' (List.mem_cons_self)
            exact (List.getElem?_eq_some_iff.mp e1).1
          · have h2 : freeOf E us = true := by
              unfold freeOf at h' ⊢
              rw [List.all_cons, Bool.and_eq_true] at h'
              exact h'.2
            rcases List.mem_cons.mp hv with e' | hv'
            · exact absurd e'.symm e
            · obtain ⟨sd, e1, n⟩ := ih h2 hv'
              refine ⟨sd, ?_, n⟩
              unfold wipeE
              rw [List.getElem?_set_ne e]
              exact e1
      obtain ⟨sd, e, n⟩ := z
      exact q.drop e n
    · obtain ⟨sd, e, n⟩ := freeOf_get h List.mem_cons_self
      exact q.drop (by rw [wipeE_get E hv]; exact e) n
theorem wipe_none {σ : St} {i : Nat} : ∀ {vs : List Nat}, i ∈ vs → ∀ v, (L2.wipe σ vs)[i]? ≠ some (some v) := fun {vs} h v e => (wipe_some e).2 h
/-- behind a comprehension: its names' slots are as they were -/
theorem Res.restore {vs : List Nat} (R : Res K c S σ H E) (h : freeOf E vs = true) (R' : Res K (Cx0.now S σ H E) S' (L2.wipe σ vs) H' (wipeE E vs)) : Res K (Cx0.now S σ H E) S' σ H' E := by
  have out : ∀ i a, Owned σ E i a → i ∉ vs := fun i a ⟨_, sd, e, q⟩ hi => by
    obtain ⟨sd', e', n⟩ := freeOf_get h hi
    rw [e] at e'
    cases e'
    rw [q] at n
    cases n
  have o : ∀ i a, Owned σ E i a → Owned (L2.wipe σ vs) (wipeE E vs) i a := fun i a z => by
    have n := out i a z
    obtain ⟨e, sd, e1, q⟩ := z
    exact ⟨by rw [wipe_get σ n]; exact e, sd, by rw [wipeE_get E n]; exact e1, q⟩
  refine ⟨R.len, fun i sd e => ?_, R.inj, fun i a z => R'.sep i a (o i a z), R'.keep, R'.there, fun i a z => R'.own i a (o i a z), R'.grow, R'.frsh, R'.lists, fun i a q => of_drwAt q⟩
  by_cases hi : i ∈ vs
  · obtain ⟨sd', e', n⟩ := freeOf_get h hi
    rw [e] at e'
    cases e'
    exact RelS.evo (R.evo R') (fun q => by rw [n] at q; cases q) (R.rel i sd e)
  · have q := R'.rel i sd (by rw [wipeE_get E hi]; exact e)
    rw [wipe_get σ hi] at q
    exact q
end

/-! The judgements over what a frame holds; expressions, tests, arguments. -/

/-! ### the readings that say just what they must -/
section
variable (X : Cx)
def sE (e : Expr) : TE := fun σ H Q => ∀ (pins : List (Addr × Obj)) (s : Shared), Inv X pins σ H s → wpAny (model X.prog X.w) X.A (eval e X.env) (EP X pins σ Q) X.xe s
def sT (e : Expr) : TT := fun σ H Q => ∀ (pins : List (Addr × Obj)) (s : Shared), Inv X pins σ H s → wpAny (model X.prog X.w) X.A (isTrue e X.env (eval e X.env)) (TP X pins σ Q) X.xe s
def sWh (e : Expr) : TT := fun σ H Q => ∀ (whole : Sem Value) (pins : List (Addr × Obj)) (s : Shared), Inv X pins σ H s → wpAny (model X.prog X.w) X.A (isTrue e X.env whole) (TP X pins σ Q) X.xe s
def sA (es : List Expr) : TA := fun σ H Q => ∀ (pos : Pos) (pins : List (Addr × Obj)) (s : Shared), Inv X pins σ H s → wpAny (model X.prog X.w) X.A (spliced (backTo pos (starEach es X.env))) (AP X pins σ Q) X.xe s
def sS (st : Stmt) : TS := fun D σ H => ∀ (pins : List (Addr × Obj)) (s : Shared), Inv X pins σ H s → wpAny (model X.prog X.w) X.A (exec st X.env) (SP X pins D) X.xe s
def sSs (st : List Stmt) : TS := fun D σ H => ∀ (pins : List (Addr × Obj)) (s : Shared), Inv X pins σ H s → wpAny (model X.prog X.w) X.A (execs st X.env) (SP X pins D) X.xe s
def sOp (f : Value → Value → Sem Value) : R2 := fun x y H Q => ∀ (pins : List (Addr × Obj)) (s : Shared) (σ : St) (v u : Value), Inv X pins σ H s → RelV x v → RelV y u → wpAny (model X.prog X.w) X.A (f v u) (EP X pins σ Q) X.xe s
def sUn (f : Value → Sem Value) : V → Hp → VK → Prop := fun x H Q => ∀ (pins : List (Addr × Obj)) (s : Shared) (σ : St) (v : Value), Inv X pins σ H s → RelV x v → wpAny (model X.prog X.w) X.A (f v) (EP X pins σ Q) X.xe s
def sIx : R2 := fun x y H Q => ∀ (value slice : Expr) (pins : List (Addr × Obj)) (s : Shared) (σ : St) (v u : Value), Inv X pins σ H s → RelV x v → RelV y u → subscripted slice false v u = operate [v, u] (getItem v u) →
  wpAny (model X.prog X.w) X.A (subscriptTail value slice v u) (EP X pins σ Q) X.xe s
variable {X}
theorem pe_s {e : Expr} : PE X e (sE X e) := ⟨fun pins s _ _ _ I h => h pins s I⟩
theorem pt_s {e : Expr} : PT X e (sT X e) := ⟨fun pins s _ _ _ I h => h pins s I⟩
theorem pw_s {e : Expr} : PW X e (sWh X e) := ⟨fun wh pins s _ _ _ I h => h wh pins s I⟩
theorem pa_s {es : List Expr} : PA X es (sA X es) := ⟨fun pos pins s _ _ _ I h => h pos pins s I⟩
theorem ps_s {st : Stmt} : PS X st (sS X st) := ⟨fun pins s _ _ _ I h => h pins s I⟩
theorem pss_s {st : List Stmt} : PSs X st (sSs X st) := ⟨fun pins s _ _ _ I h => h pins s I⟩
theorem op_s {f : Value → Value → Sem Value} : OpR X f (sOp X f) := fun pins s σ _ _ _ v u _ I rx ry h => h pins s σ v u I rx ry
theorem un_s {f : Value → Sem Value} : UnR X f (sUn X f) := fun pins s σ _ _ v _ I rx h => h pins s σ v I rx
theorem ix_s : IxR X (sIx X) := fun value slice pins s σ _ _ _ v u _ I rx ry h hs => h value slice pins s σ v u I rx ry hs
theorem sE_of {e : Expr} {t : TE} {σ : St} {H : Hp} {Q : VK} (h : PE X e t) (w : t σ H Q) : sE X e σ H Q := fun pins s I => h.run pins s σ H Q I w
theorem sT_of {e : Expr} {t : TT} {σ : St} {H : Hp} {Q : Bool → Hp → Prop} (h : PT X e t) (w : t σ H Q) : sT X e σ H Q := fun pins s I => h.run pins s σ H Q I w
theorem sWh_of {e : Expr} {t : TT} {σ : St} {H : Hp} {Q : Bool → Hp → Prop} (h : PW X e t) (w : t σ H Q) : sWh X e σ H Q := fun wh pins s I => h.run wh pins s σ H Q I w
theorem sA_of {es : List Expr} {t : TA} {σ : St} {H : Hp} {Q : List V → Hp → Prop} (h : PA X es t) (w : t σ H Q) : sA X es σ H Q := fun pos pins s I => h.run pos pins s σ H Q I w
theorem sS_of {st : Stmt} {t : TS} {D : Ends} {σ : St} {H : Hp} (h : PS X st t) (w : t D σ H) : sS X st D σ H := fun pins s I => h.run pins s σ H D I w
theorem sSs_of {st : List Stmt} {t : TS} {D : Ends} {σ : St} {H : Hp} (h : PSs X st t) (w : t D σ H) : sSs X st D σ H := fun pins s I => h.run pins s σ H D I w
theorem sOp_of {f : Value → Value → Sem Value} {r : R2} {x y : V} {H : Hp} {Q : VK} (h : OpR X f r) (w : r x y H Q) : sOp X f x y H Q := fun pins s σ v u I rx ry => h pins s σ H x y v u Q I rx ry w
theorem sUn_of {f : Value → Sem Value} {r : V → Hp → VK → Prop} {x : V} {H : Hp} {Q : VK} (h : UnR X f r) (w : r x H Q) : sUn X f x H Q := fun pins s σ v I rx => h pins s σ H x v Q I rx w
theorem sIx_of {r : R2} {x y : V} {H : Hp} {Q : VK} (h : IxR X r) (w : r x y H Q) : sIx X x y H Q := fun value slice pins s σ v u I rx ry hs => h value slice pins s σ H x y v u Q I rx ry w hs
end

/-! ### the judgements -/
abbrev EK := RD → List SD → Prop
def W (K : PySem.W.Frag) (te : TE) (E : List SD) (k : EK) : Prop := ∀ (c : Cx0) (S : Addr → Prop) (σ : St) (H : Hp) (Q : VK), Res K c S σ H E →
  (∀ v r E' S' H', k r E' → Res K c S' σ H' E' → RelT K c S' σ E' H' v r → Q v H') → te σ H Q
def WT (K : PySem.W.Frag) (tt : TT) (E : List SD) (k : Bool → List SD → Prop) : Prop := ∀ (c : Cx0) (S : Addr → Prop) (σ : St) (H : Hp) (Q : Bool → Hp → Prop), Res K c S σ H E →
  (∀ b E' S' H', k b E' → Res K c S' σ H' E' → Q b H') → tt σ H Q
def WA (K : PySem.W.Frag) (ta : TA) (E : List SD) (k : List RD → List SD → Prop) : Prop := ∀ (c : Cx0) (S : Addr → Prop) (σ : St) (H : Hp) (Q : List V → Hp → Prop), Res K c S σ H E →
  (∀ vs rs E' S' H', k rs E' → Res K c S' σ H' E' → Paired (RelT K c S' σ E' H') vs rs → Q vs H') → ta σ H Q
/-- the built-in names -/
structure Bi (mg : Str → Option Value) : Prop where
  len : mg "len" = none
  range : mg "range" = none
  tuple : mg "tuple" = none
  list : mg "list" = none
  sorted : mg "sorted" = none
  abs : mg "abs" = none
  int : mg "int" = none
  str : mg "str" = none
  max : mg "max" = none
  min : mg "min" = none
  sum : mg "sum" = none
  any : mg "any" = none
  all : mg "all" = none
  set : mg "set" = none
  enumerate : mg "enumerate" = none
  isinstance : mg "isinstance" = none
structure Okx (X : Cx) (N : List Str) (j : Nat) : Prop where
  names : X.N = N
  nd : N.Nodup
  calm : X.calm = true
  room : Room j X.A
  po : PassesOwn (model X.prog X.w) X.A X.env X.xe
  bi : Bi X.mg
section
variable (X : Cx) (N : List Str) (j : Nat)
def AE (e : Expr) (E : List SD) (k : EK) : Prop := Okx X N j → W X.K (sE X e) E k
def AT (e : Expr) (E : List SD) (k : Bool → List SD → Prop) : Prop := Okx X N j → WT X.K (sT X e) E k
def AW (e : Expr) (E : List SD) (k : Bool → List SD → Prop) : Prop := Okx X N j → WT X.K (sWh X e) E k
def AA (es : List Expr) (E : List SD) (k : List RD → List SD → Prop) : Prop := Okx X N j → WA X.K (sA X es) E k
def AO (f : Value → Value → Sem Value) (r s : RD) (E : List SD) (k : EK) : Prop := Okx X N j → ∀ (c : Cx0) (S : Addr → Prop) (σ : St) (H : Hp) (x y : V) (Q : VK), Res X.K c S σ H E → RelT X.K c S σ E H x r → RelT X.K c S σ E H y s →
  (∀ v o E' S' H', k o E' → Res X.K c S' σ H' E' → Evo X.K S H S' H' → RelT X.K c S' σ E' H' v o → Q v H') → sOp X f x y H Q
def AIx (r s : RD) (E : List SD) (k : EK) : Prop := Okx X N j → ∀ (c : Cx0) (S : Addr → Prop) (σ : St) (H : Hp) (x y : V) (Q : VK), Res X.K c S σ H E → RelT X.K c S σ E H x r → RelT X.K c S σ E H y s →
  (∀ v o E' S' H', k o E' → Res X.K c S' σ H' E' → Evo X.K S H S' H' → RelT X.K c S' σ E' H' v o → Q v H') → sIx X x y H Q
def AU (f : Value → Sem Value) (r : RD) (E : List SD) (k : EK) : Prop := Okx X N j → ∀ (c : Cx0) (S : Addr → Prop) (σ : St) (H : Hp) (x : V) (Q : VK), Res X.K c S σ H E → RelT X.K c S σ E H x r →
  (∀ v o E' S' H', k o E' → Res X.K c S' σ H' E' → Evo X.K S H S' H' → RelT X.K c S' σ E' H' v o → Q v H') → sUn X f x H Q
end
section
variable {K : PySem.W.Frag} {c : Cx0} {S S' : Addr → Prop} {σ σ' : St} {H H' : Hp} {E E' : List SD} {v : V} {r : RD}
theorem W.bind {te : TE} {k : EK} {Q : VK} (h : W K te E k) (R : Res K c S σ H E) (q : ∀ v r E' S' H', k r E' → Res K (Cx0.now S σ H E) S' σ H' E' → Res K c S' σ H' E' → RelT K c S' σ E' H' v r → Q v H') : te σ H Q :=
  h _ S σ H Q R.now fun v r E' S' H' hk R' T => q v r E' S' H' hk R' (R.trans R') (T.back R)
theorem WT.bind {te : TT} {k : Bool → List SD → Prop} {Q : Bool → Hp → Prop} (h : WT K te E k) (R : Res K c S σ H E) (q : ∀ b E' S' H', k b E' → Res K (Cx0.now S σ H E) S' σ H' E' → Res K c S' σ H' E' → Q b H') : te σ H Q :=
  h _ S σ H Q R.now fun b E' S' H' hk R' => q b E' S' H' hk R' (R.trans R')
theorem pairedMap {α β : Type} {F G : α → β → Prop} : ∀ {l₁ : List α} {l₂ : List β}, Paired F l₁ l₂ → (∀ a b, F a b → G a b) → Paired G l₁ l₂
  | _, _, .nil, _ => .nil
  | _, _, .cons r t, f => .cons (f _ _ r) (pairedMap t f)
theorem WA.bind {ta : TA} {k : List RD → List SD → Prop} {Q : List V → Hp → Prop} (h : WA K ta E k) (R : Res K c S σ H E) (q : ∀ vs rs E' S' H', k rs E' → Res K (Cx0.now S σ H E) S' σ H' E' → Res K c S' σ H' E' → Paired (RelT K c S' σ E' H') vs rs → Q vs H') : ta σ H Q :=
  h _ S σ H Q R.now fun vs rs E' S' H' hk R' T => q vs rs E' S' H' hk R' (R.trans R') (pairedMap T fun _ _ t => t.back R)
end
section
variable {X : Cx} {N : List Str} {j : Nat} {E : List SD} {k : EK} {a b e e1 e2 : Expr} {pos : Pos}
theorem AE.use (h : AE X N j a E k) (hx : Okx X N j) {c : Cx0} {S : Addr → Prop} {σ : St} {H : Hp} {Q : VK} (R : Res X.K c S σ H E) (q : ∀ v r E' S' H', k r E' → Res X.K (Cx0.now S σ H E) S' σ H' E' → Res X.K c S' σ H' E' → RelT X.K c S' σ E' H' v r → Q v H') : sE X a σ H Q := (h hx).bind R q
theorem AE.run (h : AE X N j a E k) (hx : Okx X N j) {c : Cx0} {S : Addr → Prop} {σ : St} {H : Hp} {Q : VK} (R : Res X.K c S σ H E) (q : ∀ v r E' S' H', k r E' → Res X.K c S' σ H' E' → RelT X.K c S' σ E' H' v r → Q v H') : sE X a σ H Q := h hx c S σ H Q R q
theorem AW.run {kb : Bool → List SD → Prop} (h : AW X N j a E kb) (hx : Okx X N j) {c : Cx0} {S : Addr → Prop} {σ : St} {H : Hp} {Q : Bool → Hp → Prop} (R : Res X.K c S σ H E) (q : ∀ b E' S' H', kb b E' → Res X.K c S' σ H' E' → Q b H') : sWh X a σ H Q := h hx c S σ H Q R q
theorem AE.imp {k' : EK} (h : AE X N j a E k) (f : ∀ r E1, k r E1 → k' r E1) : AE X N j a E k' := fun hx c S σ H Q R post => h hx c S σ H Q R fun v r E' S' H' hk => post v r E' S' H' (f r E' hk)
theorem AA.imp {es : List Expr} {ka ka' : List RD → List SD → Prop} (h : AA X N j es E ka) (f : ∀ r E1, ka r E1 → ka' r E1) : AA X N j es E ka' := fun hx c S σ H Q R post => h hx c S σ H Q R fun v r E' S' H' hk => post v r E' S' H' (f r E' hk)
theorem AT.imp {kb kb' : Bool → List SD → Prop} (h : AT X N j a E kb) (f : ∀ r E1, kb r E1 → kb' r E1) : AT X N j a E kb' := fun hx c S σ H Q R post => h hx c S σ H Q R fun r E' S' H' hk => post r E' S' H' (f r E' hk)
/-- an expression by a rule of the layer and what its reading comes to -/
theorem ae_of {t : TE} (h : PE X e t) (w : W X.K t E k) : AE X N j e E k := fun _ c S σ H Q R q => sE_of h (w c S σ H Q R q)

/-! ### names, constants -/
/-- the place of a name -/
inductive IxOf : List Str → Str → Nat → Prop
  | here {x : Str} {xs : List Str} : IxOf (x :: xs) x 0
  | next {x y : Str} {xs : List Str} {i : Nat} : IxOf xs x i → IxOf (y :: xs) x (i + 1)
theorem IxOf.get {x : Str} {xs : List Str} {i : Nat} (h : IxOf xs x i) : xs[i]? = some x := by
  induction h with
  | here => rfl
  | next _ ih => rw [List.getElem?_cons_succ]; exact ih
theorem AE_var {i : Nat} {x : Str} {d : PyData} (hi : IxOf N x i) (hv : Vis X.env.scope x) (h : E[i]? = some (.dat d)) (q : k (.dat d) E) (hd : (x == ("__debug__" : Str)) = false := by decide) (hcd : (x == ("__classdict__" : Str)) = false := by decide) :
    AE X N j (.Name x pos) E k := fun hx c S σ H Q R post => by
  refine sE_of (pe_var (i := i) (by rw [hx.names]; exact hi.get) hv hd hcd) ?_
  have r := R.rel i _ h
  obtain ⟨v, e, t⟩ := r
  refine ⟨v, ?_, post v (.dat d) E S H q R t⟩
  cases z : σ[i]? with
  | none => rw [z] at e; cases e
  | some y =>
    rw [z] at e
    have e' : y = some v := e
    rw [e']
theorem AE_al {i : Nat} {x : Str} {sd : SD} (hi : IxOf N x i) (hv : Vis X.env.scope x) (h : E[i]? = some sd) (ho : sd.isOwn = true) (q : k (.al i) E) (hd : (x == ("__debug__" : Str)) = false := by decide) (hcd : (x == ("__classdict__" : Str)) = false := by decide) :
    AE X N j (.Name x pos) E k := fun hx c S σ H Q R post => by
  refine sE_of (pe_var (i := i) (by rw [hx.names]; exact hi.get) hv hd hcd) ?_
  have r := R.rel i _ h
  have z : ∃ v, σ[i]? = some (some v) := by
    cases z : σ[i]? with
    | none =>
      rw [z] at r
      cases sd with
      | na => cases ho
      | dat d => cases ho
      | own ds => obtain ⟨_, _, e, _⟩ := r; cases e
      | drw => obtain ⟨_, _, _, e, _⟩ := r; cases e
    | some y =>
      rw [z] at r
      cases sd with
      | na => cases ho
      | dat d => cases ho
      | own ds => obtain ⟨a, _, e, _⟩ := r; have e' : y = some (.ref a) := e; exact ⟨_, by rw [e']⟩
      | drw => obtain ⟨a, _, _, e, _⟩ := r; have e' : y = some (.ref a) := e; exact ⟨_, by rw [e']⟩
  obtain ⟨v, e⟩ := z
  exact ⟨v, e, post v (.al i) E S H q R e⟩
theorem AE_glob {x : Str} {v : V} {u : Value} {d : PyData} (hg : Gl X x) (hm : X.mg x = some u) (r : RelV v u) (hd : ∀ (S : Addr → Prop) (H : Hp), Dt X.K S H v d) (q : k (.dat d) E) (h : (x == ("__debug__" : Str)) = false := by decide) : AE X N j (.Name x pos) E k :=
  fun _ c S σ H Q R post => sE_of (pe_glob hg hm r h) (post v (.dat d) E S H q R (hd S H))
theorem AE_int {i : Int} {u : Nat} (q : k (.dat (.int i)) E) : AE X N j (.Constant (.int i) u pos) E k := fun _ c S σ H Q R post => sE_of pe_int (post _ _ E S H q R (.int i))
theorem AE_bool {b : Bool} {u : Nat} (q : k (.dat (.bool b)) E) : AE X N j (.Constant (.bool b) u pos) E k := fun _ c S σ H Q R post => sE_of pe_bl (post _ _ E S H q R (.bl b))
theorem AE_none {u : Nat} (q : k (.dat .none) E) : AE X N j (.Constant .none u pos) E k := fun _ c S σ H Q R post => sE_of pe_non (post _ _ E S H q R .non)
theorem AE_str {x : Str} {u : Nat} (q : k (.dat (.str x)) E) : AE X N j (.Constant (.str x) u pos) E k := fun _ c S σ H Q R post => sE_of pe_str (post _ _ E S H q R (.str x))

/-! ### operators -/
theorem AE_bin {op : Operator} (h : AE X N j a E fun r E1 => AE X N j b E1 fun s E2 => AO X N j (binaryOp op) r s E2 k) : AE X N j (.BinOp a op b pos) E k := fun hx c S σ H Q R post => by
  refine sE_of (pe_op op_s pe_s pe_s) ?_
  show sE X a σ H fun x H1 => sE X b σ H1 fun y H2 => sOp X (binaryOp op) x y H2 Q
  refine (h hx).bind R fun x r E1 S1 H1 hk _ R1 T1 => ?_
  refine (hk hx).bind R1 fun y s E2 S2 H2 hk2 R2n R2 T2 => ?_
  exact hk2 hx c S2 σ H2 x y Q R2 (T1.lift R1 R2n) T2 fun v o E' S' H' ho R' _ T' => post v o E' S' H' ho R' T'
theorem AE_cmp {op : CmpOp} (h : AE X N j a E fun r E1 => AE X N j b E1 fun s E2 => AO X N j (compareOp op) r s E2 k) (hm : behindInMarks op b = false := by first | exact nomark _ | with_unfolding_all rfl) : AE X N j (.Compare a [op] [b] pos) E k := fun hx c S σ H Q R post => by
  refine sE_of (pe_cmpR op_s pe_s pe_s hm) ?_
  show sE X a σ H fun x H1 => sE X b σ H1 fun y H2 => sOp X (compareOp op) x y H2 Q
  refine (h hx).bind R fun x r E1 S1 H1 hk _ R1 T1 => ?_
  refine (hk hx).bind R1 fun y s E2 S2 H2 hk2 R2n R2 T2 => ?_
  exact hk2 hx c S2 σ H2 x y Q R2 (T1.lift R1 R2n) T2 fun v o E' S' H' ho R' _ T' => post v o E' S' H' ho R' T'
theorem AT_cmp {op : CmpOp} {kb : Bool → List SD → Prop} (h : AE X N j a E fun r E1 => AE X N j b E1 fun s E2 => AO X N j (compareOp op) r s E2 fun o E3 => ∃ c, o = .dat (.bool c) ∧ kb c E3)
    (hm : behindInMarks op b = false := by first | exact nomark _ | with_unfolding_all rfl) : AT X N j (.Compare a [op] [b] pos) E kb := fun hx c S σ H Q R post => by
  refine sT_of (pt_cmpR op_s pe_s pe_s hm) ?_
  show sE X a σ H fun x H1 => sE X b σ H1 fun y H2 => sOp X (compareOp op) x y H2 fun z H' => ∃ k, z = .bl k ∧ Q k H'
  refine (h hx).bind R fun x r E1 S1 H1 hk _ R1 T1 => ?_
  refine (hk hx).bind R1 fun y s E2 S2 H2 hk2 R2n R2 T2 => ?_
  refine hk2 hx c S2 σ H2 x y _ R2 (T1.lift R1 R2n) T2 fun v o E' S' H' ho R' _ T' => ?_
  obtain ⟨d, rfl, q⟩ := ho
  have t : Dt X.K S' H' v (.bool d) := T'
  cases t
  exact ⟨d, rfl, post d E' S' H' q R'⟩
theorem AE_chain {op op' : CmpOp} {cc : Expr} (h : AE X N j a E fun r E1 => AE X N j b E1 fun s E2 => ∃ d, s = .dat d ∧ AO X N j (compareOp op) r s E2 fun o E3 => ∃ g, o = .dat (.bool g) ∧
    if g = true then AE X N j cc E3 fun t E4 => AO X N j (compareOp op') (.dat d) t E4 k else k (.dat (.bool false)) E3) (hm : lastMarks [op, op'] [b, cc] = false := by with_unfolding_all rfl) : AE X N j (.Compare a [op, op'] [b, cc] pos) E k := fun hx c S σ H Q R post => by
  refine sE_of (pe_chain op_s op_s pe_s pe_s pe_s hm) ?_
  show sE X a σ H fun x H1 => sE X b σ H1 fun y H2 => sOp X (compareOp op) x y H2 fun z H3 => ∃ k, z = .bl k ∧ if k = true then sE X cc σ H3 fun w' H4 => sOp X (compareOp op') y w' H4 Q else Q (.bl false) H3
  refine (h hx).bind R fun x r E1 S1 H1 hk _ R1 T1 => ?_
  refine (hk hx).bind R1 fun y s E2 S2 H2 hk2 R2n R2 T2 => ?_
  obtain ⟨d, rfl, hk2⟩ := hk2
  refine hk2 hx c S2 σ H2 x y _ R2 (T1.lift R1 R2n) T2 fun v o E3 S3 H3 ho R3 ev T3 => ?_
  obtain ⟨g, rfl, q⟩ := ho
  have t : Dt X.K S3 H3 v (.bool g) := T3
  cases t
  refine ⟨g, rfl, ?_⟩
  cases g with
  | false => exact post _ _ E3 S3 H3 q R3 (.bl false)
  | true =>
    show sE X cc σ H3 fun w' H4 => sOp X (compareOp op') y w' H4 Q
    refine AE.use q hx R3 fun z t E4 S4 H4 hk4 R4n R4 T4 => ?_
    exact hk4 hx c S4 σ H4 y z Q R4 (Dt.evo (Dt.evo T2 ev) (R3.evo R4n)) T4 fun v o E' S' H' ho R' _ T' => post v o E' S' H' ho R' T'
theorem AT_chain {op op' : CmpOp} {cc : Expr} {kb : Bool → List SD → Prop} (h : AE X N j a E fun r E1 => AE X N j b E1 fun s E2 => ∃ d, s = .dat d ∧ AO X N j (compareOp op) r s E2 fun o E3 => ∃ g, o = .dat (.bool g) ∧
    if g = true then AE X N j cc E3 fun t E4 => AO X N j (compareOp op') (.dat d) t E4 fun o E5 => ∃ c, o = .dat (.bool c) ∧ kb c E5 else kb false E3) (hm : lastMarks [op, op'] [b, cc] = false := by with_unfolding_all rfl) : AT X N j (.Compare a [op, op'] [b, cc] pos) E kb := fun hx c S σ H Q R post => by
  refine sT_of (pt_chain op_s op_s pe_s pe_s pe_s hm) ?_
  show sE X a σ H fun x H1 => sE X b σ H1 fun y H2 => sOp X (compareOp op) x y H2 fun z H3 => ∃ k, z = .bl k ∧ if k = true then sE X cc σ H3 fun w' H4 => sOp X (compareOp op') y w' H4 (fun z H' => ∃ k, z = .bl k ∧ Q k H') else (∃ k, V.bl false = .bl k ∧ Q k H3)
  refine (h hx).bind R fun x r E1 S1 H1 hk _ R1 T1 => ?_
  refine (hk hx).bind R1 fun y s E2 S2 H2 hk2 R2n R2 T2 => ?_
  obtain ⟨d, rfl, hk2⟩ := hk2
  refine hk2 hx c S2 σ H2 x y _ R2 (T1.lift R1 R2n) T2 fun v o E3 S3 H3 ho R3 ev T3 => ?_
  obtain ⟨g, rfl, q⟩ := ho
  have t : Dt X.K S3 H3 v (.bool g) := T3
  cases t
  refine ⟨g, rfl, ?_⟩
  cases g with
  | false => exact ⟨false, rfl, post _ E3 S3 H3 q R3⟩
  | true =>
    show sE X cc σ H3 fun w' H4 => sOp X (compareOp op') y w' H4 (fun z H' => ∃ k, z = .bl k ∧ Q k H')
    refine AE.use q hx R3 fun z t E4 S4 H4 hk4 R4n R4 T4 => ?_
    refine hk4 hx c S4 σ H4 y z _ R4 (Dt.evo (Dt.evo T2 ev) (R3.evo R4n)) T4 fun v o E' S' H' ho R' _ T' => ?_
    obtain ⟨d', rfl, q'⟩ := ho
    have t : Dt X.K S' H' v (.bool d') := T'
    cases t
    exact ⟨d', rfl, post d' E' S' H' q' R'⟩
theorem AE_un {op : UnaryOp} (h : AE X N j a E fun r E1 => AU X N j (unaryOp op) r E1 k) : AE X N j (.UnaryOp op a pos) E k := fun hx c S σ H Q R post => by
  refine sE_of (pe_un un_s pe_s) ?_
  show sE X a σ H fun x H1 => sUn X (unaryOp op) x H1 Q
  refine (h hx).bind R fun x r E1 S1 H1 hk _ R1 T1 => ?_
  exact hk hx c S1 σ H1 x Q R1 T1 fun v o E' S' H' ho R' _ T' => post v o E' S' H' ho R' T'
theorem AE_sub (h : AE X N j a E fun r E1 => AE X N j b E1 fun s E2 => AIx X N j r s E2 k) (hs : PlainIx b := by exact fun _ _ => rfl) : AE X N j (.Subscript a b pos) E k := fun hx c S σ H Q R post => by
  refine sE_of (pe_ix ix_s pe_s pe_s hs) ?_
  show sE X a σ H fun x H1 => sE X b σ H1 fun y H2 => sIx X x y H2 Q
  refine (h hx).bind R fun x r E1 S1 H1 hk _ R1 T1 => ?_
  refine (hk hx).bind R1 fun y s E2 S2 H2 hk2 R2n R2 T2 => ?_
  exact hk2 hx c S2 σ H2 x y Q R2 (T1.lift R1 R2n) T2 fun v o E' S' H' ho R' _ T' => post v o E' S' H' ho R' T'
theorem AE_ifexp {cc : Expr} (h : AT X N j cc E fun b' E1 => if b' = true then AE X N j a E1 k else AE X N j b E1 k) : AE X N j (.IfExp cc a b pos) E k := fun hx c S σ H Q R post => by
  refine sE_of (pe_ifExp pt_s pe_s pe_s) ?_
  show sT X cc σ H fun c' H1 => if c' = true then sE X a σ H1 Q else sE X b σ H1 Q
  refine (h hx).bind R fun b' E1 S1 H1 hk _ R1 => ?_
  cases b' with
  | true => exact AE.run hk hx R1 post
  | false => exact AE.run hk hx R1 post

/-! ### tests -/
theorem AT_not {kb : Bool → List SD → Prop} (h : AT X N j a E fun b E1 => kb (!b) E1) : AT X N j (.UnaryOp .Not a pos) E kb := fun hx c S σ H Q R post => by
  refine sT_of (pt_not pt_s) ?_
  show sT X a σ H fun c' H1 => Q (!c') H1
  exact (h hx).bind R fun b' E1 S1 H1 hk _ R1 => post _ E1 S1 H1 hk R1
theorem AT_wh {kb : Bool → List SD → Prop} (h : AW X N j a E kb) : AT X N j a E kb := fun hx c S σ H Q R post => sT_of pw_s.pt (h hx c S σ H Q R post)
theorem AW_and1 {kb : Bool → List SD → Prop} (h : AT X N j a E kb) : AW X N j (.BoolOp .And [a] pos) E kb := fun hx c S σ H Q R post => sWh_of (pw_and1 pt_s) (h hx c S σ H Q R post)
theorem AW_or1 {kb : Bool → List SD → Prop} (h : AT X N j a E kb) : AW X N j (.BoolOp .Or [a] pos) E kb := fun hx c S σ H Q R post => sWh_of (pw_or1 pt_s) (h hx c S σ H Q R post)
theorem AW_and {rest : List Expr} {kb : Bool → List SD → Prop} (h : AT X N j a E fun d E1 => if d = true then AW X N j (.BoolOp .And (b :: rest) pos) E1 kb else kb false E1) : AW X N j (.BoolOp .And (a :: b :: rest) pos) E kb := fun hx c S σ H Q R post => by
  refine sWh_of (pw_and pt_s pw_s) ?_
  show sT X a σ H fun c' H1 => if c' = true then sWh X _ σ H1 Q else Q false H1
  refine (h hx).bind R fun b' E1 S1 H1 hk _ R1 => ?_
  cases b' with
  | true => exact AW.run hk hx R1 post
  | false => exact post false E1 S1 H1 hk R1
theorem AW_or {rest : List Expr} {kb : Bool → List SD → Prop} (h : AT X N j a E fun d E1 => if d = true then kb true E1 else AW X N j (.BoolOp .Or (b :: rest) pos) E1 kb) : AW X N j (.BoolOp .Or (a :: b :: rest) pos) E kb := fun hx c S σ H Q R post => by
  refine sWh_of (pw_or pt_s pw_s) ?_
  show sT X a σ H fun c' H1 => if c' = true then Q true H1 else sWh X _ σ H1 Q
  refine (h hx).bind R fun b' E1 S1 H1 hk _ R1 => ?_
  cases b' with
  | true => exact post true E1 S1 H1 hk R1
  | false => exact AW.run hk hx R1 post
/-- an expression that brings a bool, as a test -/
theorem AT_val {kb : Bool → List SD → Prop} (h : AE X N j a E fun r E1 => ∃ d, r = .dat (.bool d) ∧ kb d E1) (he : ∀ whole, isTrue a X.env whole = (do let v ← whole; standAt a.pos; holding [v] (truthy v)) := by intro _; rfl) : AT X N j a E kb := fun hx c S σ H Q R post => by
  refine sT_of (pt_val pe_s he) ?_
  show sE X a σ H fun x H1 => ∃ d, x = .bl d ∧ Q d H1
  refine (h hx).bind R fun x r E1 S1 H1 hk _ R1 T1 => ?_
  obtain ⟨d, rfl, q⟩ := hk
  have t : Dt X.K S1 H1 x (.bool d) := T1
  cases t
  exact ⟨d, rfl, post d E1 S1 H1 q R1⟩
theorem AE_not (h : AE X N j a E fun r E1 => ∃ d, r = .dat (.bool d) ∧ k (.dat (.bool (!d))) E1) : AE X N j (.UnaryOp .Not a pos) E k := fun hx c S σ H Q R post => by
  refine sE_of (pe_not pe_s) ?_
  show sE X a σ H fun x H1 => ∃ c, x = .bl c ∧ Q (.bl (!c)) H1
  refine (h hx).bind R fun x r E1 S1 H1 hk _ R1 T1 => ?_
  obtain ⟨d, rfl, q⟩ := hk
  have t : Dt X.K S1 H1 x (.bool d) := T1
  cases t
  exact ⟨d, rfl, post _ _ E1 S1 H1 q R1 (.bl _)⟩
theorem AE_one {op : BoolOp} (h : AE X N j a E k) : AE X N j (.BoolOp op [a] pos) E k := fun hx c S σ H Q R post => sE_of (pe_one pe_s) (h hx c S σ H Q R post)
theorem AE_and {rest : List Expr} (h : AE X N j a E fun r E1 => ∃ d, r = .dat (.bool d) ∧ if d = true then AE X N j (.BoolOp .And (b :: rest) pos) E1 k else k (.dat (.bool false)) E1) : AE X N j (.BoolOp .And (a :: b :: rest) pos) E k := fun hx c S σ H Q R post => by
  refine sE_of (pe_and pe_s pe_s) ?_
  show sE X a σ H fun x H1 => ∃ c, x = .bl c ∧ if c = true then sE X _ σ H1 Q else Q (.bl false) H1
  refine (h hx).bind R fun x r E1 S1 H1 hk _ R1 T1 => ?_
  obtain ⟨d, rfl, q⟩ := hk
  have t : Dt X.K S1 H1 x (.bool d) := T1
  cases t
  refine ⟨d, rfl, ?_⟩
  cases d with
  | true => exact AE.run q hx R1 post
  | false => exact post _ _ E1 S1 H1 q R1 (.bl false)
theorem AE_or {rest : List Expr} (h : AE X N j a E fun r E1 => ∃ d, r = .dat (.bool d) ∧ if d = true then k (.dat (.bool true)) E1 else AE X N j (.BoolOp .Or (b :: rest) pos) E1 k) : AE X N j (.BoolOp .Or (a :: b :: rest) pos) E k := fun hx c S σ H Q R post => by
  refine sE_of (pe_or pe_s pe_s) ?_
  show sE X a σ H fun x H1 => ∃ c, x = .bl c ∧ if c = true then Q (.bl true) H1 else sE X _ σ H1 Q
  refine (h hx).bind R fun x r E1 S1 H1 hk _ R1 T1 => ?_
  obtain ⟨d, rfl, q⟩ := hk
  have t : Dt X.K S1 H1 x (.bool d) := T1
  cases t
  refine ⟨d, rfl, ?_⟩
  cases d with
  | true => exact post _ _ E1 S1 H1 q R1 (.bl true)
  | false => exact AE.run q hx R1 post

/-! ### arguments: new lists are shared from here on -/
theorem AA_nil {ka : List RD → List SD → Prop} (q : ka [] E) : AA X N j [] E ka := fun hx c S σ H Q R post => sA_of pa_nil (post [] [] E S H q R .nil)
theorem AA_cons {es : List Expr} {ka : List RD → List SD → Prop} (h : AE X N j a E fun r E1 => AA X N j es E1 fun rs E2 => ka (r :: rs) E2) (hs : starEach (a :: es) X.env = (false, eval a X.env) :: starEach es X.env := by rfl) : AA X N j (a :: es) E ka := fun hx c S σ H Q R post => by
  refine sA_of (pa_cons pe_s pa_s hs) ?_
  show sE X a σ H fun x H1 => sA X es σ H1 fun xs H2 => Q (x :: xs) H2
  refine (h hx).bind R fun x r E1 S1 H1 hk _ R1 T1 => ?_
  refine (hk hx).bind R1 fun xs rs E2 S2 H2 hk2 R2n R2 T2 => ?_
  exact post (x :: xs) (r :: rs) E2 S2 H2 hk2 R2 (.cons (T1.lift R1 R2n) T2)
/-- a new list that nobody will change -/
theorem AE_rel (h : AE X N j a E fun r E1 => ∃ d, r.rel? = some d ∧ k (.dat d) E1) : AE X N j a E k := fun hx c S σ H Q R post => by
  refine h hx c S σ H Q R fun v r E' S' H' hk R' T => ?_
  obtain ⟨d, e, q⟩ := hk
  obtain ⟨S2, R2, ev, t⟩ := R'.release T e
  exact post v (.dat d) E' S2 H' q R2 t
end

/-! Operators, subscripts, built-ins, displays, methods of lists, calls of defs. -/

def RD.lst (E : List SD) : RD → Option (List PyData)
  | .dat (.list ds) => some ds
  | .new ds => some ds
  | .al i => match E[i]? with
    | some (.own ds) => some ds
    | _ => none
  | _ => none
def RD.items (E : List SD) : RD → Option (List PyData)
  | .dat (.list ds) => some ds
  | .dat (.tuple ds) => some ds
  | .new ds => some ds
  | .al i => match E[i]? with
    | some (.own ds) => some ds
    | _ => none
  | _ => none
def RD.settle : RD → RD
  | .new ds => .dat (.list ds)
  | r => r
def datsOf : List RD → Option (List PyData)
  | [] => some []
  | .dat d :: rs => match datsOf rs with
    | some es => some (d :: es)
    | none => none
  | _ => none
section
variable {K : PySem.W.Frag} {c : Cx0} {S S' : Addr → Prop} {σ σ' : St} {H H' : Hp} {E E' : List SD} {v : V} {r : RD} {ds : List PyData}
theorem RelT.ofLst (R : Res K c S σ H E) (h : RelT K c S σ E H v r) (e : r.lst E = some ds) : ∃ p xs, v = .ref p ∧ H p = some (.lst xs) ∧ DtAll K S H xs ds := by
  cases r with
  | dat d =>
    cases d with
    | list es =>
      cases e
      have t : Dt K S H v (.list ds) := h
      cases t with
      | lst s q t => exact ⟨_, _, rfl, q, t⟩
    | _ => cases e
  | new es =>
    cases e
    obtain ⟨l, xs, rfl, hl, q, _⟩ := h
    exact ⟨l, xs, rfl, hl, q⟩
  | al i =>
    have h : σ[i]? = some (some v) := h
    unfold RD.lst at e
    dsimp only at e
    cases z : E[i]? with
    | none => rw [z] at e; cases e
    | some sd =>
      cases sd with
      | own es =>
        rw [z] at e
        cases e
        have rel := R.rel i _ z
        rw [h] at rel
        obtain ⟨a, xs, e1, e2, q⟩ := rel
        cases e1
        exact ⟨a, xs, rfl, e2, q⟩
      | _ => rw [z] at e; cases e
theorem RelT.ofItems (R : Res K c S σ H E) (h : RelT K c S σ E H v r) (e : r.items E = some ds) : ∃ p xs, v = .ref p ∧ (SqL K H p xs ∨ SqT K H p xs) ∧ DtAll K S H xs ds := by
  have go : r.lst E = some ds → ∃ p xs, v = .ref p ∧ (SqL K H p xs ∨ SqT K H p xs) ∧ DtAll K S H xs ds := fun e => by
    obtain ⟨p, xs, e1, e2, q⟩ := h.ofLst R e
    exact ⟨p, xs, e1, .inl (SqL.of e2), q⟩
  cases r with
  | dat d =>
    cases d with
    | list es => exact go e
    | tuple es =>
      cases e
      have t : Dt K S H v (.tuple ds) := h
      cases t with
      | tup s q => exact ⟨_, _, rfl, .inr s, q⟩
    | _ => cases e
  | new es => exact go e
  | al i => exact go e
theorem atI_dt {xs : List V} {d : PyData} {i : Int} (h : DtAll K S H xs ds) (e : atI ds i = some d) : ∃ x, atI xs i = some x ∧ Dt K S H x d := by
  unfold atI at e ⊢
  rw [h.length]
  cases z : ixN ds.length i with
  | none => rw [z] at e; cases e
  | some j =>
    rw [z] at e
    exact h.get e
end
section
variable {X : Cx} {N : List Str} {j : Nat} {E : List SD} {k : EK} {a b e : Expr} {es : List Expr} {pos : Pos} {r s : RD}

/-! ### subscripts -/
theorem AIx_seq {ds : List PyData} {i : Int} {d : PyData} (h : r.items E = some ds) (q : atI ds i = some d) (hk : k (.dat d) E) : AIx X N j r (.dat (.int i)) E k := fun hx c S σ H x y Q R T1 T2 post => by
  obtain ⟨p, xs, rfl, sq, da⟩ := T1.ofItems R h
  obtain ⟨v, e, t⟩ := atI_dt da q
  have t2 : Dt X.K S H y (.int i) := T2
  cases t2
  have fin := post v (.dat d) E S H hk R Evo.refl t
  rcases sq with sq | sq
  · exact sIx_of ix_seq (.inl ⟨p, xs, i, v, rfl, rfl, sq, e, fin⟩)
  · exact sIx_of ix_seq (.inr (.inl ⟨p, xs, i, v, rfl, rfl, sq, e, fin⟩))
theorem AIx_str {z : Str} {i : Int} {cc : Nat} (hz : z.length ≤ sizeLine) (q : atI z.cps.toList i = some cc) (hk : k (.dat (.str ⟨#[cc]⟩)) E) : AIx X N j (.dat (.str z)) (.dat (.int i)) E k := fun hx c S σ H x y Q R T1 T2 post => by
  have t1 : Dt X.K S H x (.str z) := T1
  have t2 : Dt X.K S H y (.int i) := T2
  cases t1
  cases t2
  exact sIx_of ix_seq (.inr (.inr ⟨z, i, cc, rfl, rfl, hz, q, post _ _ E S H hk R Evo.refl (.str _)⟩))

/-! ### ints -/
theorem AO_i0 {f : Value → Value → Sem Value} {g : Int → Int → V} {gd : PyData} {i i' : Int} (ho : OpR X f (rI0 g)) (hg : ∀ S H, Dt X.K S H (g i i') gd) (hk : k (.dat gd) E) : AO X N j f (.dat (.int i)) (.dat (.int i')) E k := fun hx c S σ H x y Q R T1 T2 post => by
  have t1 : Dt X.K S H x (.int i) := T1
  have t2 : Dt X.K S H y (.int i') := T2
  cases t1
  cases t2
  exact sOp_of ho ⟨i, i', rfl, rfl, post _ _ E S H hk R Evo.refl (hg S H)⟩
theorem AO_i1 {f : Value → Value → Sem Value} {C : Int → Int → Prop} {g : Int → Int → V} {gd : PyData} {i i' : Int} (ho : OpR X f (rI C g)) (hc : C i i') (hg : ∀ S H, Dt X.K S H (g i i') gd) (hk : k (.dat gd) E) : AO X N j f (.dat (.int i)) (.dat (.int i')) E k := fun hx c S σ H x y Q R T1 T2 post => by
  have t1 : Dt X.K S H x (.int i) := T1
  have t2 : Dt X.K S H y (.int i') := T2
  cases t1
  cases t2
  exact sOp_of ho ⟨i, i', rfl, rfl, hc, post _ _ E S H hk R Evo.refl (hg S H)⟩
section
variable {i i' : Int}
theorem AO_add (hk : k (.dat (.int (i + i'))) E) : AO X N j (binaryOp .Add) (.dat (.int i)) (.dat (.int i')) E k := AO_i0 op_add (fun _ _ => .int _) hk
theorem AO_sub (hk : k (.dat (.int (i - i'))) E) : AO X N j (binaryOp .Sub) (.dat (.int i)) (.dat (.int i')) E k := AO_i0 op_sub (fun _ _ => .int _) hk
theorem AO_mul (hc : (-(2 ^ 64) < i ∧ i < 2 ^ 64) ∨ (-(2 ^ 64) < i' ∧ i' < 2 ^ 64)) (hk : k (.dat (.int (i * i'))) E) : AO X N j (binaryOp .Mult) (.dat (.int i)) (.dat (.int i')) E k := AO_i1 op_mul hc (fun _ _ => .int _) hk
theorem AO_mod (hc : 0 < i') (hk : k (.dat (.int (i % i'))) E) : AO X N j (binaryOp .Mod) (.dat (.int i)) (.dat (.int i')) E k := AO_i1 op_mod hc (fun _ _ => .int _) hk
theorem AO_fdiv (hc : 0 < i' ∧ i' < 1073741824) (hk : k (.dat (.int (i / i'))) E) : AO X N j (binaryOp .FloorDiv) (.dat (.int i)) (.dat (.int i')) E k := AO_i1 op_fdiv hc (fun _ _ => .int _) hk
theorem AO_lt (hk : k (.dat (.bool (decide (i < i')))) E) : AO X N j (compareOp .Lt) (.dat (.int i)) (.dat (.int i')) E k := AO_i0 op_lt (fun _ _ => .bl _) hk
theorem AO_le (hk : k (.dat (.bool (decide (i ≤ i')))) E) : AO X N j (compareOp .LtE) (.dat (.int i)) (.dat (.int i')) E k := AO_i0 op_le (fun _ _ => .bl _) hk
theorem AO_gt (hk : k (.dat (.bool (decide (i' < i)))) E) : AO X N j (compareOp .Gt) (.dat (.int i)) (.dat (.int i')) E k := AO_i0 op_gt (fun _ _ => .bl _) hk
theorem AO_ge (hk : k (.dat (.bool (decide (i' ≤ i)))) E) : AO X N j (compareOp .GtE) (.dat (.int i)) (.dat (.int i')) E k := AO_i0 op_ge (fun _ _ => .bl _) hk
theorem AO_eq (hk : k (.dat (.bool (decide (i = i')))) E) : AO X N j (compareOp .Eq) (.dat (.int i)) (.dat (.int i')) E k := fun hx c S σ H x y Q R T1 T2 post => by
  have t1 : Dt X.K S H x (.int i) := T1
  have t2 : Dt X.K S H y (.int i') := T2
  cases t1
  cases t2
  refine sOp_of op_eq ⟨rfl, ?_⟩
  rw [show decide (V.int i = V.int i') = decide (i = i') from decide_eq_decide.mpr ⟨fun h => V.int.inj h, fun h => by rw [h]⟩]
  exact post _ _ E S H hk R Evo.refl (.bl _)
theorem AO_ne (hk : k (.dat (.bool (!decide (i = i')))) E) : AO X N j (compareOp .NotEq) (.dat (.int i)) (.dat (.int i')) E k := fun hx c S σ H x y Q R T1 T2 post => by
  have t1 : Dt X.K S H x (.int i) := T1
  have t2 : Dt X.K S H y (.int i') := T2
  cases t1
  cases t2
  refine sOp_of op_ne ⟨rfl, ?_⟩
  rw [show decide (V.int i = V.int i') = decide (i = i') from decide_eq_decide.mpr ⟨fun h => V.int.inj h, fun h => by rw [h]⟩]
  exact post _ _ E S H hk R Evo.refl (.bl _)
theorem AU_neg (hk : k (.dat (.int (-i))) E) : AU X N j (unaryOp .USub) (.dat (.int i)) E k := fun hx c S σ H x Q R T1 post => by
  have t1 : Dt X.K S H x (.int i) := T1
  cases t1
  exact sUn_of un_neg ⟨i, rfl, post _ _ E S H hk R Evo.refl (.int _)⟩
end
/-! ### texts, bools, None -/
section
variable {u w : Str} {p q : Bool} {d d' : PyData}
theorem AO_eqS (hk : k (.dat (.bool (decide (u = w)))) E) : AO X N j (compareOp .Eq) (.dat (.str u)) (.dat (.str w)) E k := fun hx c S σ H x y Q R T1 T2 post => by
  have t1 : Dt X.K S H x (.str u) := T1
  have t2 : Dt X.K S H y (.str w) := T2
  cases t1
  cases t2
  refine sOp_of op_eq ⟨rfl, ?_⟩
  rw [show decide (V.str u = V.str w) = decide (u = w) from decide_eq_decide.mpr ⟨fun h => V.str.inj h, fun h => by rw [h]⟩]
  exact post _ _ E S H hk R Evo.refl (.bl _)
theorem AO_neS (hk : k (.dat (.bool (!decide (u = w)))) E) : AO X N j (compareOp .NotEq) (.dat (.str u)) (.dat (.str w)) E k := fun hx c S σ H x y Q R T1 T2 post => by
  have t1 : Dt X.K S H x (.str u) := T1
  have t2 : Dt X.K S H y (.str w) := T2
  cases t1
  cases t2
  refine sOp_of op_ne ⟨rfl, ?_⟩
  rw [show decide (V.str u = V.str w) = decide (u = w) from decide_eq_decide.mpr ⟨fun h => V.str.inj h, fun h => by rw [h]⟩]
  exact post _ _ E S H hk R Evo.refl (.bl _)
theorem AO_eqB (hk : k (.dat (.bool (decide (p = q)))) E) : AO X N j (compareOp .Eq) (.dat (.bool p)) (.dat (.bool q)) E k := fun hx c S σ H x y Q R T1 T2 post => by
  have t1 : Dt X.K S H x (.bool p) := T1
  have t2 : Dt X.K S H y (.bool q) := T2
  cases t1
  cases t2
  refine sOp_of op_eq ⟨rfl, ?_⟩
  rw [show decide (V.bl p = V.bl q) = decide (p = q) from decide_eq_decide.mpr ⟨fun h => V.bl.inj h, fun h => by rw [h]⟩]
  exact post _ _ E S H hk R Evo.refl (.bl _)
theorem AO_addS (hz : u.length + w.length ≤ sizeLine) (hk : k (.dat (.str (u ++ w))) E) : AO X N j (binaryOp .Add) (.dat (.str u)) (.dat (.str w)) E k := fun hx c S σ H x y Q R T1 T2 post => by
  have t1 : Dt X.K S H x (.str u) := T1
  have t2 : Dt X.K S H y (.str w) := T2
  cases t1
  cases t2
  exact sOp_of op_add_str ⟨u, w, rfl, rfl, hz, post _ _ E S H hk R Evo.refl (.str _)⟩
def isNone : PyData → Bool
  | .none => true
  | _ => false
theorem isNone_dt {K : PySem.W.Frag} {S : Addr → Prop} {H : Hp} {x : V} (t : Dt K S H x d) : decide (x = .non) = isNone d := by
  cases t <;> rfl
theorem AO_isN (hk : k (.dat (.bool (isNone d))) E) : AO X N j (compareOp .Is) (.dat d) (.dat .none) E k := fun hx c S σ H x y Q R T1 T2 post => by
  have t1 : Dt X.K S H x d := T1
  have t2 : Dt X.K S H y .none := T2
  cases t2
  refine sOp_of op_isN ⟨rfl, ?_⟩
  rw [isNone_dt t1]
  exact post _ _ E S H hk R Evo.refl (.bl _)
theorem AO_notN (hk : k (.dat (.bool (!isNone d))) E) : AO X N j (compareOp .IsNot) (.dat d) (.dat .none) E k := fun hx c S σ H x y Q R T1 T2 post => by
  have t1 : Dt X.K S H x d := T1
  have t2 : Dt X.K S H y .none := T2
  cases t2
  refine sOp_of op_notN ⟨rfl, ?_⟩
  rw [isNone_dt t1]
  exact post _ _ E S H hk R Evo.refl (.bl _)
/-- == and != at any depth -/
theorem AO_eqD (h1 : SeqAt.shaped d = true) (h2 : SeqAt.shaped d' = true) (hk : k (.dat (.bool (PyData.eqv d d'))) E) : AO X N j (compareOp .Eq) (.dat d) (.dat d') E k := fun hx c S σ H x y Q R T1 T2 post => by
  have t1 : Dt X.K S H x d := T1
  have t2 : Dt X.K S H y d' := T2
  exact sOp_of (op_eqD hx.room.units) ⟨d, d', t1.dp, t2.dp, h1, h2, post _ _ E S H hk R Evo.refl (.bl _)⟩
theorem AO_neD (h1 : SeqAt.shaped d = true) (h2 : SeqAt.shaped d' = true) (hk : k (.dat (.bool (!PyData.eqv d d'))) E) : AO X N j (compareOp .NotEq) (.dat d) (.dat d') E k := fun hx c S σ H x y Q R T1 T2 post => by
  have t1 : Dt X.K S H x d := T1
  have t2 : Dt X.K S H y d' := T2
  exact sOp_of (op_neD hx.room.units) ⟨d, d', t1.dp, t2.dp, h1, h2, post _ _ E S H hk R Evo.refl (.bl _)⟩
end
/-! ### in, not in -/
theorem all_flat_int (ns : List Int) : (ns.map V.int).all flatV = true := by
  rw [List.all_eq_true]
  intro x hx
  obtain ⟨n, _, rfl⟩ := List.mem_map.mp hx
  rfl
theorem all_flat_str (ns : List Str) : (ns.map V.str).all flatV = true := by
  rw [List.all_eq_true]
  intro x hx
  obtain ⟨n, _, rfl⟩ := List.mem_map.mp hx
  rfl
theorem inV_int (i : Int) (ns : List Int) : inV (.int i) (ns.map V.int) = decide (i ∈ ns) := by
  unfold inV
  induction ns with
  | nil => rfl
  | cons n ns ih =>
    rw [List.map_cons, List.any_cons, ih]
    show (n == i || decide (i ∈ ns)) = _
    by_cases h : n = i
    · subst h; simp
    · have h' : ¬ i = n := fun q => h q.symm
      simp [h, h', List.mem_cons]
theorem inV_str (i : Str) (ns : List Str) : inV (.str i) (ns.map V.str) = decide (i ∈ ns) := by
  unfold inV
  induction ns with
  | nil => rfl
  | cons n ns ih =>
    rw [List.map_cons, List.any_cons, ih]
    show (n == i || decide (i ∈ ns)) = _
    by_cases h : n = i
    · subst h; simp
    · have h' : ¬ i = n := fun q => h q.symm
      simp [h, h', List.mem_cons]
theorem AO_inI {i : Int} {ns : List Int} (h : s.items E = some (ns.map .int)) (hk : k (.dat (.bool (decide (i ∈ ns)))) E) : AO X N j (compareOp .In) (.dat (.int i)) s E k := fun hx c S σ H x y Q R T1 T2 post => by
  have t1 : Dt X.K S H x (.int i) := T1
  obtain ⟨p, xs, rfl, sq, da⟩ := T2.ofItems R h
  cases t1
  obtain rfl := da.ints
  refine sOp_of op_in_seq ⟨p, _, rfl, sq, rfl, all_flat_int ns, ?_⟩
  rw [if_neg Bool.false_ne_true, inV_int]
  exact post _ _ E S H hk R Evo.refl (.bl _)
theorem AO_notInI {i : Int} {ns : List Int} (h : s.items E = some (ns.map .int)) (hk : k (.dat (.bool (!decide (i ∈ ns)))) E) : AO X N j (compareOp .NotIn) (.dat (.int i)) s E k := fun hx c S σ H x y Q R T1 T2 post => by
  have t1 : Dt X.K S H x (.int i) := T1
  obtain ⟨p, xs, rfl, sq, da⟩ := T2.ofItems R h
  cases t1
  obtain rfl := da.ints
  refine sOp_of op_notIn_seq ⟨p, _, rfl, sq, rfl, all_flat_int ns, ?_⟩
  rw [if_pos rfl, inV_int]
  exact post _ _ E S H hk R Evo.refl (.bl _)
theorem AO_inS {i : Str} {ns : List Str} (h : s.items E = some (ns.map .str)) (hk : k (.dat (.bool (decide (i ∈ ns)))) E) : AO X N j (compareOp .In) (.dat (.str i)) s E k := fun hx c S σ H x y Q R T1 T2 post => by
  have t1 : Dt X.K S H x (.str i) := T1
  obtain ⟨p, xs, rfl, sq, da⟩ := T2.ofItems R h
  cases t1
  obtain rfl := da.strs
  refine sOp_of op_in_seq ⟨p, _, rfl, sq, rfl, all_flat_str ns, ?_⟩
  rw [if_neg Bool.false_ne_true, inV_str]
  exact post _ _ E S H hk R Evo.refl (.bl _)
theorem AO_notInS {i : Str} {ns : List Str} (h : s.items E = some (ns.map .str)) (hk : k (.dat (.bool (!decide (i ∈ ns)))) E) : AO X N j (compareOp .NotIn) (.dat (.str i)) s E k := fun hx c S σ H x y Q R T1 T2 post => by
  have t1 : Dt X.K S H x (.str i) := T1
  obtain ⟨p, xs, rfl, sq, da⟩ := T2.ofItems R h
  cases t1
  obtain rfl := da.strs
  refine sOp_of op_notIn_seq ⟨p, _, rfl, sq, rfl, all_flat_str ns, ?_⟩
  rw [if_pos rfl, inV_str]
  exact post _ _ E S H hk R Evo.refl (.bl _)

/-! ### arguments, displays -/
theorem AA_arg {ka : List RD → List SD → Prop} (h : AE X N j a E fun r E1 => AA X N j es E1 fun rs E2 => ka (r.settle :: rs) E2) (hs : starEach (a :: es) X.env = (false, eval a X.env) :: starEach es X.env := by rfl) : AA X N j (a :: es) E ka := by
  have go : AE X N j a E fun r E1 => AA X N j es E1 fun rs E2 => ka (r :: rs) E2 := fun hx c S σ H Q R post => by
    refine h hx c S σ H Q R fun v r E' S' H' hk R' T => ?_
    cases r with
    | dat d => exact post v _ E' S' H' hk R' T
    | al i => exact post v _ E' S' H' hk R' T
    | new ds =>
      obtain ⟨S2, R2, ev, t⟩ := R'.release T (d := .list ds) rfl
      exact post v (.dat (.list ds)) E' S2 H' hk R2 t
  exact AA_cons go hs
theorem dats_dt {K : PySem.W.Frag} {c : Cx0} {S : Addr → Prop} {σ : St} {H : Hp} {E : List SD} : ∀ {vs : List V} {rs : List RD} {ds : List PyData}, Paired (RelT K c S σ E H) vs rs → datsOf rs = some ds → DtAll K S H vs ds
  | _, _, _, .nil, e => by cases e; exact .nil
  | _, .dat d :: rs, ds, .cons t q, e => by
    unfold datsOf at e
    cases z : datsOf rs with
    | none => rw [z] at e; cases e
    | some es =>
      rw [z] at e
      cases e
      exact .cons t (dats_dt q z)
  | _, .new _ :: rs, ds, .cons t q, e => by cases e
  | _, .al _ :: rs, ds, .cons t q, e => by cases e
theorem AE_tup {x1 : _} (h : AA X N j es E fun rs E1 => ∃ ds, datsOf rs = some ds ∧ ds.length ≤ 16777216 ∧ k (.dat (.tuple ds)) E1) : AE X N j (.Tuple es x1 pos) E k := fun hx c S σ H Q R post => by
  refine sE_of (pe_tup pa_s) ?_
  show sA X es σ H fun xs H1 => xs.length ≤ sizeLine ∧ ∀ p, H1 p = none → Q (.ref p) (upd H1 p (.tup xs))
  refine (h hx).bind R fun xs rs E1 S1 H1 hk _ R1 T1 => ?_
  obtain ⟨ds, e, z, q⟩ := hk
  have da := dats_dt T1 e
  refine ⟨by rw [da.length, sizeLine_eq]; exact z, fun p hp => ?_⟩
  exact post _ _ E1 S1 _ q (R1.laid hp) (R1.newT hp da)
theorem AE_lst (h : AA X N j es E fun rs E1 => ∃ ds, datsOf rs = some ds ∧ ds.length ≤ 16777216 ∧ k (.new ds) E1) : AE X N j (.List es pos) E k := fun hx c S σ H Q R post => by
  refine sE_of (pe_lst pa_s) ?_
  show sA X es σ H fun xs H1 => xs.length ≤ sizeLine ∧ ∀ p, H1 p = none → Q (.ref p) (upd H1 p (.lst xs))
  refine (h hx).bind R fun xs rs E1 S1 H1 hk _ R1 T1 => ?_
  obtain ⟨ds, e, z, q⟩ := hk
  have da := dats_dt T1 e
  refine ⟨by rw [da.length, sizeLine_eq]; exact z, fun p hp => ?_⟩
  exact post _ _ E1 S1 _ q (R1.laid hp) (R1.newL hp da)

/-! ### built-ins -/
/-- what a call of values comes to -/
def VJ (X : Cx) (rr : List V → Hp → VK → Prop) (rs : List RD) (E : List SD) (k : EK) : Prop := ∀ (c : Cx0) (S : Addr → Prop) (σ : St) (H : Hp) (xs : List V) (Q : VK), Res X.K c S σ H E → Paired (RelT X.K c S σ E H) xs rs →
  (∀ v o E' S' H', k o E' → Res X.K c S' σ H' E' → RelT X.K c S' σ E' H' v o → Q v H') → rr xs H Q
theorem AE_cb1 {rr : List V → Hp → VK → Prop} {x : Str} {id : String} {p : Pos} (hc : X.calm = true → CallR X (.builtin id) rr) (hm : Bi X.mg → X.mg x = none) (hv : bootBuiltins x = some (.builtin id)) (hg : Gl X x) (hn : x ≠ "__name__") (hdb : (x == ("__debug__" : Str)) = false)
    (he : starEach [a] X.env = (false, eval a X.env) :: starEach [] X.env) (h : AE X N j a E fun r E1 => VJ X rr [r] E1 k) : AE X N j (.Call (.Name x p) [a] [] pos) E k := fun hx c S σ H Q R post => by
  refine sE_of (pe_callB (hc hx.calm) hg (hm hx.bi) hv (pa_cons pe_s pa_nil he) hn hdb he) ?_
  show sE X a σ H fun x H1 => rr [x] H1 Q
  refine (h hx).bind R fun x r E1 S1 H1 hk _ R1 T1 => ?_
  exact hk c S1 σ H1 [x] Q R1 (.cons T1 .nil) post
theorem AE_ct1 {rr : List V → Hp → VK → Prop} {x : Str} {T : String} {p : Pos} (hc : X.calm = true → CallR X (.type T) rr) (hm : Bi X.mg → X.mg x = none) (hv : bootBuiltins x = some (.type T)) (hg : Gl X x) (hn : x ≠ "__name__") (hdb : (x == ("__debug__" : Str)) = false)
    (he : starEach [a] X.env = (false, eval a X.env) :: starEach [] X.env) (h : AE X N j a E fun r E1 => VJ X rr [r] E1 k) : AE X N j (.Call (.Name x p) [a] [] pos) E k := fun hx c S σ H Q R post => by
  refine sE_of (pe_callTy (hc hx.calm) hg (hm hx.bi) hv (pa_cons pe_s pa_nil he) hn hdb he) ?_
  show sE X a σ H fun x H1 => rr [x] H1 Q
  refine (h hx).bind R fun x r E1 S1 H1 hk _ R1 T1 => ?_
  exact hk c S1 σ H1 [x] Q R1 (.cons T1 .nil) post
theorem AE_cb2 {rr : List V → Hp → VK → Prop} {x : Str} {id : String} {p : Pos} (hc : X.calm = true → CallR X (.builtin id) rr) (hm : Bi X.mg → X.mg x = none) (hv : bootBuiltins x = some (.builtin id)) (hg : Gl X x) (hn : x ≠ "__name__") (hdb : (x == ("__debug__" : Str)) = false)
    (he : starEach [a, b] X.env = (false, eval a X.env) :: starEach [b] X.env) (he2 : starEach [b] X.env = (false, eval b X.env) :: starEach [] X.env) (hpl : (backTo pos (starEach [b] X.env)).any (·.1) = false)
    (h : AE X N j a E fun r E1 => AE X N j b E1 fun s E2 => VJ X rr [r, s] E2 k) : AE X N j (.Call (.Name x p) [a, b] [] pos) E k := fun hx c S σ H Q R post => by
  refine sE_of (pe_callB (hc hx.calm) hg (hm hx.bi) hv (pa_cons pe_s (pa_cons pe_s pa_nil he2) he) hn hdb he hpl) ?_
  show sE X a σ H fun x H1 => sE X b σ H1 fun y H2 => rr [x, y] H2 Q
  refine (h hx).bind R fun x r E1 S1 H1 hk _ R1 T1 => ?_
  refine (hk hx).bind R1 fun y s E2 S2 H2 hk2 R2n R2 T2 => ?_
  exact hk2 c S2 σ H2 [x, y] Q R2 (.cons (T1.lift R1 R2n) (.cons T2 .nil)) post
def LenOk (E : List SD) (r : RD) (n : Nat) : Prop := (∃ ds, r.items E = some ds ∧ n = ds.length) ∨ ∃ z, r = .dat (.str z) ∧ z.length ≤ 16777216 ∧ n = z.length
section
variable {p : Pos}
theorem AE_len (h : AE X N j a E fun r E1 => ∃ n, LenOk E1 r n ∧ k (.dat (.int n)) E1) (hg : Gl X "len" := by rfl) (he : starEach [a] X.env = (false, eval a X.env) :: starEach [] X.env := by rfl) : AE X N j (.Call (.Name "len" p) [a] [] pos) E k := by
  refine AE_cb1 (fun _ => call_len) (·.len) PySem.boot_len hg (by decide) (by decide) he fun hx c S σ H Q R post => ?_
  refine h hx c S σ H Q R fun v r E' S' H' hk R' T => post v r E' S' H' (fun c S σ H xs Q R T post => ?_) R' T
  obtain ⟨n, hl, q⟩ := hk
  cases T with
  | cons t T =>
    cases T
    rcases hl with ⟨ds, e, rfl⟩ | ⟨z, rfl, hz, rfl⟩
    · obtain ⟨p, xs, rfl, sq, da⟩ := t.ofItems R e
      refine ⟨_, _, rfl, ?_, post _ _ _ S H q R (.int _)⟩
      rw [← da.length]
      rcases sq with sq | sq
      · exact .inl ⟨xs, sq, rfl⟩
      · exact .inr ⟨xs, sq, rfl⟩
    · have t' : Dt X.K S H _ (.str z) := t
      cases t'
      exact ⟨_, _, rfl, ⟨by rw [sizeLine_eq]; exact hz, rfl⟩, post _ _ _ S H q R (.int _)⟩
theorem AE_tuple (h : AE X N j a E fun r E1 => ∃ ds, r.items E1 = some ds ∧ k (.dat (.tuple ds)) E1) (hg : Gl X "tuple" := by rfl) (he : starEach [a] X.env = (false, eval a X.env) :: starEach [] X.env := by rfl) : AE X N j (.Call (.Name "tuple" p) [a] [] pos) E k := by
  refine AE_ct1 (fun _ => call_tuple_of) (·.tuple) (by decide +kernel) hg (by decide) (by decide) he fun hx c S σ H Q R post => ?_
  refine h hx c S σ H Q R fun v r E' S' H' hk R' T => post v r E' S' H' (fun c S σ H xs Q R T post => ?_) R' T
  obtain ⟨ds, e, q⟩ := hk
  cases T with
  | cons t T =>
    cases T
    obtain ⟨p, xs, rfl, sq, da⟩ := t.ofItems R e
    refine ⟨p, xs, rfl, ?_⟩
    rcases sq with sq | sq
    · exact .inl ⟨sq, fun l hl => post _ _ _ S _ q (R.laid hl) (R.newT hl da)⟩
    · exact .inr ⟨sq, post _ _ _ S H q R (.tup sq da)⟩
theorem AE_listOf (h : AE X N j a E fun r E1 => ∃ ds, r.items E1 = some ds ∧ k (.new ds) E1) (hg : Gl X "list" := by rfl) (he : starEach [a] X.env = (false, eval a X.env) :: starEach [] X.env := by rfl) : AE X N j (.Call (.Name "list" p) [a] [] pos) E k := by
  refine AE_ct1 (fun _ => call_list_of) (·.list) (by decide +kernel) hg (by decide) (by decide) he fun hx c S σ H Q R post => ?_
  refine h hx c S σ H Q R fun v r E' S' H' hk R' T => post v r E' S' H' (fun c S σ H xs Q R T post => ?_) R' T
  obtain ⟨ds, e, q⟩ := hk
  cases T with
  | cons t T =>
    cases T
    obtain ⟨p, xs, rfl, sq, da⟩ := t.ofItems R e
    exact ⟨p, xs, rfl, sq, fun l hl => post _ _ _ S _ q (R.laid hl) (R.newL hl da)⟩
theorem AE_absI (h : AE X N j a E fun r E1 => ∃ i, r = .dat (.int i) ∧ k (.dat (.int (if i < 0 then -i else i))) E1) (hg : Gl X "abs" := by rfl) (he : starEach [a] X.env = (false, eval a X.env) :: starEach [] X.env := by rfl) : AE X N j (.Call (.Name "abs" p) [a] [] pos) E k := by
  refine AE_cb1 (fun _ => call_abs) (·.abs) (by decide +kernel) hg (by decide) (by decide) he fun hx c S σ H Q R post => ?_
  refine h hx c S σ H Q R fun v r E' S' H' hk R' T => post v r E' S' H' (fun c S σ H xs Q R T post => ?_) R' T
  obtain ⟨i, rfl, q⟩ := hk
  cases T with
  | cons t T =>
    cases T
    have t' : Dt X.K S H _ (.int i) := t
    cases t'
    exact ⟨i, rfl, post _ _ _ S H q R (.int _)⟩
/-- int of an int, of a bool -/
def IntOk (r : RD) (i : Int) : Prop := r = .dat (.int i) ∨ ∃ b, r = .dat (.bool b) ∧ i = if b then 1 else 0
theorem AE_intI (h : AE X N j a E fun r E1 => ∃ i, IntOk r i ∧ k (.dat (.int i)) E1) (hg : Gl X "int" := by rfl) (he : starEach [a] X.env = (false, eval a X.env) :: starEach [] X.env := by rfl) : AE X N j (.Call (.Name "int" p) [a] [] pos) E k := by
  refine AE_ct1 (fun _ => call_int1) (·.int) (by decide +kernel) hg (by decide) (by decide) he fun hx c S σ H Q R post => ?_
  refine h hx c S σ H Q R fun v r E' S' H' hk R' T => post v r E' S' H' (fun c S σ H xs Q R T post => ?_) R' T
  obtain ⟨i, hi, q⟩ := hk
  cases T with
  | cons t T =>
    cases T
    rcases hi with rfl | ⟨b, rfl, rfl⟩
    · have t' : Dt X.K S H _ (.int i) := t
      cases t'
      exact .inl ⟨i, rfl, post _ _ _ S H q R (.int _)⟩
    · have t' : Dt X.K S H _ (.bool b) := t
      cases t'
      exact .inr ⟨b, rfl, post _ _ _ S H q R (.int _)⟩
theorem AE_strI (h : AE X N j a E fun r E1 => ∃ i, r = .dat (.int i) ∧ i.natAbs < 1000000000000000000 ∧ k (.dat (.str (toString i))) E1) (hg : Gl X "str" := by rfl) (he : starEach [a] X.env = (false, eval a X.env) :: starEach [] X.env := by rfl) : AE X N j (.Call (.Name "str" p) [a] [] pos) E k := by
  refine AE_ct1 (fun _ => call_str_int) (·.str) (by decide +kernel) hg (by decide) (by decide) he fun hx c S σ H Q R post => ?_
  refine h hx c S σ H Q R fun v r E' S' H' hk R' T => post v r E' S' H' (fun c S σ H xs Q R T post => ?_) R' T
  obtain ⟨i, rfl, hi, q⟩ := hk
  cases T with
  | cons t T =>
    cases T
    have t' : Dt X.K S H _ (.int i) := t
    cases t'
    refine ⟨i, rfl, ?_, post _ _ _ S H q R (.str _)⟩
    by_cases hz : i.natAbs = 0
    · rw [hz]; decide
    · have := (Nat.log2_lt hz).mpr (Nat.lt_trans hi (by decide : 1000000000000000000 < 2 ^ 60))
      omega
theorem AE_max2 (h : AE X N j a E fun r E1 => AE X N j b E1 fun s E2 => ∃ i i', r = .dat (.int i) ∧ s = .dat (.int i') ∧ k (.dat (.int (max i i'))) E2) (hg : Gl X "max" := by rfl) (he : starEach [a, b] X.env = (false, eval a X.env) :: starEach [b] X.env := by rfl)
    (he2 : starEach [b] X.env = (false, eval b X.env) :: starEach [] X.env := by rfl) (hpl : (backTo pos (starEach [b] X.env)).any (·.1) = false := by rfl) : AE X N j (.Call (.Name "max" p) [a, b] [] pos) E k := by
  refine AE_cb2 (fun hc => call_max2 hc) (·.max) (by decide +kernel) hg (by decide) (by decide) he he2 hpl (h.imp fun r E1 hk => hk.imp fun s E2 hk => ?_)
  intro c S σ H xs Q R T post
  obtain ⟨i, i', rfl, rfl, q⟩ := hk
  cases T with
  | cons t T =>
    cases T with
    | cons t2 T =>
      cases T
      have t' : Dt X.K S H _ (.int i) := t
      have t2' : Dt X.K S H _ (.int i') := t2
      cases t'
      cases t2'
      refine ⟨i, i', rfl, ?_⟩
      rw [show (if i' > i then i' else i) = max i i' by rw [Int.max_def]; split <;> split <;> omega]
      exact post _ _ _ S H q R (.int _)
theorem AE_min2 (h : AE X N j a E fun r E1 => AE X N j b E1 fun s E2 => ∃ i i', r = .dat (.int i) ∧ s = .dat (.int i') ∧ k (.dat (.int (min i i'))) E2) (hg : Gl X "min" := by rfl) (he : starEach [a, b] X.env = (false, eval a X.env) :: starEach [b] X.env := by rfl)
    (he2 : starEach [b] X.env = (false, eval b X.env) :: starEach [] X.env := by rfl) (hpl : (backTo pos (starEach [b] X.env)).any (·.1) = false := by rfl) : AE X N j (.Call (.Name "min" p) [a, b] [] pos) E k := by
  refine AE_cb2 (fun hc => call_min2 hc) (·.min) (by decide +kernel) hg (by decide) (by decide) he he2 hpl (h.imp fun r E1 hk => hk.imp fun s E2 hk => ?_)
  intro c S σ H xs Q R T post
  obtain ⟨i, i', rfl, rfl, q⟩ := hk
  cases T with
  | cons t T =>
    cases T with
    | cons t2 T =>
      cases T
      have t' : Dt X.K S H _ (.int i) := t
      have t2' : Dt X.K S H _ (.int i') := t2
      cases t'
      cases t2'
      refine ⟨i, i', rfl, ?_⟩
      rw [show (if i' < i then i' else i) = min i i' by rw [Int.min_def]; split <;> split <;> omega]
      exact post _ _ _ S H q R (.int _)
theorem AE_sum (h : AE X N j a E fun r E1 => ∃ ns : List Int, r.lst E1 = some (ns.map .int) ∧ k (.dat (.int ns.sum)) E1) (hg : Gl X "sum" := by rfl) (he : starEach [a] X.env = (false, eval a X.env) :: starEach [] X.env := by rfl) : AE X N j (.Call (.Name "sum" p) [a] [] pos) E k := by
  refine AE_cb1 (fun hc => cr_sum hc) (·.sum) (by decide +kernel) hg (by decide) (by decide) he fun hx c S σ H Q R post => ?_
  refine h hx c S σ H Q R fun v r E' S' H' hk R' T => post v r E' S' H' (fun c S σ H xs Q R T post => ?_) R' T
  obtain ⟨ns, e, q⟩ := hk
  cases T with
  | cons t T =>
    cases T
    obtain ⟨p, xs, rfl, hl, da⟩ := t.ofLst R e
    obtain rfl := da.ints
    exact ⟨p, ns, rfl, SqL.of hl, post _ _ _ S H q R (.int _)⟩
theorem AE_max1 (h : AE X N j a E fun r E1 => ∃ ns : List Int, r.lst E1 = some (ns.map .int) ∧ ns ≠ [] ∧ ∀ m, m ∈ ns → (∀ y, y ∈ ns → y ≤ m) → k (.dat (.int m)) E1) (hg : Gl X "max" := by rfl) (he : starEach [a] X.env = (false, eval a X.env) :: starEach [] X.env := by rfl) : AE X N j (.Call (.Name "max" p) [a] [] pos) E k := by
  refine AE_cb1 (fun hc => cr_max hc) (·.max) (by decide +kernel) hg (by decide) (by decide) he fun hx c S σ H Q R post => ?_
  refine h hx c S σ H Q R fun v r E' S' H' hk R' T => post v r E' S' H' (fun c S σ H xs Q R T post => ?_) R' T
  obtain ⟨ns, e, ne, q⟩ := hk
  cases T with
  | cons t T =>
    cases T
    obtain ⟨p, xs, rfl, hl, da⟩ := t.ofLst R e
    obtain rfl := da.ints
    exact ⟨p, ns, rfl, SqL.of hl, by cases ns with | nil => exact absurd rfl ne | cons _ _ => exact Nat.succ_pos _, fun m h1 h2 => post _ _ _ S H (q m h1 h2) R (.int _)⟩
theorem AE_min1 (h : AE X N j a E fun r E1 => ∃ ns : List Int, r.lst E1 = some (ns.map .int) ∧ ns ≠ [] ∧ ∀ m, m ∈ ns → (∀ y, y ∈ ns → m ≤ y) → k (.dat (.int m)) E1) (hg : Gl X "min" := by rfl) (he : starEach [a] X.env = (false, eval a X.env) :: starEach [] X.env := by rfl) : AE X N j (.Call (.Name "min" p) [a] [] pos) E k := by
  refine AE_cb1 (fun hc => cr_min hc) (·.min) (by decide +kernel) hg (by decide) (by decide) he fun hx c S σ H Q R post => ?_
  refine h hx c S σ H Q R fun v r E' S' H' hk R' T => post v r E' S' H' (fun c S σ H xs Q R T post => ?_) R' T
  obtain ⟨ns, e, ne, q⟩ := hk
  cases T with
  | cons t T =>
    cases T
    obtain ⟨p, xs, rfl, hl, da⟩ := t.ofLst R e
    obtain rfl := da.ints
    exact ⟨p, ns, rfl, SqL.of hl, by cases ns with | nil => exact absurd rfl ne | cons _ _ => exact Nat.succ_pos _, fun m h1 h2 => post _ _ _ S H (q m h1 h2) R (.int _)⟩
theorem AE_any (h : AE X N j a E fun r E1 => ∃ bs : List Bool, r.lst E1 = some (bs.map .bool) ∧ k (.dat (.bool (bs.any id))) E1) (hg : Gl X "any" := by rfl) (he : starEach [a] X.env = (false, eval a X.env) :: starEach [] X.env := by rfl) : AE X N j (.Call (.Name "any" p) [a] [] pos) E k := by
  refine AE_cb1 (fun hc => cr_any hc) (·.any) (by decide +kernel) hg (by decide) (by decide) he fun hx c S σ H Q R post => ?_
  refine h hx c S σ H Q R fun v r E' S' H' hk R' T => post v r E' S' H' (fun c S σ H xs Q R T post => ?_) R' T
  obtain ⟨ns, e, q⟩ := hk
  cases T with
  | cons t T =>
    cases T
    obtain ⟨p, xs, rfl, hl, da⟩ := t.ofLst R e
    obtain rfl := da.bools
    exact ⟨p, ns, rfl, SqL.of hl, post _ _ _ S H q R (.bl _)⟩
theorem AE_all (h : AE X N j a E fun r E1 => ∃ bs : List Bool, r.lst E1 = some (bs.map .bool) ∧ k (.dat (.bool (bs.all id))) E1) (hg : Gl X "all" := by rfl) (he : starEach [a] X.env = (false, eval a X.env) :: starEach [] X.env := by rfl) : AE X N j (.Call (.Name "all" p) [a] [] pos) E k := by
  refine AE_cb1 (fun hc => cr_all hc) (·.all) (by decide +kernel) hg (by decide) (by decide) he fun hx c S σ H Q R post => ?_
  refine h hx c S σ H Q R fun v r E' S' H' hk R' T => post v r E' S' H' (fun c S σ H xs Q R T post => ?_) R' T
  obtain ⟨ns, e, q⟩ := hk
  cases T with
  | cons t T =>
    cases T
    obtain ⟨p, xs, rfl, hl, da⟩ := t.ofLst R e
    obtain rfl := da.bools
    exact ⟨p, ns, rfl, SqL.of hl, post _ _ _ S H q R (.bl _)⟩
/-- the ints of a list, in order -/
theorem AE_sortedI (h : AE X N j a E fun r E1 => ∃ ns : List Int, r.lst E1 = some (ns.map .int) ∧ ns.length < 64 ∧ ∀ ms : List Int, ms.Perm ns → ms.Pairwise (· ≤ ·) → k (.new (ms.map .int)) E1) (hg : Gl X "sorted" := by rfl) (he : starEach [a] X.env = (false, eval a X.env) :: starEach [] X.env := by rfl) : AE X N j (.Call (.Name "sorted" p) [a] [] pos) E k := by
  refine AE_cb1 (fun hc => cr_sorted) (·.sorted) (by decide +kernel) hg (by decide) (by decide) he fun hx c S σ H Q R post => ?_
  refine h hx c S σ H Q R fun v r E' S' H' hk R' T => post v r E' S' H' (fun c S σ H xs Q R T post => ?_) R' T
  obtain ⟨ns, e, z, q⟩ := hk
  cases T with
  | cons t T =>
    cases T
    obtain ⟨p, xs, rfl, hl, da⟩ := t.ofLst R e
    obtain rfl := da.ints
    exact ⟨p, ns, rfl, SqL.of hl, z, fun ms l h1 h2 hp => post _ _ _ S _ (q ms h1 h2) (R.laid hp) (R.newL hp (DtAll.of_ints ms))⟩
def rgD (a b : Int) : List PyData := (List.range (b - a).toNat).map fun (i : Nat) => PyData.int (a + i)
theorem rgD_dt {K : PySem.W.Frag} {S : Addr → Prop} {H : Hp} (a b : Int) : DtAll K S H (rgV a b) (rgD a b) := by
  unfold rgV rgD
  induction List.range (b - a).toNat with
  | nil => exact .nil
  | cons i is ih => exact .cons (.int _) ih
theorem AE_listRange {p2 pos2 : Pos} (h : AE X N j a E fun r E1 => ∃ n : Int, r = .dat (.int n) ∧ 0 ≤ n ∧ n ≤ 16777216 ∧ k (.new (rgD 0 n)) E1) (hg : Gl X "list" := by rfl) (hg2 : Gl X "range" := by rfl) (he : starEach [a] X.env = (false, eval a X.env) :: starEach [] X.env := by rfl)
    (he2 : starEach [Expr.Call (.Name "range" p2) [a] [] pos2] X.env = (false, eval (Expr.Call (.Name "range" p2) [a] [] pos2) X.env) :: starEach [] X.env := by rfl) : AE X N j (.Call (.Name "list" p) [.Call (.Name "range" p2) [a] [] pos2] [] pos) E k := fun hx c S σ H Q R post => by
  refine sE_of (pe_listRg hx.calm hg hx.bi.list (prg_1 hg2 hx.bi.range pe_s he) he2) ?_
  show sE X a σ H fun x H1 => ∃ n, x = .int n ∧ RgOk 0 n ∧ ∀ q, H1 q = none → Q (.ref q) (upd H1 q (.lst (rgV 0 n)))
  refine (h hx).bind R fun x r E1 S1 H1 hk _ R1 T1 => ?_
  obtain ⟨n, rfl, h0, h1, q⟩ := hk
  have t : Dt X.K S1 H1 x (.int n) := T1
  cases t
  exact ⟨n, rfl, RgOk.of_le (Int.le_refl 0) h1 (by decide) h0, fun l hl => post _ _ E1 S1 _ q (R1.laid hl) (R1.newL hl (rgD_dt 0 n))⟩
end

/-! ### methods of a slot's list -/
theorem own_at {K : PySem.W.Frag} {c : Cx0} {S : Addr → Prop} {σ : St} {H : Hp} {E : List SD} {i : Nat} {v : V} {ds : List PyData} (R : Res K c S σ H E) (h : σ[i]? = some (some v)) (e : E[i]? = some (.own ds)) : ∃ l xs, v = .ref l ∧ H l = some (.lst xs) ∧ DtAll K S H xs ds := by
  have rel := R.rel i _ e
  rw [h] at rel
  obtain ⟨a, xs, e1, e2, q⟩ := rel
  cases e1
  exact ⟨a, xs, rfl, e2, q⟩
section
variable {o : Expr} {nm : Str} {apos cpos : Pos}
theorem AE_append (ho : AE X N j o E fun r E1 => ∃ i ds1, r = .al i ∧ E1[i]? = some (.own ds1) ∧ AE X N j a E1 fun s E2 => ∃ d ds, s.rel? = some d ∧ E2[i]? = some (.own ds) ∧ ds.length < 16777216 ∧ k (.dat .none) (E2.set i (.own (ds ++ [d]))))
    (hbase : attributeBase o "append" X.env (eval o X.env) = eval o X.env := by rfl)
    (hfew : ((backTo cpos (starEach [a] X.env)).all (fun x => !x.1) && (backToKw cpos (keywordEach [] X.env)).all (fun x => x.1.isSome) && decide ([a].length + ([] : List Keyword).length + (if ([] : List Keyword).isEmpty then 0 else 1) < 30)) = true := by rfl)
    (hline : (apos.endLine == cpos.line) = true := by rfl) (hs : starEach [a] X.env = (false, eval a X.env) :: starEach [] X.env := by rfl) : AE X N j (.Call (.Attribute o "append" apos) [a] [] cpos) E k := fun hx c S σ H Q R post => by
  refine sE_of (pe_bm PySem.F.plainAttrs_list PySem.F.slot_list_append PySem.F.type_list_append mt_append pe_s (pa_cons pe_s pa_nil hs) hbase hfew hline hs rfl) ?_
  show sE X o σ H fun x H1 => tyV X.K "list" x H1 ∧ sE X a σ H1 fun y H2 => rAppend x [y] H2 Q
  refine (ho hx).bind R fun x r E1 S1 H1 hk _ R1 T1 => ?_
  obtain ⟨i, ds1, rfl, e1, hk⟩ := hk
  have hi : σ[i]? = some (some x) := T1
  obtain ⟨l, xs, rfl, hl, _⟩ := own_at R1 hi e1
  refine ⟨.inl ⟨rfl, xs, SqL.of hl⟩, ?_⟩
  refine (hk hx).bind R1 fun y s E2 S2 H2 hk2 _ R2 T2 => ?_
  obtain ⟨d, ds, hs, e2, z, q⟩ := hk2
  obtain ⟨S3, R3, _, t⟩ := R2.release T2 hs
  obtain ⟨l', ys, el, hl2, da⟩ := own_at R3 hi e2
  cases el
  exact ⟨l, ys, y, rfl, rfl, hl2, by rw [da.length, sizeLine_eq]; exact z, post _ _ _ S3 _ q (R3.write hi e2 (da.snoc t)) .non⟩
theorem AE_extend (ho : AE X N j o E fun r E1 => ∃ i ds1, r = .al i ∧ E1[i]? = some (.own ds1) ∧ AE X N j a E1 fun s E2 => ∃ es ds, s.lst E2 = some es ∧ E2[i]? = some (.own ds) ∧ ds.length + es.length ≤ 16777216 ∧ k (.dat .none) (E2.set i (.own (ds ++ es))))
    (hbase : attributeBase o "extend" X.env (eval o X.env) = eval o X.env := by rfl)
    (hfew : ((backTo cpos (starEach [a] X.env)).all (fun x => !x.1) && (backToKw cpos (keywordEach [] X.env)).all (fun x => x.1.isSome) && decide ([a].length + ([] : List Keyword).length + (if ([] : List Keyword).isEmpty then 0 else 1) < 30)) = true := by rfl)
    (hline : (apos.endLine == cpos.line) = true := by rfl) (hs : starEach [a] X.env = (false, eval a X.env) :: starEach [] X.env := by rfl) : AE X N j (.Call (.Attribute o "extend" apos) [a] [] cpos) E k := fun hx c S σ H Q R post => by
  refine sE_of (pe_bm PySem.F.plainAttrs_list PySem.F.slot_list_extend PySem.F.type_list_extend mt_extend pe_s (pa_cons pe_s pa_nil hs) hbase hfew hline hs rfl) ?_
  show sE X o σ H fun x H1 => tyV X.K "list" x H1 ∧ sE X a σ H1 fun y H2 => rExtend x [y] H2 Q
  refine (ho hx).bind R fun x r E1 S1 H1 hk _ R1 T1 => ?_
  obtain ⟨i, ds1, rfl, e1, hk⟩ := hk
  have hi : σ[i]? = some (some x) := T1
  obtain ⟨l, xs, rfl, hl, _⟩ := own_at R1 hi e1
  refine ⟨.inl ⟨rfl, xs, SqL.of hl⟩, ?_⟩
  refine (hk hx).bind R1 fun y s E2 S2 H2 hk2 _ R2 T2 => ?_
  obtain ⟨es, ds, hs, e2, z, q⟩ := hk2
  obtain ⟨b, zs, rfl, hb, db⟩ := T2.ofLst R2 hs
  obtain ⟨l', ys, el, hl2, da⟩ := own_at R2 hi e2
  cases el
  exact ⟨l, b, ys, zs, rfl, rfl, hl2, hb, by rw [da.length, db.length, sizeLine_eq]; exact z, post _ _ _ S2 _ q (R2.write hi e2 (da.append db)) .non⟩
theorem AE_popAt (ho : AE X N j o E fun r E1 => ∃ i ds1, r = .al i ∧ E1[i]? = some (.own ds1) ∧ AE X N j a E1 fun s E2 => ∃ (n : Nat) (d : PyData) (ds : List PyData), s = .dat (.int n) ∧ E2[i]? = some (.own ds) ∧ ds[n]? = some d ∧ n < 16777216 ∧ k (.dat d) (E2.set i (.own (ds.eraseIdx n))))
    (hbase : attributeBase o "pop" X.env (eval o X.env) = eval o X.env := by rfl)
    (hfew : ((backTo cpos (starEach [a] X.env)).all (fun x => !x.1) && (backToKw cpos (keywordEach [] X.env)).all (fun x => x.1.isSome) && decide ([a].length + ([] : List Keyword).length + (if ([] : List Keyword).isEmpty then 0 else 1) < 30)) = true := by rfl)
    (hline : (apos.endLine == cpos.line) = true := by rfl) (hs : starEach [a] X.env = (false, eval a X.env) :: starEach [] X.env := by rfl) : AE X N j (.Call (.Attribute o "pop" apos) [a] [] cpos) E k := fun hx c S σ H Q R post => by
  refine sE_of (pe_bm PySem.F.plainAttrs_list PySem.F.slot_list_pop PySem.F.type_list_pop mt_popAt pe_s (pa_cons pe_s pa_nil hs) hbase hfew hline hs rfl) ?_
  show sE X o σ H fun x H1 => tyV X.K "list" x H1 ∧ sE X a σ H1 fun y H2 => rPopAt x [y] H2 Q
  refine (ho hx).bind R fun x r E1 S1 H1 hk _ R1 T1 => ?_
  obtain ⟨i, ds1, rfl, e1, hk⟩ := hk
  have hi : σ[i]? = some (some x) := T1
  obtain ⟨l, xs, rfl, hl, _⟩ := own_at R1 hi e1
  refine ⟨.inl ⟨rfl, xs, SqL.of hl⟩, ?_⟩
  refine (hk hx).bind R1 fun y s E2 S2 H2 hk2 _ R2 T2 => ?_
  obtain ⟨n, d, ds, rfl, e2, hd, hn, q⟩ := hk2
  have t : Dt X.K S2 H2 y (.int n) := T2
  cases t
  obtain ⟨l', ys, el, hl2, da⟩ := own_at R2 hi e2
  cases el
  obtain ⟨v, hv, tv⟩ := da.get hd
  have hlen : n < ys.length := (List.getElem?_eq_some_iff.mp hv).1
  have ix := (ixN_seq (n := ys.length) (i := (n : Int)) (j := n) (by unfold ixN; rw [if_pos (by omega), if_pos (by omega)]; rfl)).1
  refine ⟨l, ys, n, n, v, rfl, rfl, hl2, by omega, by omega, ix, hv, post _ _ _ S2 _ q (R2.write hi e2 (da.eraseIdx n)) (tv.evo ?_)⟩
  exact Evo.upd (fun u hu => by rw [hl2] at hu; cases hu; exact ⟨_, rfl⟩) (R2.sep i l ⟨hi, _, e2, rfl⟩)
end
end

/-! Targets, what is walked, statements, comprehensions, defs. -/

/-! ### targets: a name, or a tuple of names -/
inductive Tgt where
  | one (i : Nat) | many (is : List Nat)
def gNames : List Nat → TGs
  | [] => gNil
  | i :: is => gCons (gName i) (gNames is)
def Tgt.rd (K : PySem.W.Frag) : Tgt → TG
  | .one i => gName i
  | .many is => gTup K is.length (gNames is)
def Tgt.slots : Tgt → List Nat
  | .one i => [i]
  | .many is => is
def setsE (E : List SD) : List Nat → List PyData → Option (List SD)
  | [], [] => some E
  | i :: is, d :: ds => match E[i]? with
    | some (.dat _) => setsE (E.set i (.dat d)) is ds
    | some .na => setsE (E.set i (.dat d)) is ds
    | _ => none
  | _, _ => none
def Tgt.put (E : List SD) (d : PyData) : Tgt → Option (List SD)
  | .one i => setsE E [i] [d]
  | .many is => match d with
    | .tuple ds => setsE E is ds
    | _ => none
def setsV (σ : St) : List Nat → List V → St
  | i :: is, x :: xs => setsV (σ.set i (some x)) is xs
  | _, _ => σ
theorem gNames_of : ∀ {is : List Nat} {xs : List V} {σ : St} {H : Hp} {Q : St → Hp → Prop}, xs.length = is.length → Q (setsV σ is xs) H → gNames is xs σ H Q
  | [], [], _, _, _, _, q => ⟨rfl, q⟩
  | i :: is, x :: xs, σ, H, Q, h, q => ⟨x, xs, rfl, gNames_of (is := is) (xs := xs) (Nat.succ.inj h) q⟩
section
variable {K : PySem.W.Frag} {c : Cx0} {S S' : Addr → Prop} {σ σ' : St} {H H' : Hp} {E E' : List SD} {v : V}
theorem Res.sets : ∀ {is : List Nat} {xs : List V} {ds : List PyData} {σ : St} {E E' : List SD}, Res K c S σ H E → DtAll K S H xs ds → setsE E is ds = some E' → Res K c S (setsV σ is xs) H E' ∧ xs.length = is.length
  | [], _, _, σ, E, E', R, .nil, e => by cases e; exact ⟨R, rfl⟩
  | [], _, _, σ, E, E', R, .cons _ _, e => by cases e
  | i :: is, _, _, σ, E, E', R, .nil, e => by cases e
  | i :: is, x :: xs, d :: ds, σ, E, E', R, .cons t q, e => by
    unfold setsE at e
    split at e
    · rename_i d0 h0
      obtain ⟨R', hl⟩ := Res.sets (R.set h0 rfl t) q e
      exact ⟨R', by rw [List.length_cons, List.length_cons, hl]⟩
    · rename_i h0
      obtain ⟨R', hl⟩ := Res.sets (R.set h0 rfl t) q e
      exact ⟨R', by rw [List.length_cons, List.length_cons, hl]⟩
    · cases e
/-- a target takes data -/
theorem Tgt.take {τ : Tgt} {d : PyData} {Q : St → Hp → Prop} (R : Res K c S σ H E) (t : Dt K S H v d) (e : τ.put E d = some E') (q : ∀ xs, Res K c S (setsV σ τ.slots xs) H E' → Q (setsV σ τ.slots xs) H) : τ.rd K v σ H Q := by
  cases τ with
  | one i =>
    obtain ⟨R', _⟩ := R.sets (is := [i]) (.cons t .nil) e
    exact q [v] R'
  | many is =>
    cases d with
    | tuple ds =>
      cases t with
      | tup s da =>
        obtain ⟨R', hl⟩ := R.sets da e
        exact ⟨_, _, rfl, s, hl, gNames_of hl (q _ R')⟩
    | _ => cases e
theorem wipe_at (σ : St) (i : Nat) : ∀ vs : List Nat, (L2.wipe σ vs)[i]? = if i ∈ vs ∧ i < σ.length then some none else σ[i]?
  | [] => by simp [L2.wipe]
  | v :: vs => by
    unfold L2.wipe
    by_cases h : v = i
    · subst h
      by_cases hl : v < σ.length
      · rw [List.getElem?_set_self (by rw [wipe_length]; exact hl), if_pos ⟨List.mem_cons_self, hl⟩]
      · rw [if_neg fun q => hl q.2, List.getElem?_eq_none (by rw [List.length_set, wipe_length]; omega), List.getElem?_eq_none (by omega)]
    · rw [List.getElem?_set_ne h, wipe_at σ i vs]
      by_cases hm : i ∈ vs
      · simp [hm]
      · have : ¬ i = v := fun z => h z.symm
        simp [hm, this]
theorem wipe_set {vs : List Nat} {i : Nat} {w : Option V} (h : i ∈ vs) : L2.wipe (σ.set i w) vs = L2.wipe σ vs := by
  apply List.ext_getElem?
  intro j
  rw [wipe_at, wipe_at, List.length_set]
  by_cases hj : j ∈ vs ∧ j < σ.length
  · rw [if_pos hj, if_pos hj]
  · rw [if_neg hj, if_neg hj]
    by_cases e : i = j
    · subst e
      have : ¬ i < σ.length := fun q => hj ⟨h, q⟩
      rw [List.getElem?_eq_none (by rw [List.length_set]; omega), List.getElem?_eq_none (by omega)]
    · rw [List.getElem?_set_ne e]
theorem wipe_wipe {vs : List Nat} : L2.wipe (L2.wipe σ vs) vs = L2.wipe σ vs := by
  apply List.ext_getElem?
  intro j
  rw [wipe_at, wipe_length]
  by_cases hj : j ∈ vs ∧ j < σ.length
  · rw [if_pos hj, wipe_at, if_pos hj]
  · rw [if_neg hj]
theorem wipe_sets {vs : List Nat} : ∀ {is : List Nat} {xs : List V} {σ : St}, (∀ i ∈ is, i ∈ vs) → L2.wipe (setsV σ is xs) vs = L2.wipe σ vs
  | [], _, σ, _ => rfl
  | i :: is, [], σ, _ => rfl
  | i :: is, x :: xs, σ, h => by
    show L2.wipe (setsV (σ.set i (some x)) is xs) vs = _
    rw [wipe_sets fun j hj => h j (List.mem_cons_of_mem _ hj), wipe_set (h i List.mem_cons_self)]
end

/-! ### what is walked -/
/-- the iterator brings the data ds, one after another, while what the loop does keeps to the rules -/
structure Del (K : PySem.W.Frag) (c : Cx0) (J : It) (ds : List PyData) : Prop where
  go : ∀ (i : Nat) (d : PyData), ds[i]? = some d → ∀ (S : Addr → Prop) (σ : St) (H : Hp) (E : List SD), Res K c S σ H E → J.go i H ∧ ∀ x H', J.yld i H x H' → Same H H' ∧ Res K c S σ H' E ∧ Evo K S H S H' ∧ Dt K S H' x d
  stop : ∀ (S : Addr → Prop) (σ : St) (H : Hp) (E : List SD), Res K c S σ H E → J.stop ds.length H
section
variable (X : Cx)
def sI (tg iter : Expr) : TI := fun σ H R => ∀ (pins : List (Addr × Obj)) (s : Shared), Inv X pins σ H s →
  wpAny (model X.prog X.w) X.A (eval iter X.env) (fun v s1 => wpAny (model X.prog X.w) X.A (pyIter v) (PIE X pins σ tg R) X.xe s1) X.xe s
variable {X}
theorem pi_s {tg iter : Expr} : PI X tg iter (sI X tg iter) := ⟨fun pins s _ _ _ I h => h pins s I⟩
theorem sI_of {tg iter : Expr} {wi : TI} {σ : St} {H : Hp} {R : It → Hp → Prop} (h : PI X tg iter wi) (w : wi σ H R) : sI X tg iter σ H R := fun pins s I => h.run pins s σ H R I w
end
def AI (X : Cx) (N : List Str) (j : Nat) (tg iter : Expr) (E : List SD) (k : List PyData → List SD → Prop) : Prop := Okx X N j → ∀ (c : Cx0) (S : Addr → Prop) (σ : St) (H : Hp) (R : It → Hp → Prop), Res X.K c S σ H E →
  (∀ J ds E1 S1 H1, k ds E1 → Res X.K c S1 σ H1 E1 → Del X.K (Cx0.now S1 σ H1 E1) J ds → R J H1) → sI X tg iter σ H R
section
variable {X : Cx} {N : List Str} {j : Nat} {E : List SD} {tg a b iter : Expr} {ki : List PyData → List SD → Prop} {p pos : Pos}
theorem del_rng {K : PySem.W.Frag} {c : Cx0} (lo hi : Int) : Del K c (Itr lo (hi - lo).toNat) (rgD lo hi) := by
  refine ⟨fun i d e S σ H E R => ?_, fun S σ H E R => ?_⟩
  · unfold rgD at e
    rw [List.getElem?_map] at e
    have hi' : i < (hi - lo).toNat := by
      cases z : (List.range (hi - lo).toNat)[i]? with
      | none => rw [z] at e; cases e
      | some u =>
        have := (List.getElem?_eq_some_iff.mp z).1
        rw [List.length_range] at this
        exact this
    rw [List.getElem?_range hi'] at e
    cases e
    refine ⟨hi', fun x H' ⟨e1, e2⟩ => ?_⟩
    subst e1 e2
    exact ⟨Same.refl _, R, Evo.refl, .int _⟩
  · show (hi - lo).toNat ≤ _
    unfold rgD
    rw [List.length_map, List.length_range]
    exact Nat.le_refl _
theorem AI_range1 (h : AE X N j a E fun r E1 => ∃ n : Int, r = .dat (.int n) ∧ n < 2 ^ 62 ∧ -(2 ^ 62) ≤ n ∧ ki (rgD 0 n) E1) (hg : Gl X "range" := by rfl) (hs : starEach [a] X.env = [(false, eval a X.env)] := by rfl) : AI X N j tg (.Call (.Name "range" p) [a] [] pos) E ki := fun hx c S σ H R Rs q => by
  refine sI_of (pi_range1 hg hx.bi.range (pa_cons pe_s pa_nil hs) hs) ?_
  show sE X a σ H fun x H1 => ∃ j : Int, [x] = [.int j] ∧ -(2 ^ 62) ≤ j ∧ j < 2 ^ 62 ∧ R (Itr 0 j.toNat) H1
  refine (h hx).bind Rs fun x r E1 S1 H1 hk _ R1 T1 => ?_
  obtain ⟨n, rfl, h1, h2, z⟩ := hk
  have t : Dt X.K S1 H1 x (.int n) := T1
  cases t
  refine ⟨n, rfl, h2, h1, q _ _ E1 S1 H1 z R1 ?_⟩
  have := del_rng (K := X.K) (c := Cx0.now S1 σ H1 E1) 0 n
  rw [Int.sub_zero] at this
  exact this
theorem AI_range2 (h : AE X N j a E fun r E1 => AE X N j b E1 fun s E2 => ∃ m n : Int, r = .dat (.int m) ∧ s = .dat (.int n) ∧ (m < 2 ^ 62 ∧ -(2 ^ 62) ≤ m ∧ n < 2 ^ 62 ∧ -(2 ^ 62) ≤ n) ∧ ki (rgD m n) E2) (hg : Gl X "range" := by rfl)
    (hs : starEach [a, b] X.env = [(false, eval a X.env), (false, eval b X.env)] := by rfl) (hs2 : starEach [b] X.env = [(false, eval b X.env)] := by rfl) : AI X N j tg (.Call (.Name "range" p) [a, b] [] pos) E ki := fun hx c S σ H R Rs q => by
  refine sI_of (pi_range2 hg hx.bi.range (pa_cons pe_s (pa_cons pe_s pa_nil hs2) (by rw [hs, hs2])) hs hs2) ?_
  show sE X a σ H fun x H1 => sE X b σ H1 fun y H2 => ∃ i j : Int, [x, y] = [.int i, .int j] ∧ (-(2 ^ 62) ≤ i ∧ i < 2 ^ 62 ∧ -(2 ^ 62) ≤ j ∧ j < 2 ^ 62) ∧ R (Itr i (j - i).toNat) H2
  refine (h hx).bind Rs fun x r E1 S1 H1 hk _ R1 T1 => ?_
  refine (hk hx).bind R1 fun y s E2 S2 H2 hk2 R2n R2 T2 => ?_
  obtain ⟨m, n, rfl, rfl, ⟨h1, h2, h3, h4⟩, z⟩ := hk2
  have t : Dt X.K S1 H1 x (.int m) := T1
  have t2 : Dt X.K S2 H2 y (.int n) := T2
  cases t
  cases t2
  exact ⟨m, n, rfl, ⟨h2, h1, h4, h3⟩, q _ _ E2 S2 H2 z R2 (del_rng m n)⟩
theorem AI_list (h : AE X N j a E fun r E1 => ∃ ds, (r = .dat (.list ds) ∨ r = .new ds) ∧ ki ds E1) : AI X N j tg a E ki := fun hx c S σ H R Rs q => by
  refine sI_of (pi_list pe_s) ?_
  show sE X a σ H fun x H1 => ∃ p, x = .ref p ∧ (∃ xs, SqL X.K H1 p xs) ∧ R (Itl X.K p) H1
  refine (h hx).bind Rs fun x r E1 S1 H1 hk _ R1 T1 => ?_
  obtain ⟨ds, hr, z⟩ := hk
  obtain ⟨p, xs, rfl, hl, da, keep⟩ : ∃ p xs, x = .ref p ∧ H1 p = some (.lst xs) ∧ DtAll X.K S1 H1 xs ds ∧ ∀ i, ¬ Owned σ E1 i p := by
    rcases hr with rfl | rfl
    · have t : Dt X.K S1 H1 x (.list ds) := T1
      cases t with
      | lst s e da => exact ⟨_, _, rfl, e, da, fun i o => R1.sep i _ o s⟩
    · obtain ⟨l, xs, rfl, e, da, ns, no, _⟩ := T1
      exact ⟨l, xs, rfl, e, da, no⟩
  refine ⟨p, rfl, ⟨xs, SqL.of hl⟩, q _ ds E1 S1 H1 z R1 ⟨fun i d e S' σ' H' E' R' => ?_, fun S' σ' H' E' R' => ?_⟩⟩
  · have hl' : H' p = some (.lst xs) := R'.keep p _ hl fun ⟨i, o⟩ => keep i o
    obtain ⟨v, e1, t⟩ := da.get e
    refine ⟨⟨xs, v, SqL.of hl', e1⟩, fun x H'' ⟨e2, e3⟩ => ?_⟩
    subst e2
    have := e3 xs (SqL.of hl')
    rw [e1] at this
    cases this
    exact ⟨Same.refl _, R', Evo.refl, t.evo (R1.evo R')⟩
  · have hl' : H' p = some (.lst xs) := R'.keep p _ hl fun ⟨i, o⟩ => keep i o
    exact ⟨xs, SqL.of hl', by rw [da.length]; exact Nat.le_refl _⟩
theorem AI_tup (h : AE X N j a E fun r E1 => ∃ ds, r = .dat (.tuple ds) ∧ ki ds E1) : AI X N j tg a E ki := fun hx c S σ H R Rs q => by
  refine sI_of (pi_tup pe_s) ?_
  show sE X a σ H fun x H1 => ∃ p, x = .ref p ∧ (∃ xs, SqT X.K H1 p xs) ∧ R (Itt X.K p) H1
  refine (h hx).bind Rs fun x r E1 S1 H1 hk _ R1 T1 => ?_
  obtain ⟨ds, rfl, z⟩ := hk
  have t : Dt X.K S1 H1 x (.tuple ds) := T1
  cases t with
  | tup hl da =>
    rename_i p xs
    refine ⟨p, rfl, ⟨xs, hl⟩, q _ ds E1 S1 H1 z R1 ⟨fun i d e S' σ' H' E' R' => ?_, fun S' σ' H' E' R' => ?_⟩⟩
    · have hl' : SqT X.K H' p xs := (R1.evo R').tup p xs hl
      obtain ⟨v, e1, t⟩ := da.get e
      refine ⟨⟨xs, v, hl', e1⟩, fun x H'' ⟨e2, e3⟩ => ?_⟩
      subst e2
      have := e3 xs hl'
      rw [e1] at this
      cases this
      exact ⟨Same.refl _, R', Evo.refl, t.evo (R1.evo R')⟩
    · exact ⟨xs, (R1.evo R').tup p xs hl, by rw [da.length]; exact Nat.le_refl _⟩
end

/-! ### statements -/
structure Links (K : PySem.W.Frag) (c : Cx0) (nx : List SD → Prop) (rt : EK) (bk ct : List SD → Prop) (D' : Ends) : Prop where
  nx : ∀ E S σ H, nx E → Res K c S σ H E → D'.nx σ H
  rt : ∀ v r E S σ H, rt r E → Res K c S σ H E → RelT K c S σ E H v r → D'.rt v H
  bk : ∀ E S σ H, bk E → Res K c S σ H E → D'.bk σ H
  ct : ∀ E S σ H, ct E → Res K c S σ H E → D'.ct σ H
def WS (K : PySem.W.Frag) (ts : TS) (E : List SD) (nx : List SD → Prop) (rt : EK) (bk ct : List SD → Prop) : Prop := ∀ (c : Cx0) (S : Addr → Prop) (σ : St) (H : Hp) (D' : Ends), Res K c S σ H E → Links K c nx rt bk ct D' → ts D' σ H
def AS (X : Cx) (N : List Str) (j : Nat) (st : Stmt) (E : List SD) (nx : List SD → Prop) (rt : EK) (bk ct : List SD → Prop) : Prop := Okx X N j → WS X.K (sS X st) E nx rt bk ct
def ASs (X : Cx) (N : List Str) (j : Nat) (st : List Stmt) (E : List SD) (nx : List SD → Prop) (rt : EK) (bk ct : List SD → Prop) : Prop := Okx X N j → WS X.K (sSs X st) E nx rt bk ct
/-- what is handed back: a slot's list goes with it -/
def RD.out (E : List SD) : RD → RD × List SD
  | .al i => match E[i]? with
    | some (.own ds) => (.new ds, E.set i .na)
    | _ => (.al i, E)
  | r => (r, E)
/-- what a slot holds behind a store -/
inductive Stores : RD → SD → Prop
  | dat (d : PyData) : Stores (.dat d) (.dat d)
  | own (ds : List PyData) : Stores (.new ds) (.own ds)
  | rel (ds : List PyData) : Stores (.new ds) (.dat (.list ds))
  | drw (ds : List PyData) : DrawD ds → Stores (.new ds) .drw
section
variable {X : Cx} {N : List Str} {j : Nat} {E : List SD} {nx bk ct : List SD → Prop} {rt : EK} {st : Stmt} {rest body orelse : List Stmt} {tg a b e iter : Expr} {p pos : Pos}
theorem Res.store {K : PySem.W.Frag} {c : Cx0} {S : Addr → Prop} {σ : St} {H : Hp} {v : V} {r : RD} {i : Nat} {sd0 sd : SD} (R : Res K c S σ H E) (T : RelT K c S σ E H v r) (h0 : E[i]? = some sd0) (n0 : sd0.isOwn = false) (s : Stores r sd) : ∃ S', Res K c S' (σ.set i (some v)) H (E.set i sd) := by
  cases s with
  | dat d => exact ⟨S, R.set h0 n0 T⟩
  | own ds => exact ⟨S, R.setOwn h0 n0 T⟩
  | drw ds q => exact ⟨S, R.setDrw h0 n0 T q⟩
  | rel ds =>
    obtain ⟨S2, R2, _, t⟩ := R.release T (d := .list ds) rfl
    exact ⟨S2, R2.set h0 n0 t⟩
theorem ASs_nil (h : nx E) : ASs X N j [] E nx rt bk ct := fun _ c S σ H D' R L => sSs_of pss_nil (L.nx E S σ H h R)
theorem ASs_cons (h : AS X N j st E (fun E1 => ASs X N j rest E1 nx rt bk ct) rt bk ct) : ASs X N j (st :: rest) E nx rt bk ct := fun hx c S σ H D' R L => by
  refine sSs_of (pss_cons ps_s pss_s) ?_
  show sS X st { D' with nx := sSs X rest D' } σ H
  exact h hx c S σ H _ R ⟨fun E1 S1 σ1 H1 q R1 => q hx c S1 σ1 H1 D' R1 L, L.rt, L.bk, L.ct⟩
theorem AS_cut (M : List SD → Prop) (h : AS X N j st E M rt bk ct) (k : ∀ E1, M E1 → nx E1) : AS X N j st E nx rt bk ct := fun hx c S σ H D' R L => h hx c S σ H D' R ⟨fun E1 S1 σ1 H1 q R1 => L.nx E1 S1 σ1 H1 (k E1 q) R1, L.rt, L.bk, L.ct⟩
theorem AS_set {i : Nat} {y : Str} {pos' : Pos} (hi : IxOf N y i) (hy : Loc X.env.scope y) (h : AE X N j e E fun r E1 => ∃ sd0 sd, E1[i]? = some sd0 ∧ sd0.isOwn = false ∧ Stores r sd ∧ nx (E1.set i sd)) (hs : swapsWith e (some (.Name y pos')) pos.line X.env = pure false := by rfl)
    (hf : X.fn y = true ∨ X.env.scope.names.lookup y = some .local := by first | exact .inl rfl | exact .inr rfl) : AS X N j (.Assign [.Name y pos'] e pos) E nx rt bk ct := fun hx c S σ H D' R L => by
  refine sS_of (ps_set (i := i) (by rw [hx.names]; exact hx.nd) (by rw [hx.names]; exact hi.get) hy pe_s hs hf) ?_
  show sE X e σ H fun x H1 => D'.nx (σ.set i (some x)) H1
  refine (h hx).bind R fun x r E1 S1 H1 hk _ R1 T1 => ?_
  obtain ⟨sd0, sd, h0, n0, s, q⟩ := hk
  obtain ⟨S2, R2⟩ := R1.store T1 h0 n0 s
  exact L.nx _ S2 _ H1 q R2
theorem AS_setT {τ : Tgt} (hτ : Okx X N j → PG X tg (τ.rd X.K)) (h : AE X N j e E fun r E1 => ∃ d E2, r = .dat d ∧ τ.put E1 d = some E2 ∧ nx E2) (hs : swapsWithSole [tg] e pos.line X.env = pure false := by rfl) (hw : swappedStores [tg] e X.env = pure none := by rfl) (h1 : (assignEach [tg] X.env).map (·.2) = [assign tg X.env] := by rfl) : AS X N j (.Assign [tg] e pos) E nx rt bk ct := fun hx c S σ H D' R L => by
  refine sS_of (ps_asg pe_s (hτ hx) hs hw h1) ?_
  show sE X e σ H fun x H1 => τ.rd X.K x σ H1 D'.nx
  refine (h hx).bind R fun x r E1 S1 H1 hk _ R1 T1 => ?_
  obtain ⟨d, E2, rfl, q, z⟩ := hk
  exact Tgt.take R1 T1 q fun xs R2 => L.nx _ S1 _ H1 z R2
theorem AS_expr (h : AE X N j e E fun _ E1 => nx E1) (hs : swapsWith e none pos.line X.env = pure false := by rfl) : AS X N j (.Expr e pos) E nx rt bk ct := fun hx c S σ H D' R L => by
  refine sS_of (ps_expr pe_s hs) ?_
  show sE X e σ H fun _ H1 => D'.nx σ H1
  exact (h hx).bind R fun x r E1 S1 H1 hk _ R1 _ => L.nx _ S1 _ H1 hk R1
theorem AS_ret (h : AE X N j e E fun r E1 => rt (r.out E1).1 (r.out E1).2) : AS X N j (.Return (some e) pos) E nx rt bk ct := fun hx c S σ H D' R L => by
  refine sS_of (ps_ret pe_s) ?_
  show sE X e σ H D'.rt
  refine h hx c S σ H _ R fun x r E1 S1 H1 hk R1 T1 => ?_
  have plain : ∀ r : RD, rt r E1 → RelT X.K c S1 σ E1 H1 x r → D'.rt x H1 := fun r q t => L.rt x r E1 S1 σ H1 q R1 t
  cases r with
  | dat d => exact plain _ hk T1
  | new ds => exact plain _ hk T1
  | al i =>
    unfold RD.out at hk
    dsimp only at hk
    cases z : E1[i]? with
    | none =>
      rw [z] at hk
      exact plain _ hk T1
    | some sd =>
      cases sd with
      | own ds =>
        rw [z] at hk
        dsimp only at hk
        have hi : σ[i]? = some (some x) := T1
        obtain ⟨l, xs, rfl, hl, da⟩ := own_at R1 hi z
        have o : Owned σ E1 i l := ⟨hi, _, z, rfl⟩
        -- the slot is given up
        have R2 : Res X.K c S1 (σ.set i none) H1 (E1.set i .na) := by
          have hE : i < E1.length := (List.getElem?_eq_some_iff.mp z).1
          have hσ := R1.len
          have oo : ∀ k b, Owned (σ.set i none) (E1.set i .na) k b → Owned σ E1 k b := fun k b w => by
            rcases w.set hE hσ with ⟨_, e, _⟩ | ⟨_, w⟩
            · cases e
            · exact w
          refine ⟨by rw [List.length_set, List.length_set, hσ], fun k sd h => ?_, fun k m b w w' => R1.inj k m b (oo k b w) (oo m b w'), fun k b w => R1.sep k b (oo k b w), R1.keep, R1.there, fun k b w => R1.own k b (oo k b w), R1.grow, R1.frsh, R1.lists, fun k b w => ?_⟩
          · by_cases hk : i = k
            · subst hk
              rw [List.getElem?_set_self hE] at h
              cases h
              exact trivial
            · rw [List.getElem?_set_ne hk] at h ⊢
              exact R1.rel k sd h
          · obtain ⟨e1, e2⟩ := R1.par k b w
            have hk : i ≠ k := by
              rintro rfl
              rw [e2] at z
              cases z
            rw [List.getElem?_set_ne hk, List.getElem?_set_ne hk]
            exact ⟨e1, e2⟩
        refine L.rt _ _ _ S1 _ H1 hk R2 ⟨l, xs, rfl, hl, da, R1.sep i l o, fun k w => ?_, ?_⟩
        · have hE : i < E1.length := (List.getElem?_eq_some_iff.mp z).1
          rcases w.set hE R1.len with ⟨_, e, _⟩ | ⟨nk, w⟩
          · cases e
          · exact nk (R1.inj k i l w o)
        · exact R1.own i l o
      | _ =>
        rw [z] at hk
        exact plain _ hk T1
end

/-! Branches, loops, comprehensions, defs and their calls. -/
section
variable {X : Cx} {N : List Str} {j : Nat} {E : List SD} {nx bk ct : List SD → Prop} {rt : EK} {st : Stmt} {rest body orelse : List Stmt} {tg a b e iter elt cc : Expr} {p pos : Pos} {k : EK}
theorem AS_if {ca cb : List Stmt} (h : AT X N j cc E fun d E1 => if d = true then ASs X N j ca E1 nx rt bk ct else ASs X N j cb E1 nx rt bk ct) : AS X N j (.If cc ca cb pos) E nx rt bk ct := fun hx c S σ H D' R L => by
  refine sS_of (ps_if pt_s pss_s pss_s) ?_
  show sT X cc σ H fun d H1 => if d = true then sSs X ca D' σ H1 else sSs X cb D' σ H1
  refine (h hx).bind R fun d E1 S1 H1 hk _ R1 => ?_
  cases d with
  | true => exact (show ASs X N j ca E1 nx rt bk ct from hk) hx c S1 σ H1 D' R1 L
  | false => exact (show ASs X N j cb E1 nx rt bk ct from hk) hx c S1 σ H1 D' R1 L
theorem AS_pass (h : nx E) : AS X N j (.Pass pos) E nx rt bk ct := fun _ c S σ H D' R L => sS_of ps_pass (L.nx E S σ H h R)
theorem AS_break (h : bk E) : AS X N j (.Break pos) E nx rt bk ct := fun _ c S σ H D' R L => sS_of ps_break (L.bk E S σ H h R)
theorem AS_continue (h : ct E) : AS X N j (.Continue pos) E nx rt bk ct := fun _ c S σ H D' R L => sS_of ps_continue (L.ct E S σ H h R)
/-- a target takes what it is handed -/
def TgOk (X : Cx) (N : List Str) (j : Nat) (tg : Expr) (τ : Tgt) : Prop := Okx X N j → PG X tg (τ.rd X.K)
/-- a loop: I holds between two turns -/
theorem AS_for {τ : Tgt} (hτ : TgOk X N j tg τ) (h : AI X N j tg iter E fun ds E1 => ∃ I : Nat → List SD → Prop, I 0 E1 ∧ (∀ (i : Nat) (d : PyData) (E2 : List SD), ds[i]? = some d → I i E2 →
      ∃ E3, τ.put E2 d = some E3 ∧ ASs X N j body E3 (I (i + 1)) rt nx (I (i + 1))) ∧ ∀ E2, I ds.length E2 → nx E2)
    (hs : ∀ x, foldedSetIterable iter X.env x = pure x := by intro _; rfl) : AS X N j (.For tg iter body [] pos) E nx rt bk ct := fun hx c S σ H D' R L => by
  refine sS_of (ps_for hx.po hx.calm pi_s (hτ hx) pss_s hs) ?_
  show sI X tg iter σ H fun J H1 => ∃ W : Nat → Nat → St → Hp → Prop, (∃ m, W 0 m σ H1) ∧ ∀ i m σ H, W i m σ H →
    (J.stop i H ∧ D'.nx σ H) ∨ (J.go i H ∧ ∃ M : St → Hp → Prop, (∀ σ' H', M σ' H' → ∃ m', m' < m ∧ W (i + 1) m' σ' H') ∧ ∀ x H', J.yld i H x H' → τ.rd X.K x σ H' fun σ2 H2 => sSs X body { D' with nx := M, ct := M, bk := D'.nx } σ2 H2)
  refine h hx c S σ H _ R fun J ds E1 S1 H1 hk R1 del => ?_
  obtain ⟨I, i0, step, done⟩ := hk
  refine ⟨fun i m σ' H' => m = ds.length - i ∧ i ≤ ds.length ∧ ∃ S' E', Res X.K (Cx0.now S1 σ H1 E1) S' σ' H' E' ∧ I i E', ⟨_, rfl, Nat.zero_le _, S1, E1, R1.now, i0⟩, ?_⟩
  rintro i m σ' H' ⟨rfl, hi, S', E', R', inv⟩
  by_cases hlt : i < ds.length
  · obtain ⟨hgo, hyl⟩ := del.go i ds[i] (List.getElem?_eq_getElem hlt) S' σ' H' E' R'
    obtain ⟨E3, hput, hbody⟩ := step i ds[i] E' (List.getElem?_eq_getElem hlt) inv
    refine .inr ⟨hgo, fun σ2 H2 => ∃ S2 E2, Res X.K (Cx0.now S1 σ H1 E1) S2 σ2 H2 E2 ∧ I (i + 1) E2, fun σ2 H2 ⟨S2, E2, R2, i2⟩ => ⟨ds.length - (i + 1), by omega, rfl, hlt, S2, E2, R2, i2⟩, fun x H2 y => ?_⟩
    obtain ⟨_, R2, _, t⟩ := hyl x H2 y
    refine Tgt.take R2 t hput fun xs R3 => ?_
    refine hbody hx _ S' _ H2 _ R3 ⟨fun E4 S4 σ4 H4 q R4 => ⟨S4, E4, R4, q⟩, fun v r E4 S4 σ4 H4 q R4 T4 => L.rt v r E4 S4 σ4 H4 q (R1.trans R4) (T4.back R1), fun E4 S4 σ4 H4 q R4 => L.nx E4 S4 σ4 H4 q (R1.trans R4), fun E4 S4 σ4 H4 q R4 => ⟨S4, E4, R4, q⟩⟩
  · have e : i = ds.length := by omega
    subst e
    exact .inl ⟨del.stop S' σ' H' E' R', L.nx E' S' σ' H' (done E' inv) (R1.trans R')⟩

/-- slots that are forgotten -/
inductive Fgt : List SD → List SD → Prop
  | nil : Fgt [] []
  | keep {a : SD} {l l' : List SD} : Fgt l l' → Fgt (a :: l) (a :: l')
  | drop {d : PyData} {l l' : List SD} : Fgt l l' → Fgt (.dat d :: l) (.na :: l')
theorem Fgt.refl : ∀ l : List SD, Fgt l l
  | [] => .nil
  | _ :: l => .keep (Fgt.refl l)
theorem Fgt.at {l l' : List SD} (h : Fgt l l') : l.length = l'.length ∧ ∀ (i : Nat) (b : SD), l'[i]? = some b → ∃ a, l[i]? = some a ∧ (a = b ∨ (b = .na ∧ ∃ d, a = .dat d)) := by
  induction h with
  | nil => exact ⟨rfl, fun i b e => by simp at e⟩
  | keep h ih =>
    rename_i a l l'
    refine ⟨by rw [List.length_cons, List.length_cons, ih.1], fun i b e => ?_⟩
    cases i with
    | zero => exact ⟨a, rfl, .inl (Option.some.inj e)⟩
    | succ i => exact ih.2 i b e
  | drop h ih =>
    rename_i d l l'
    refine ⟨by rw [List.length_cons, List.length_cons, ih.1], fun i b e => ?_⟩
    cases i with
    | zero => exact ⟨_, rfl, .inr ⟨(Option.some.inj e).symm, d, rfl⟩⟩
    | succ i => exact ih.2 i b e
theorem Fgt.own {l l' : List SD} (h : Fgt l l') : ∀ (i : Nat) (a : SD), l[i]? = some a → a.isOwn = true → l'[i]? = some a := by
  induction h with
  | nil => exact fun i a e => by simp at e
  | keep h ih =>
    intro i a e o
    cases i with
    | zero => exact e
    | succ i => exact ih i a e o
  | drop h ih =>
    intro i a e o
    cases i with
    | zero => cases e; cases o
    | succ i => exact ih i a e o
theorem Res.forget {K : PySem.W.Frag} {c : Cx0} {S : Addr → Prop} {σ : St} {H : Hp} {E E' : List SD} (R : Res K c S σ H E) (h : Fgt E E') : Res K c S σ H E' := by
  obtain ⟨hl, ha⟩ := h.at
  have o : ∀ i a, Owned σ E' i a → Owned σ E i a := fun i a ⟨e, sd, e1, q⟩ => by
    obtain ⟨b, e2, r⟩ := ha i sd e1
    rcases r with rfl | ⟨rfl, _⟩
    · exact ⟨e, b, e2, q⟩
    · cases q
  refine ⟨R.len.trans hl, fun i sd e => ?_, fun i k a w w' => R.inj i k a (o i a w) (o k a w'), fun i a w => R.sep i a (o i a w), R.keep, R.there, fun i a w => R.own i a (o i a w), R.grow, R.frsh, R.lists, fun i a e => ?_⟩
  · obtain ⟨b, e2, r⟩ := ha i sd e
    rcases r with rfl | ⟨rfl, _⟩
    · exact R.rel i b e2
    · exact trivial
  · obtain ⟨e1, e2⟩ := R.par i a e
    exact ⟨e1, h.own i _ e2 rfl⟩
theorem ASs_forget {E' : List SD} {sts : List Stmt} (f : Fgt E E') (h : ASs X N j sts E' nx rt bk ct) : ASs X N j sts E nx rt bk ct := fun hx c S σ H D' R L => h hx c S σ H D' (R.forget f) L
/-- a branch whose ways meet again: M holds behind it -/
theorem AS_join (M : List SD → Prop) (h : AS X N j st E (fun E1 => ∃ E2, Fgt E1 E2 ∧ M E2) rt bk ct) (k : ∀ E2, M E2 → nx E2) : AS X N j st E nx rt bk ct := fun hx c S σ H D' R L =>
  h hx c S σ H D' R ⟨fun E1 S1 σ1 H1 ⟨E2, f, q⟩ R1 => L.nx E2 S1 σ1 H1 (k E2 q) (R1.forget f), L.rt, L.bk, L.ct⟩
/-- a loop: I holds between two turns, of what is not forgotten -/
theorem AS_forF {τ : Tgt} (hτ : TgOk X N j tg τ) (h : AI X N j tg iter E fun ds E1 => ∃ I : Nat → List SD → Prop, (∃ E0, Fgt E1 E0 ∧ I 0 E0) ∧ (∀ (i : Nat) (d : PyData) (E2 : List SD), ds[i]? = some d → I i E2 →
      ∃ E3, τ.put E2 d = some E3 ∧ ASs X N j body E3 (fun E4 => ∃ E5, Fgt E4 E5 ∧ I (i + 1) E5) rt nx (fun E4 => ∃ E5, Fgt E4 E5 ∧ I (i + 1) E5)) ∧ ∀ E2, I ds.length E2 → nx E2)
    (hs : ∀ x, foldedSetIterable iter X.env x = pure x := by intro _; rfl) : AS X N j (.For tg iter body [] pos) E nx rt bk ct := fun hx c S σ H D' R L => by
  refine sS_of (ps_for hx.po hx.calm pi_s (hτ hx) pss_s hs) ?_
  show sI X tg iter σ H fun J H1 => ∃ W : Nat → Nat → St → Hp → Prop, (∃ m, W 0 m σ H1) ∧ ∀ i m σ H, W i m σ H →
    (J.stop i H ∧ D'.nx σ H) ∨ (J.go i H ∧ ∃ M : St → Hp → Prop, (∀ σ' H', M σ' H' → ∃ m', m' < m ∧ W (i + 1) m' σ' H') ∧ ∀ x H', J.yld i H x H' → τ.rd X.K x σ H' fun σ2 H2 => sSs X body { D' with nx := M, ct := M, bk := D'.nx } σ2 H2)
  refine h hx c S σ H _ R fun J ds E1 S1 H1 hk R1 del => ?_
  obtain ⟨I, ⟨E0, f0, i0⟩, step, done⟩ := hk
  refine ⟨fun i m σ' H' => m = ds.length - i ∧ i ≤ ds.length ∧ ∃ S' E', Res X.K (Cx0.now S1 σ H1 E1) S' σ' H' E' ∧ I i E', ⟨_, rfl, Nat.zero_le _, S1, E0, R1.now.forget f0, i0⟩, ?_⟩
  rintro i m σ' H' ⟨rfl, hi, S', E', R', inv⟩
  by_cases hlt : i < ds.length
  · obtain ⟨hgo, hyl⟩ := del.go i ds[i] (List.getElem?_eq_getElem hlt) S' σ' H' E' R'
    obtain ⟨E3, hput, hbody⟩ := step i ds[i] E' (List.getElem?_eq_getElem hlt) inv
    refine .inr ⟨hgo, fun σ2 H2 => ∃ S2 E2, Res X.K (Cx0.now S1 σ H1 E1) S2 σ2 H2 E2 ∧ I (i + 1) E2, fun σ2 H2 ⟨S2, E2, R2, i2⟩ => ⟨ds.length - (i + 1), by omega, rfl, hlt, S2, E2, R2, i2⟩, fun x H2 y => ?_⟩
    obtain ⟨_, R2, _, t⟩ := hyl x H2 y
    refine Tgt.take R2 t hput fun xs R3 => ?_
    refine hbody hx _ S' _ H2 _ R3 ⟨fun E4 S4 σ4 H4 ⟨E5, f, q⟩ R4 => ⟨S4, E5, R4.forget f, q⟩, fun v r E4 S4 σ4 H4 q R4 T4 => L.rt v r E4 S4 σ4 H4 q (R1.trans R4) (T4.back R1), fun E4 S4 σ4 H4 q R4 => L.nx E4 S4 σ4 H4 q (R1.trans R4), fun E4 S4 σ4 H4 ⟨E5, f, q⟩ R4 => ⟨S4, E5, R4.forget f, q⟩⟩
  · have e : i = ds.length := by omega
    subst e
    exact .inl ⟨del.stop S' σ' H' E' R', L.nx E' S' σ' H' (done E' inv) (R1.trans R')⟩

/-! ### list comprehensions -/
theorem setsE_spec : ∀ {is : List Nat} {ds : List PyData} {E E' : List SD}, setsE E is ds = some E' → E'.length = E.length ∧ (∀ i : Nat, i ∉ is → E'[i]? = E[i]?) ∧ ∀ i : Nat, i ∈ is → ∃ sd, E'[i]? = some sd ∧ sd.isOwn = false
  | [], [], E, E', h => by
    cases h
    exact ⟨rfl, fun _ _ => rfl, fun i hi => nomatch hi⟩
  | [], _ :: _, E, E', h => by cases h
  | i :: is, [], E, E', h => by cases h
  | i :: is, d :: ds, E, E', h => by
    have go : ∀ {sd0 : SD}, E[i]? = some sd0 → setsE (E.set i (.dat d)) is ds = some E' → E'.length = E.length ∧ (∀ k : Nat, k ∉ i :: is → E'[k]? = E[k]?) ∧ ∀ k : Nat, k ∈ i :: is → ∃ sd, E'[k]? = some sd ∧ sd.isOwn = false := fun {sd0} h0 e => by
      obtain ⟨e1, e2, e3⟩ := setsE_spec e
      have hi : i < E.length := (List.getElem?_eq_some_iff.mp h0).1
      refine ⟨by rw [e1, List.length_set], fun k hk => ?_, fun k hk => ?_⟩
      · rw [e2 k fun z => hk (List.mem_cons_of_mem _ z), List.getElem?_set_ne fun z => hk (by rw [z]; exact List.mem_cons_self)]
      · by_cases hm : k ∈ is
        · exact e3 k hm
        · have hki : k = i := by
            rcases List.mem_cons.mp hk with z | z
            · exact z
            · exact absurd z hm
          subst hki
          exact ⟨.dat d, by rw [e2 k hm, List.getElem?_set_self hi], rfl⟩
    unfold setsE at h
    split at h
    · rename_i h0
      exact go h0 h
    · rename_i h0
      exact go h0 h
    · cases h
theorem put_spec {τ : Tgt} {d : PyData} {E E' : List SD} (h : τ.put E d = some E') : E'.length = E.length ∧ (∀ i : Nat, i ∉ τ.slots → E'[i]? = E[i]?) ∧ ∀ i : Nat, i ∈ τ.slots → ∃ sd, E'[i]? = some sd ∧ sd.isOwn = false := by
  cases τ with
  | one i => exact setsE_spec (is := [i]) h
  | many is =>
    cases d with
    | tuple ds => exact setsE_spec h
    | _ => cases h
theorem wipeE_at (E : List SD) (i : Nat) : ∀ vs : List Nat, (wipeE E vs)[i]? = if i ∈ vs ∧ i < E.length then some .na else E[i]?
  | [] => by simp [wipeE]
  | v :: vs => by
    unfold wipeE
    by_cases h : v = i
    · subst h
      by_cases hl : v < E.length
      · rw [List.getElem?_set_self (by rw [wipeE_length]; exact hl), if_pos ⟨List.mem_cons_self, hl⟩]
      · rw [if_neg fun q => hl q.2, List.getElem?_eq_none (by rw [List.length_set, wipeE_length]; omega), List.getElem?_eq_none (by omega)]
    · rw [List.getElem?_set_ne h, wipeE_at E i vs]
      by_cases hm : i ∈ vs
      · simp [hm]
      · have : ¬ i = v := fun z => h z.symm
        simp [hm, this]
theorem put_wipe {τ : Tgt} {d : PyData} {E E' : List SD} {vs : List Nat} (h : τ.put (wipeE E vs) d = some E') (hsub : ∀ i ∈ τ.slots, i ∈ vs) (free : freeOf E vs = true) : wipeE E' vs = wipeE E vs ∧ freeOf E' vs = true := by
  obtain ⟨e1, e2, e3⟩ := put_spec h
  rw [wipeE_length] at e1
  refine ⟨?_, ?_⟩
  · apply List.ext_getElem?
    intro i
    rw [wipeE_at, wipeE_at, e1]
    by_cases hi : i ∈ vs ∧ i < E.length
    · rw [if_pos hi, if_pos hi]
    · rw [if_neg hi, if_neg hi]
      by_cases hs : i ∈ τ.slots
      · have : ¬ i < E.length := fun q => hi ⟨hsub i hs, q⟩
        rw [List.getElem?_eq_none (by omega), List.getElem?_eq_none (by omega)]
      · rw [e2 i hs, wipeE_at, if_neg hi]
  · refine List.all_eq_true.mpr fun i hi => ?_
    by_cases hs : i ∈ τ.slots
    · obtain ⟨sd, e, n⟩ := e3 i hs
      rw [e]
      simp [n]
    · rw [e2 i hs, wipeE_at]
      obtain ⟨sd, e, n⟩ := freeOf_get free hi
      rw [if_pos ⟨hi, (List.getElem?_eq_some_iff.mp e).1⟩]
      rfl
theorem setsV_at {i : Nat} : ∀ {is : List Nat} {xs : List V} {σ : St}, i ∉ is → (setsV σ is xs)[i]? = σ[i]?
  | [], _, σ, _ => rfl
  | j :: is, [], σ, _ => rfl
  | j :: is, x :: xs, σ, h => by
    show (setsV (σ.set j (some x)) is xs)[i]? = _
    rw [setsV_at fun q => h (List.mem_cons_of_mem _ q), List.getElem?_set_ne fun q => h (by rw [q]; exact List.mem_cons_self)]
/-- a block's context -/
def Blk (X : Cx) (scope : Scope) (P : Cx → Prop) : Prop := ∀ (s : Shared) (H : Hp) (C : Addr) (cl : List (Str × Addr)) (fp : List Addr), P (X.blk s H scope (compEnvC scope cl C X.env) fp)
theorem Okx.blk (hx : Okx X N j) {s : Shared} {H : Hp} {scope : Scope} {C : Addr} {cl : List (Str × Addr)} {fp : List Addr} : Okx (X.blk s H scope (compEnvC scope cl C X.env) fp) N j :=
  ⟨hx.names, hx.nd, hx.calm, hx.room, PassesOwn.never, hx.bi⟩
/-- what a comprehension does, turn by turn: acc is the list so far -/
def LcJ (X : Cx) (N : List Str) (j : Nat) (scope : Scope) (vs : List Nat) (τ : Tgt) (tests : List Expr) (elt : Expr) (k : EK) (ds : List PyData) (E1 : List SD) : Prop :=
  freeOf E1 vs = true ∧ ds.length < 16777216 ∧ ∃ I : Nat → List PyData → Prop, I 0 [] ∧ (∀ (i : Nat) (d : PyData) (acc : List PyData), ds[i]? = some d → I i acc → ∃ E2, τ.put (wipeE E1 vs) d = some E2 ∧
    match tests with
    | [] => Blk X scope fun Y => AE Y N j elt E2 fun r E4 => ∃ x, r.rel? = some x ∧ E4 = E2 ∧ I (i + 1) (acc ++ [x])
    | [c] => Blk X scope fun Y => AT Y N j c E2 fun b E3 => E3 = E2 ∧ if b = true then Blk X scope fun Y => AE Y N j elt E2 fun r E4 => ∃ x, r.rel? = some x ∧ E4 = E2 ∧ I (i + 1) (acc ++ [x]) else I (i + 1) acc
    | _ => False) ∧ ∀ acc, I ds.length acc → k (.new acc) E1
def sTs (X : Cx) (ifs : List Expr) : TT := fun σ H Q => ∀ (pins : List (Addr × Obj)) (s : Shared), Inv X pins σ H s →
  wpAny (model X.prog X.w) X.A (forIn ifs true fun c r => if r = true then do let ok ← isTrue c X.env (eval c X.env); pure (ForInStep.yield ok) else pure (ForInStep.yield r)) (TP X pins σ Q) X.xe s
theorem pts_s {ifs : List Expr} : PTs X ifs (sTs X ifs) := ⟨fun pins s _ _ _ I h => h pins s I⟩
theorem sTs_nil {σ : St} {H : Hp} {Q : Bool → Hp → Prop} (h : Q true H) : sTs X [] σ H Q := fun pins s I => pts_nil.run pins s σ H Q I h
theorem sTs_one {c : Expr} {σ : St} {H : Hp} {Q : Bool → Hp → Prop} (h : sT X c σ H Q) : sTs X [c] σ H Q := fun pins s I => (pts_one pt_s).run pins s σ H Q I h
def bT (X : Cx) (scope : Scope) (ifs : List Expr) : TT := fun σ H Q => ∀ (s : Shared) (H0 : Hp) (C : Addr) (cl : List (Str × Addr)) (fp : List Addr), sTs (X.blk s H0 scope (compEnvC scope cl C X.env) fp) ifs σ H Q
def bE (X : Cx) (scope : Scope) (elt : Expr) : TE := fun σ H Q => ∀ (s : Shared) (H0 : Hp) (C : Addr) (cl : List (Str × Addr)) (fp : List Addr), sE (X.blk s H0 scope (compEnvC scope cl C X.env) fp) elt σ H Q
theorem W_lc {scope : Scope} {vs : List Nat} {τ : Tgt} {ifs : List Expr} (hx : Okx X N j) (hsub : ∀ i ∈ τ.slots, i ∈ vs) (h : AI X N j tg iter E (LcJ X N j scope vs τ ifs elt k)) : W X.K (tLc (sI X tg iter) (τ.rd X.K) (bT X scope ifs) (bE X scope elt) vs) E k := by
  intro c S σ H Q R post
  refine h hx c S σ H _ R fun J ds E1 S1 H1 hk R1 del => ?_
  obtain ⟨free, small, I, i0, step, done⟩ := hk
  intro L hL
  have nS : ¬ S1 L := fun s => by
    obtain ⟨xs, e⟩ := R1.lists L s
    rw [hL] at e
    cases e
  -- between two turns
  refine ⟨fun i m H' => m = ds.length - i ∧ i ≤ ds.length ∧ ∃ S' xs acc, Res X.K (Cx0.now S1 σ H1 E1) S' (L2.wipe σ vs) H' (wipeE E1 vs) ∧ H' L = some (.lst xs) ∧ DtAll X.K S' H' xs acc ∧ acc.length ≤ i ∧ ¬ S' L ∧ I i acc, ⟨_, rfl, Nat.zero_le _, S1, [], [], ?_, upd_same, .nil, Nat.le_refl _, nS, i0⟩, ?_⟩
  · exact ((R1.now).wipe free).laid hL
  have noL : ∀ {S' : Addr → Prop} {H' : Hp} {E' : List SD} {σ' : St}, Res X.K (Cx0.now S1 σ H1 E1) S' σ' H' E' → (∀ i a, Owned σ' E' i a → Owned σ E1 i a) → ∀ i, ¬ Owned σ' E' i L := fun R' f i o => (f i L o).tracked R1 hL
  rintro i m H' ⟨rfl, hi, S', xs, acc, R', hl, da, hacc, nS', inv⟩
  have wiped : ∀ i a, Owned (L2.wipe σ vs) (wipeE E1 vs) i a → Owned σ E1 i a := fun i a ⟨e, sd, e1, q⟩ => by
    have ni : i ∉ vs := (wipe_some e).2
    exact ⟨(wipe_some e).1, sd, by rw [← wipeE_get E1 ni]; exact e1, q⟩
  by_cases hlt : i < ds.length
  · obtain ⟨hgo, hyl⟩ := del.go i ds[i] (List.getElem?_eq_getElem hlt) S' _ H' _ R'
    obtain ⟨E2, hput, hblk⟩ := step i ds[i] acc (List.getElem?_eq_getElem hlt) inv
    refine .inr ⟨hgo, fun H2 => ∃ S2 ys acc2, Res X.K (Cx0.now S1 σ H1 E1) S2 (L2.wipe σ vs) H2 (wipeE E1 vs) ∧ H2 L = some (.lst ys) ∧ DtAll X.K S2 H2 ys acc2 ∧ acc2.length ≤ i + 1 ∧ ¬ S2 L ∧ I (i + 1) acc2, fun H2 ⟨S2, ys, acc2, z1, z2, z3, z4, z5, z6⟩ => ⟨ds.length - (i + 1), by omega, rfl, hlt, S2, ys, acc2, z1, z2, z3, z4, z5, z6⟩, fun x H2 y => ?_⟩
    obtain ⟨sm, R2, ev2, t⟩ := hyl x H2 y
    refine Tgt.take R2 t hput fun zs R3 => ⟨by rw [wipe_sets hsub, wipe_wipe], ?_⟩
    have eW := put_wipe hput hsub free
    have own2 : ∀ i a, Owned (setsV (L2.wipe σ vs) τ.slots zs) E2 i a → Owned σ E1 i a := fun i a ⟨e, sd, e1, q⟩ => by
      obtain ⟨_, p2, p3⟩ := put_spec hput
      by_cases hs : i ∈ τ.slots
      · obtain ⟨sd', e', n⟩ := p3 i hs
        rw [e1] at e'
        cases e'
        rw [q] at n
        cases n
      · rw [setsV_at hs] at e
        rw [p2 i hs] at e1
        exact wiped i a ⟨e, sd, e1, q⟩
    have hl2 : H2 L = some (.lst xs) := sm L _ hl
    have notIn : ∀ {S3 S5 : Addr → Prop} {H3 H5 : Hp} {σ3 σ5 : St} {E3 E5 : List SD}, H3 L = some (.lst xs) → ¬ S3 L → (∀ i, ¬ Owned σ3 E3 i L) → Res X.K (Cx0.now S3 σ3 H3 E3) S5 σ5 H5 E5 → ¬ S5 L := fun {S3 S5 H3 H5 σ3 σ5 E3 E5} h0 hS no R5 s => by
      rcases R5.frsh L s with z | ⟨i, z⟩ | z
      · exact hS z
      · exact no i z
      · have z' : H3 L = none := z
        rw [h0] at z'
        cases z'
    have endT : ∀ {S4 : Addr → Prop} {H4 : Hp}, Res X.K (Cx0.now S1 σ H1 E1) S4 (setsV (L2.wipe σ vs) τ.slots zs) H4 E2 → Res X.K (Cx0.now S1 σ H1 E1) S4 (L2.wipe σ vs) H4 (wipeE E1 vs) := fun {S4 H4} R4 => by
      have := R4.wipe eW.2
      rw [wipe_sets hsub, wipe_wipe, eW.1] at this
      exact this
    have noL2 : ∀ i, ¬ Owned (setsV (L2.wipe σ vs) τ.slots zs) E2 i L := fun i o => (own2 i L o).tracked R1 hL
    -- an element is put to the list
    have elem : ∀ {S3 : Addr → Prop} {H3 : Hp}, Res X.K (Cx0.now S1 σ H1 E1) S3 (setsV (L2.wipe σ vs) τ.slots zs) H3 E2 → H3 L = some (.lst xs) → DtAll X.K S3 H3 xs acc → ¬ S3 L →
        (Blk X scope fun Y => AE Y N j elt E2 fun r E4 => ∃ x, r.rel? = some x ∧ E4 = E2 ∧ I (i + 1) (acc ++ [x])) → bE X scope elt (setsV (L2.wipe σ vs) τ.slots zs) H3 fun y H4 => ∃ acc', H4 L = some (.lst acc') ∧ acc'.length < sizeLine ∧
          ∃ S2 ys acc2, Res X.K (Cx0.now S1 σ H1 E1) S2 (L2.wipe σ vs) (upd H4 L (.lst (acc' ++ [y]))) (wipeE E1 vs) ∧ (upd H4 L (.lst (acc' ++ [y]))) L = some (.lst ys) ∧ DtAll X.K S2 (upd H4 L (.lst (acc' ++ [y]))) ys acc2 ∧ acc2.length ≤ i + 1 ∧ ¬ S2 L ∧ I (i + 1) acc2 := fun {S3 H3} R3 h3 d3 n3 hb s H0 C cl fp => by
      refine hb s H0 C cl fp hx.blk (Cx0.now S3 _ H3 E2) S3 _ H3 _ R3.now fun y r E4 S4 H4 hk R4 T4 => ?_
      obtain ⟨x', hr, rfl, hI⟩ := hk
      have h4 : H4 L = some (.lst xs) := R4.keep L _ h3 fun ⟨i, o⟩ => noL2 i o
      have n4 : ¬ S4 L := notIn h3 n3 noL2 R4
      obtain ⟨S5, R5, ev5, t5⟩ := R4.release T4 hr
      have n5 : ¬ S5 L := notIn h3 n3 noL2 R5
      have d5 : DtAll X.K S5 H4 xs acc := (d3.evo (R3.evo R4)).evo ev5
      have f : (Cx0.now S1 σ H1 E1).M L ∨ (Cx0.now S1 σ H1 E1).H0 L = none := .inr hL
      have R6 := (R3.trans R5).other (ys := xs ++ [y]) h4 n5 noL2 f
      have ev6 : Evo X.K S5 H4 S5 (upd H4 L (.lst (xs ++ [y]))) := Evo.upd (fun u hu => by rw [h4] at hu; cases hu; exact ⟨_, rfl⟩) n5
      exact ⟨xs, h4, by rw [d3.length, sizeLine_eq]; omega, S5, xs ++ [y], acc ++ [x'], endT R6, upd_same, (d5.snoc t5).evo ev6, by rw [List.length_append]; show acc.length + 1 ≤ i + 1; omega, n5, hI⟩
    have da2 : DtAll X.K S' H2 xs acc := da.evo ev2
    match ifs, hblk with
    | [], hblk =>
      intro s H0 C cl fp
      refine sTs_nil ?_
      rw [if_pos rfl]
      exact elem R3 hl2 da2 nS' hblk
    | [cc], hblk =>
      intro s H0 C cl fp
      refine sTs_one ?_
      refine hblk s H0 C cl fp hx.blk (Cx0.now S' _ H2 E2) S' _ H2 _ R3.now fun b E3 S3 H3 hk R4 => ?_
      obtain ⟨rfl, hk⟩ := hk
      have h3 : H3 L = some (.lst xs) := R4.keep L _ hl2 fun ⟨i, o⟩ => noL2 i o
      have n3 : ¬ S3 L := notIn hl2 nS' noL2 R4
      have d3 : DtAll X.K S3 H3 xs acc := da2.evo (R3.evo R4)
      cases b with
      | true =>
        rw [if_pos rfl] at hk ⊢
        exact elem (R3.trans R4) h3 d3 n3 hk
      | false =>
        rw [if_neg Bool.false_ne_true] at hk ⊢
        exact ⟨S3, xs, acc, endT (R3.trans R4), h3, d3, by omega, n3, hk⟩
    | _ :: _ :: _, hblk => exact hblk.elim
  · have e : i = ds.length := by omega
    subst e
    refine .inl ⟨del.stop S' _ H' _ R', ?_⟩
    have R4 := R1.restore free R'
    refine post (.ref L) (.new acc) E1 S' H' (done acc inv) (R1.trans R4) ⟨L, xs, rfl, hl, da, nS', fun i o => o.tracked R1 hL, ?_⟩
    refine .inr ?_
    cases z : c.H0 L with
    | none => rfl
    | some u =>
      obtain ⟨w, y⟩ := R1.there L u z
      rw [hL] at y
      cases y
theorem AE_lc {sc scope : Scope} {own : List (Str × Nat)} {τ : Tgt} {ifs : List Expr} (ok : BlkOk N sc scope own) (hsub : ∀ i ∈ τ.slots, i ∈ own.map (·.2)) (hτ : Blk X scope fun Y => TgOk Y N j tg τ) (h : AI X N j tg iter E (LcJ X N j scope (own.map (·.2)) τ ifs elt k))
    (hs : ∀ x, foldedSetIterable iter X.env x = pure x := by intro _; rfl) (hsc : sc = X.env.scope := by rfl) : AE X N j (.ListComp elt [⟨tg, iter, ifs, 0⟩] scope pos) E k := fun hx => by
  have p : PE X (.ListComp elt [⟨tg, iter, ifs, 0⟩] scope pos) (tLc (sI X tg iter) (τ.rd X.K) (bT X scope ifs) (bE X scope elt) (own.map (·.2))) :=
    pe_lc hx.calm (by rw [hx.names]; exact hx.nd) pi_s (by rw [hx.names, ← hsc]; exact ok) (fun s H C cl fp => hτ s H C cl fp hx.blk)
      (fun s H C cl fp => ⟨fun pins s' σ H' Q I h => pts_s.run pins s' σ H' Q I (h s H C cl fp)⟩) (fun s H C cl fp => ⟨fun pins s' σ H' Q I h => pe_s.run pins s' σ H' Q I (h s H C cl fp)⟩) hs
  exact fun c S σ H Q R post => sE_of p (W_lc hx hsub h c S σ H Q R post)
theorem AS_setLc {i : Nat} {y : Str} {py spos : Pos} {sc scope : Scope} {own : List (Str × Nat)} {τ : Tgt} {ifs : List Expr} (hi : IxOf N y i) (hyl : X.env.scope.names.lookup y = some .local) (hsw : swapsWith (.ListComp elt [⟨tg, iter, ifs, 0⟩] scope pos) (some (.Name y py)) spos.line X.env = pure true)
    (ok : BlkOk N sc scope own) (hsub : ∀ i ∈ τ.slots, i ∈ own.map (·.2)) (hτ : Blk X scope fun Y => TgOk Y N j tg τ)
    (h : AI X N j tg iter E (LcJ X N j scope (own.map (·.2)) τ ifs elt fun r E1 => ∃ sd0 sd, E1[i]? = some sd0 ∧ sd0.isOwn = false ∧ Stores r sd ∧ nx (E1.set i sd)))
    (hs : ∀ x, foldedSetIterable iter X.env x = pure x := by intro _; rfl) (hsc : sc = X.env.scope := by rfl) : AS X N j (.Assign [.Name y py] (.ListComp elt [⟨tg, iter, ifs, 0⟩] scope pos) spos) E nx rt bk ct := fun hx c S σ H D' R L => by
  have p : PS X (.Assign [.Name y py] (.ListComp elt [⟨tg, iter, ifs, 0⟩] scope pos) spos) (tAsg (tLc (sI X tg iter) (τ.rd X.K) (bT X scope ifs) (bE X scope elt) (own.map (·.2))) (gName i)) :=
    ps_setLc hx.calm (by rw [hx.names]; exact hx.nd) (by rw [hx.names]; exact hi.get) hyl hsw pi_s (by rw [hx.names, ← hsc]; exact ok) (fun s H C cl fp => hτ s H C cl fp hx.blk)
      (fun s H C cl fp => ⟨fun pins s' σ H' Q I h => pts_s.run pins s' σ H' Q I (h s H C cl fp)⟩) (fun s H C cl fp => ⟨fun pins s' σ H' Q I h => pe_s.run pins s' σ H' Q I (h s H C cl fp)⟩) hs
  refine sS_of p ?_
  show tLc (sI X tg iter) (τ.rd X.K) (bT X scope ifs) (bE X scope elt) (own.map (·.2)) σ H fun x H1 => D'.nx (σ.set i (some x)) H1
  refine (W_lc hx hsub h).bind R fun x r E1 S1 H1 hk _ R1 T1 => ?_
  obtain ⟨sd0, sd, h0, n0, s, q⟩ := hk
  obtain ⟨S2, R2⟩ := R1.store T1 h0 n0 s
  exact L.nx _ S2 _ H1 q R2

/-! ### targets -/
theorem tg_one {x : Str} {i : Nat} (hi : IxOf N x i) (hl : Loc X.env.scope x) (hf : X.fn x = true ∨ X.env.scope.names.lookup x = some .local := by first | exact .inl rfl | exact .inr rfl) : TgOk X N j (.Name x pos) (.one i) := fun hx =>
  pg_name (by rw [hx.names]; exact hx.nd) (by rw [hx.names]; exact hi.get) hl hf
def TgsOk (X : Cx) (N : List Str) (j : Nat) (es : List Expr) (is : List Nat) : Prop := Okx X N j → PGs X es (gNames is)
theorem tgs_nil : TgsOk X N j [] [] := fun _ => pgs_nil
theorem tgs_cons {x : Str} {i : Nat} {es : List Expr} {is : List Nat} (hi : IxOf N x i) (hl : Loc X.env.scope x) (h : TgsOk X N j es is) (hf : X.fn x = true ∨ X.env.scope.names.lookup x = some .local := by first | exact .inl rfl | exact .inr rfl)
    (hs : (assignEach (.Name x pos :: es) X.env).map (·.2) = assign (.Name x pos) X.env :: (assignEach es X.env).map (·.2) := by rfl) : TgsOk X N j (.Name x pos :: es) (i :: is) := fun hx =>
  pgs_cons (pg_name (by rw [hx.names]; exact hx.nd) (by rw [hx.names]; exact hi.get) hl hf) (h hx) hs
theorem tg_many {es : List Expr} {is : List Nat} {kk : Nat} (h : TgsOk X N j es is) (hn : (assignEach es X.env).length = is.length := by rfl) (hst : (assignEach es X.env).findIdx? (·.1) = none := by rfl) : TgOk X N j (.Tuple es kk pos) (.many is) := fun hx => pg_tup hx.calm (h hx) hn hst

/-! ### defs -/
abbrev ASpec := List SD → (RD → Prop) → Prop
/-- a def's promise over data: the arguments are data or a source of draws -/
def mkSp (K : PySem.W.Frag) (A : ASpec) : Sp := fun vs H Q _ => ∃ (S : Addr → Prop) (Ds : List SD) (post : RD → Prop), A Ds post ∧ Res K (Cx0.now S (vs.map some) H Ds) S (vs.map some) H Ds ∧
  ∀ v r S' H', post r → Res K (Cx0.now S (vs.map some) H Ds) S' (vs.map some) H' Ds → RelT K (Cx0.now S (vs.map some) H Ds) S' (vs.map some) Ds H' v r → Q v H'
def RD.plain : RD → Bool
  | .al _ => false
  | _ => true
def SD.plain : SD → Bool
  | .dat _ => true
  | .drw => true
  | _ => false
/-- behind a def's body: its arguments again -/
theorem Res.args {K : PySem.W.Frag} {c0 : Cx0} {S S' : Addr → Prop} {σ σ' : St} {H H' : Hp} {Ds E' : List SD} (R : Res K c0 S σ H Ds) (R' : Res K (Cx0.now S σ H Ds) S' σ' H' E') (hp : ∀ sd ∈ Ds, sd.plain = true) : Res K (Cx0.now S σ H Ds) S' σ H' Ds ∧ ∀ i a, Owned σ Ds i a → Owned σ' E' i a := by
  have o : ∀ i a, Owned σ Ds i a → σ'[i]? = some (some (.ref a)) ∧ E'[i]? = some .drw := fun i a ⟨e, sd, h, q⟩ => by
    have hd := hp sd (List.mem_of_getElem? h)
    cases sd with
    | drw => exact R'.par i a (drwAt_of e h)
    | dat d => cases q
    | na => cases q
    | own ds => cases hd
  have o' : ∀ i a, Owned σ Ds i a → Owned σ' E' i a := fun i a w => ⟨(o i a w).1, _, (o i a w).2, rfl⟩
  refine ⟨⟨R.len, fun i sd h => ?_, R.inj, fun i a w => R'.sep i a (o' i a w), R'.keep, R'.there, fun i a w => .inl ⟨i, w⟩, R'.grow, R'.frsh, R'.lists, fun i a h => of_drwAt h⟩, o'⟩
  have hd := hp sd (List.mem_of_getElem? h)
  cases sd with
  | na => exact trivial
  | own ds => cases hd
  | dat d => exact RelS.evo (R.evo R') (fun z => by cases z) (R.rel i _ h)
  | drw =>
    obtain ⟨a, xs, ds, e1, e2, q, dd⟩ := R.rel i _ h
    have e : σ[i]? = some (some (.ref a)) := by
      cases z : σ[i]? with
      | none => rw [z] at e1; cases e1
      | some y =>
        rw [z] at e1
        have e1' : y = some (.ref a) := e1
        rw [e1']
    obtain ⟨f1, f2⟩ := o i a ⟨e, _, h, rfl⟩
    have r := R'.rel i _ f2
    rw [f1] at r
    rw [e]
    exact r
theorem Res.pad {K : PySem.W.Frag} {c : Cx0} {S : Addr → Prop} {σ : St} {H : Hp} {Ds : List SD} (R : Res K c S σ H Ds) (n : Nat) : Res K c S (σ ++ List.replicate n none) H (Ds ++ List.replicate n .na) := by
  have hl := R.len
  have o : ∀ i a, Owned (σ ++ List.replicate n none) (Ds ++ List.replicate n .na) i a → Owned σ Ds i a := fun i a ⟨e, sd, h, q⟩ => by
    by_cases hi : i < Ds.length
    · rw [List.getElem?_append_left (by omega)] at e
      rw [List.getElem?_append_left hi] at h
      exact ⟨e, sd, h, q⟩
    · rw [List.getElem?_append_right (by omega), List.getElem?_replicate] at h
      split at h
      · cases h; cases q
      · cases h
  refine ⟨by rw [List.length_append, List.length_append, List.length_replicate, List.length_replicate, hl], fun i sd h => ?_, fun i k a w w' => R.inj i k a (o i a w) (o k a w'), fun i a w => R.sep i a (o i a w), R.keep, R.there, fun i a w => R.own i a (o i a w), R.grow, R.frsh, R.lists, fun i a h => ?_⟩
  · by_cases hi : i < Ds.length
    · rw [List.getElem?_append_left hi] at h
      rw [List.getElem?_append_left (by omega)]
      exact R.rel i sd h
    · rw [List.getElem?_append_right (by omega), List.getElem?_replicate] at h
      split at h
      · cases h; exact trivial
      · cases h
  · obtain ⟨e1, e2⟩ := R.par i a h
    have h1 := (List.getElem?_eq_some_iff.mp e1).1
    have h2 := (List.getElem?_eq_some_iff.mp e2).1
    rw [List.getElem?_append_left h1, List.getElem?_append_left h2]
    exact ⟨e1, e2⟩
/-- THE RULE for a def over data -/
theorem fn_ok {P : Program} {w : World} {K : PySem.W.Frag} {mg : Str → Option Value} {base : Heap} {x qual : Str} {st : Stmt} {f : Addr} {fd : FuncData} {N ps : List Str} {k : Nat} {A : ASpec} (F : Fun K x qual st f fd) (sc : FnScope N ps (defScope st)) (bi : Bi mg)
    (hA : ∀ Ds post, A Ds post → Ds.length = ps.length ∧ ∀ sd ∈ Ds, sd.plain = true)
    (hbody : ∀ (cdv : Value) (A' : Around) (outer : List Env) (s : Shared) (H : Hp) (E : XK) (Ds : List SD) (post : RD → Prop), A Ds post →
      ASs (cxOf CX0 P w K mg base N qual (defScope st) f cdv A' outer s H E).nox N k (defBody st) (Ds ++ List.replicate (N.length - ps.length) .na) (fun _ => post (.dat .none)) (fun r _ => r.plain = true ∧ post r) (fun _ => False) (fun _ => False)) : FnOk P w K mg base CX0 (k + 1) f fd ps (mkSp K A) := by
  refine F.ok sc (fun vs H Q E h => ?_) (fun cdv A' outer s H vs Q E hr h => ?_)
  · obtain ⟨S, Ds, post, ha, R, _⟩ := h
    have := R.len
    rw [List.length_map, (hA Ds post ha).1] at this
    exact this
  · obtain ⟨S, Ds, post, ha, R, q⟩ := h
    obtain ⟨hl, hp⟩ := hA Ds post ha
    have hlen : vs.length = ps.length := by
      have := R.len
      rw [List.length_map, hl] at this
      exact this
    refine ⟨_, pss_s, ?_⟩
    have R1 := R.pad (N.length - ps.length)
    have hx : Okx (cxOf CX0 P w K mg base N qual (defScope st) f cdv A' outer s H E).nox N k := ⟨rfl, sc.nd, rfl, hr, PassesOwn.never, bi⟩
    have es : L2.start N vs = vs.map some ++ List.replicate (N.length - ps.length) none := by
      unfold L2.start
      rw [hlen]
    rw [es]
    refine hbody cdv A' outer s H E Ds post ha hx _ S _ H _ R1 ⟨fun E' S' σ' H' z R' => ?_, fun v r E' S' σ' H' z R' T => ?_, fun _ _ _ _ z => z.elim, fun _ _ _ _ z => z.elim⟩
    · exact q .non (.dat .none) S' H' z (R.args R' hp).1 .non
    · obtain ⟨R2, o⟩ := R.args R' hp
      refine q v r S' H' z.2 R2 ?_
      cases r with
      | dat d => exact T
      | al i => cases z.1
      | new ds =>
        obtain ⟨l, xs, rfl, hl, da, ns, no, f⟩ := T
        exact ⟨l, xs, rfl, hl, da, ns, fun i w => no i (o i l w), f⟩
/-- the arguments of a call: data; the first may be a source of draws -/
def argD : RD → Option SD
  | .dat d => some (.dat d)
  | _ => none
def argsD : List RD → Option (List SD)
  | [] => some []
  | .dat d :: rs => match argsD rs with
    | some es => some (.dat d :: es)
    | none => none
  | _ => none
def argsOf (E : List SD) : List RD → Option (List SD)
  | .al i :: rs => match E[i]? with
    | some .drw => match argsD rs with
      | some es => some (.drw :: es)
      | none => none
    | _ => none
  | rs => argsD rs
theorem argsD_rel {K : PySem.W.Frag} {c : Cx0} {S : Addr → Prop} {σ : St} {H : Hp} {E : List SD} : ∀ {vs : List V} {rs : List RD} {Ds : List SD}, Paired (RelT K c S σ E H) vs rs → argsD rs = some Ds → vs.length = Ds.length ∧ (∀ (i : Nat) (sd : SD), Ds[i]? = some sd → ∃ d v, sd = .dat d ∧ vs[i]? = some v ∧ Dt K S H v d)
  | _, _, _, .nil, e => by
    cases e
    exact ⟨rfl, fun i sd h => by simp at h⟩
  | _, .new _ :: rs, Ds, .cons t q, e => by cases e
  | _, .al _ :: rs, Ds, .cons t q, e => by cases e
  | v :: vs, .dat d :: rs, Ds, .cons t q, e => by
    unfold argsD at e
    cases z : argsD rs with
    | none => rw [z] at e; cases e
    | some es =>
      rw [z] at e
      cases e
      obtain ⟨h1, h2⟩ := argsD_rel q z
      refine ⟨by rw [List.length_cons, List.length_cons, h1], fun i sd h => ?_⟩
      cases i with
      | zero =>
        cases h
        exact ⟨d, v, rfl, rfl, t⟩
      | succ i => exact h2 i sd h
/-- what a callee is handed -/
structure Handed (K : PySem.W.Frag) (S : Addr → Prop) (σ : St) (H : Hp) (E : List SD) (vs : List V) (Ds : List SD) : Prop where
  res : Res K (Cx0.now S (vs.map some) H Ds) S (vs.map some) H Ds
  plain : ∀ sd ∈ Ds, sd.plain = true
  own : ∀ i a, Owned (vs.map some) Ds i a → i = 0 ∧ ∃ k, Owned σ E k a ∧ E[k]? = some .drw
theorem Res.hand {K : PySem.W.Frag} {c : Cx0} {S : Addr → Prop} {σ : St} {H : Hp} {E : List SD} {vs : List V} {rs : List RD} {Ds : List SD} (R : Res K c S σ H E) (T : Paired (RelT K c S σ E H) vs rs) (e : argsOf E rs = some Ds) : Handed K S σ H E vs Ds := by
  have mk : ∀ {vs : List V} {Ds : List SD}, vs.length = Ds.length → (∀ (i : Nat) (sd : SD), Ds[i]? = some sd → RelS K S H ((vs.map some)[i]?.join) sd) → (∀ sd ∈ Ds, sd.plain = true) → (∀ i a, Owned (vs.map some) Ds i a → i = 0 ∧ ∃ k, Owned σ E k a ∧ E[k]? = some .drw) → Handed K S σ H E vs Ds := fun {vs Ds} hl hr hp ho =>
    ⟨⟨by rw [List.length_map, hl], hr, fun i k a w w' => by rw [(ho i a w).1, (ho k a w').1], fun i a w => by
      obtain ⟨_, k, z, _⟩ := ho i a w
      exact R.sep k a z, fun _ _ h _ => h, fun _ o h => ⟨o, h⟩, fun i a w => .inl ⟨i, w⟩, fun _ h => h, fun _ h => .inl h, R.lists, fun i a h => of_drwAt h⟩, hp, ho⟩
  have dats : ∀ {vs : List V} {rs : List RD} {Ds : List SD}, Paired (RelT K c S σ E H) vs rs → argsD rs = some Ds → (∀ (i : Nat) (sd : SD), Ds[i]? = some sd → RelS K S H ((vs.map some)[i]?.join) sd) ∧ (∀ sd ∈ Ds, ∃ d, sd = .dat d) := fun {vs rs Ds} T e => by
    obtain ⟨h1, h2⟩ := argsD_rel T e
    refine ⟨fun i sd h => ?_, fun sd h => ?_⟩
    · obtain ⟨d, v, rfl, hv, t⟩ := h2 i sd h
      rw [List.getElem?_map, hv]
      exact ⟨v, rfl, t⟩
    · obtain ⟨i, hi⟩ := List.mem_iff_getElem?.mp h
      obtain ⟨d, _, e, _⟩ := h2 i sd hi
      exact ⟨d, e⟩
  have plainAll : ∀ {Ds : List SD}, (∀ sd ∈ Ds, ∃ d, sd = .dat d) → ∀ sd ∈ Ds, sd.plain = true := fun {Ds} h sd q => by
    obtain ⟨d, rfl⟩ := h sd q
    rfl
  have noOwn : ∀ {vs : List V} {Ds : List SD}, (∀ sd ∈ Ds, ∃ d, sd = .dat d) → ∀ i a, ¬ Owned (vs.map some) Ds i a := fun {vs Ds} h i a ⟨_, sd, e, q⟩ => by
    obtain ⟨d, rfl⟩ := h sd (List.mem_of_getElem? e)
    cases q
  cases T with
  | nil =>
    cases e
    exact mk rfl (fun i sd h => by simp at h) (fun sd h => nomatch h) fun i a ⟨_, sd, h, _⟩ => by simp at h
  | cons t T =>
    rename_i v r vs rs
    cases r with
    | new ds => cases e
    | dat d =>
      obtain ⟨h1, h2⟩ := dats (.cons t T) e
      exact mk (argsD_rel (.cons t T) e).1 h1 (plainAll h2) fun i a w => absurd w (noOwn h2 i a)
    | al k =>
      unfold argsOf at e
      dsimp only at e
      cases z : E[k]? with
      | none => rw [z] at e; cases e
      | some sd =>
        cases sd with
        | drw =>
          rw [z] at e
          dsimp only at e
          cases y : argsD rs with
          | none => rw [y] at e; cases e
          | some es =>
            rw [y] at e
            cases e
            obtain ⟨h1, h2⟩ := dats T y
            have hk : σ[k]? = some (some v) := t
            refine mk ?_ (fun i sd h => ?_) (fun sd h => ?_) fun i a w => ?_
            · rw [List.length_cons, List.length_cons, (argsD_rel T y).1]
            · cases i with
              | zero =>
                cases h
                have rel := R.rel k _ z
                rw [hk] at rel
                exact rel
              | succ i => exact h1 i sd h
            · rcases List.mem_cons.mp h with rfl | h
              · rfl
              · exact plainAll h2 sd h
            · obtain ⟨e1, sd, e2, q⟩ := w
              cases i with
              | zero =>
                have e1' : some (some v) = some (some (V.ref a)) := e1
                cases e1'
                exact ⟨rfl, k, ⟨hk, _, z, rfl⟩, z⟩
              | succ i => exact absurd ⟨e1, sd, e2, q⟩ (noOwn (vs := vs) h2 i a)
        | _ => rw [z] at e; cases e
/-- behind a call -/
theorem Handed.back {K : PySem.W.Frag} {c : Cx0} {S S' : Addr → Prop} {σ : St} {H H' : Hp} {E : List SD} {vs : List V} {Ds : List SD} {v : V} {r : RD} (R : Res K c S σ H E) (h : Handed K S σ H E vs Ds) (R' : Res K (Cx0.now S (vs.map some) H Ds) S' (vs.map some) H' Ds)
    (T : RelT K (Cx0.now S (vs.map some) H Ds) S' (vs.map some) Ds H' v r) (hr : r.plain = true) : Res K c S' σ H' E ∧ RelT K c S' σ E H' v r := by
  have ev := h.res.evo R'
  have sub : ∀ a, (∃ i, Owned (vs.map some) Ds i a) → ∃ i, Owned σ E i a := fun a ⟨i, w⟩ => by
    obtain ⟨_, k, z, _⟩ := h.own i a w
    exact ⟨k, z⟩
  have trk : ∀ {i a}, Owned σ E i a → H a ≠ none := fun w => w.tracked R
  have R1 : Res K (Cx0.now S σ H E) S' σ H' E := by
    refine ⟨R.len, fun i sd e => ?_, R.inj, fun i a w s => ?_, fun b o e m => R'.keep b o e fun q => m (sub b q), R'.there, fun i a w => .inl ⟨i, w⟩, R'.grow, fun a s => ?_, R'.lists, fun i a q => of_drwAt q⟩
    · have rl := R.rel i sd e
      by_cases ho : sd.isOwn = true
      · have hw : ∃ a, (σ[i]?).join = some (.ref a) := by
          cases sd with
          | na => cases ho
          | dat d => cases ho
          | own ds => obtain ⟨a, _, z, _⟩ := rl; exact ⟨a, z⟩
          | drw => obtain ⟨a, _, _, z, _⟩ := rl; exact ⟨a, z⟩
        obtain ⟨a, hw⟩ := hw
        have hs : σ[i]? = some (some (.ref a)) := by
          cases z : σ[i]? with
          | none => rw [z] at hw; cases hw
          | some y =>
            rw [z] at hw
            have hw' : y = some (.ref a) := hw
            rw [hw']
        have w : Owned σ E i a := ⟨hs, sd, e, ho⟩
        by_cases hd : ∃ p, Owned (vs.map some) Ds p a
        · obtain ⟨p, hp⟩ := hd
          obtain ⟨rfl, k, wk, ek⟩ := h.own p a hp
          have : i = k := R.inj i k a w wk
          subst this
          rw [e] at ek
          cases ek
          obtain ⟨e1, sd', e2, q⟩ := hp
          have hpl := h.plain sd' (List.mem_of_getElem? e2)
          cases sd' with
          | drw =>
            have rr := R'.rel 0 _ e2
            rw [e1] at rr
            rw [hs]
            exact rr
          | dat d => cases q
          | na => cases q
          | own ds => cases hpl
        · refine RelS.evo ev (fun _ b u z1 z2 => ?_) rl
          rw [hw] at z1
          cases z1
          exact R'.keep a u z2 hd
      · have ho' : sd.isOwn = false := by simpa using ho
        exact RelS.evo ev (fun z => absurd z ho) rl
    · rcases R'.frsh a s with z | ⟨p, z⟩ | z
      · exact R.sep i a w z
      · exact R'.sep p a z s
      · have z' : H a = none := z
        exact trk w z'
    · rcases R'.frsh a s with z | z | z
      · exact .inl z
      · exact .inr (.inl (sub a z))
      · exact .inr (.inr z)
  refine ⟨R.trans R1, RelT.back R ?_⟩
  cases r with
  | dat d => exact T
  | al i => cases hr
  | new ds =>
    obtain ⟨l, xs, rfl, hl, da, ns, no, f⟩ := T
    rcases f with ⟨p, f⟩ | f
    · exact absurd f (no p)
    · have f' : H l = none := f
      exact ⟨l, xs, rfl, hl, da, ns, fun i w => trk w f', .inr f⟩
/-- a def over data is called -/
def CallD (A : ASpec) (k : EK) (E : List SD) (rs : List RD) : Prop := ∃ Ds, argsOf E rs = some Ds ∧ A Ds fun r => r.plain = true ∧ k r E
theorem CallD.mk {A : ASpec} {k : EK} {E : List SD} {rs : List RD} {Ds : List SD} (h : argsOf E rs = some Ds) (q : A Ds fun r => r.plain = true ∧ k r E) : CallD A k E rs := ⟨Ds, h, q⟩
theorem AE_call {x : Str} {k0 : Nat} {A : ASpec} {es : List Expr} (c : C8.Cal X.prog X.w X.K X.mg X.base k0 x (mkSp X.K A) []) (hk : k0 ≤ j) (hg : Gl X x) (h : AA X N j (a :: es) E fun rs E1 => CallD A k E1 rs)
    (hdb : (x == ("__debug__" : Str)) = false := by decide) (he : starEach (a :: es) X.env = (false, eval a X.env) :: starEach es X.env := by rfl) (hpl : (backTo pos (starEach es X.env)).any (·.1) = false := by rfl) : AE X N j (.Call (.Name x p) (a :: es) [] pos) E k := fun hx c0 S σ H Q R post => by
  refine sE_of (C8.pe_c c hx.room hk hg pa_s hdb he hpl) ?_
  show sA X (a :: es) σ H fun vs H1 => mkSp X.K A (vs ++ []) H1 Q E0
  refine (h hx).bind R fun vs rs E1 S1 H1 hk1 _ R1 T1 => ?_
  obtain ⟨Ds, e, hA⟩ := hk1
  rw [List.append_nil]
  have hd := R1.hand T1 e
  refine ⟨S1, Ds, _, hA, hd.res, fun v r S' H' hp R' T => ?_⟩
  obtain ⟨R2, T2⟩ := Handed.back R1 hd R' T hp.1
  exact post v r E1 S' H' hp.2 R2 T2
end

/-! Draws, films: the data of the laws. -/

def ATake : ASpec := fun Ds post => ∃ many : Int, Ds = [.drw, .dat (.int many)] ∧ (0 < many ∧ many < 1073741824) ∧ ∀ r, 0 ≤ r → r < many → post (.dat (.int r))
def APick : ASpec := fun Ds post => ∃ ms : List PyData, Ds = [.drw, .dat (.list ms)] ∧ (ms ≠ [] ∧ ms.length ≤ 1000) ∧ ∀ d ∈ ms, post (.dat d)
theorem atI_some {α : Type} {xs : List α} {i : Int} (h0 : 0 ≤ i) (h1 : i < xs.length) : ∃ d, atI xs i = some d ∧ xs[i.toNat]? = some d ∧ d ∈ xs := by
  have h : i.toNat < xs.length := by omega
  refine ⟨xs[i.toNat], ?_, List.getElem?_eq_getElem h, List.getElem_mem h⟩
  have := atI_nat (xs := xs) (j := i.toNat) (List.getElem?_eq_getElem h)
  rw [show ((i.toNat : Nat) : Int) = i by omega] at this
  exact this
theorem rgD_get {a b : Int} {i : Nat} {d : PyData} (h : (rgD a b)[i]? = some d) : d = .int (a + i) ∧ (i : Int) < b - a := by
  unfold rgD at h
  rw [List.getElem?_map] at h
  cases z : (List.range (b - a).toNat)[i]? with
  | none => rw [z] at h; cases h
  | some u =>
    have hi := (List.getElem?_eq_some_iff.mp z).1
    rw [List.length_range] at hi
    rw [List.getElem?_range hi] at z
    cases z
    rw [List.getElem?_range hi] at h
    cases h
    exact ⟨rfl, by omega⟩
theorem rgD_length (a b : Int) : (rgD a b).length = (b - a).toNat := by
  unfold rgD
  rw [List.length_map, List.length_range]
section
variable {X : Cx} {N : List Str} {j : Nat} {E : List SD} {k : EK} {a : Expr} {es : List Expr} {p pos : Pos}
theorem AE_take {x : Str} {k0 : Nat} (c : C8.Cal X.prog X.w X.K X.mg X.base k0 x (mkSp X.K ATake) []) (hk : k0 ≤ j) (hg : Gl X x) (h : AA X N j (a :: es) E fun rs E1 => ∃ many, argsOf E1 rs = some [.drw, .dat (.int many)] ∧ (0 < many ∧ many < 1073741824) ∧ ∀ r, 0 ≤ r → r < many → k (.dat (.int r)) E1)
    (hdb : (x == ("__debug__" : Str)) = false := by decide) (he : starEach (a :: es) X.env = (false, eval a X.env) :: starEach es X.env := by rfl) (hpl : (backTo pos (starEach es X.env)).any (·.1) = false := by rfl) : AE X N j (.Call (.Name x p) (a :: es) [] pos) E k :=
  AE_call c hk hg (h.imp fun rs E1 ⟨many, e, b, q⟩ => ⟨_, e, many, rfl, b, fun r h0 h1 => ⟨rfl, q r h0 h1⟩⟩) hdb he hpl
theorem AE_pick {x : Str} {k0 : Nat} (c : C8.Cal X.prog X.w X.K X.mg X.base k0 x (mkSp X.K APick) []) (hk : k0 ≤ j) (hg : Gl X x) (h : AA X N j (a :: es) E fun rs E1 => ∃ ms, argsOf E1 rs = some [.drw, .dat (.list ms)] ∧ (ms ≠ [] ∧ ms.length ≤ 1000) ∧ ∀ d ∈ ms, k (.dat d) E1)
    (hdb : (x == ("__debug__" : Str)) = false := by decide) (he : starEach (a :: es) X.env = (false, eval a X.env) :: starEach es X.env := by rfl) (hpl : (backTo pos (starEach es X.env)).any (·.1) = false := by rfl) : AE X N j (.Call (.Name x p) (a :: es) [] pos) E k :=
  AE_call c hk hg (h.imp fun rs E1 ⟨ms, e, b, q⟩ => ⟨_, e, ms, rfl, b, fun d hd => ⟨rfl, q d hd⟩⟩) hdb he hpl
end

/-! ### the source of draws, in the heap -/
structure DrawAt (H : Hp) (p c : Addr) (ns : List Int) (i b s : Int) : Prop where
  at_ : H p = some (.lst [.ref c, .int i, .int b, .int s])
  cells : H c = some (.lst (ns.map V.int))
  ne : c ≠ p
  i0 : 0 ≤ i
  b0 : 0 ≤ b
  s0 : 0 ≤ s
  s1 : s < 2147483647
theorem DrawAt.upd {H : Hp} {p c : Addr} {ns : List Int} {i b s i' b' s' : Int} (D : DrawAt H p c ns i b s) (h1 : 0 ≤ i') (h2 : 0 ≤ b') (h3 : 0 ≤ s') (h4 : s' < 2147483647) {H' : Hp} (e : H' = L2.upd H p (.lst [.ref c, .int i', .int b', .int s'])) : DrawAt H' p c ns i' b' s' :=
  ⟨by rw [e]; exact upd_same, by rw [e, upd_ne D.ne]; exact D.cells, D.ne, h1, h2, h3, h4⟩
/-- the draw that stands in slot 0 -/
theorem drw_open {K : PySem.W.Frag} {c0 : Cx0} {S : Addr → Prop} {σ : St} {H : Hp} {E : List SD} {i : Nat} (R : Res K c0 S σ H E) (h : E[i]? = some .drw) : ∃ p c ns n b s, σ[i]? = some (some (.ref p)) ∧ DrawAt H p c ns n b s ∧ S c := by
  obtain ⟨a, xs, ds, e1, e2, q, ns, n, b, s, rfl, h0, h1, h2, h3⟩ := R.rel i _ h
  have e : σ[i]? = some (some (.ref a)) := by
    cases z : σ[i]? with
    | none => rw [z] at e1; cases e1
    | some y =>
      rw [z] at e1
      have e1' : y = some (.ref a) := e1
      rw [e1']
  cases q with
  | cons q0 q =>
    cases q with
    | cons q1 q =>
      cases q with
      | cons q2 q =>
        cases q with
        | cons q3 q =>
          cases q
          cases q1
          cases q2
          cases q3
          cases q0 with
          | lst sc hc dc =>
            rename_i c ys
            obtain rfl := dc.ints
            refine ⟨a, c, ns, n, b, s, e, ⟨e2, hc, ?_, h0, h1, h2, h3⟩, sc⟩
            rintro rfl
            exact R.sep i c ⟨e, _, h, rfl⟩ sc
/-- the draw of slot i has gone on -/
theorem drw_close {K : PySem.W.Frag} {c0 : Cx0} {S : Addr → Prop} {σ : St} {H : Hp} {E : List SD} {i : Nat} {p c : Addr} {ns : List Int} {n b s : Int} (R : Res K c0 S σ H E) (h : E[i]? = some .drw) (hp : σ[i]? = some (some (.ref p))) (sc : S c) (hc : H c = some (.lst (ns.map V.int)))
    (h0 : 0 ≤ n) (h1 : 0 ≤ b) (h2 : 0 ≤ s) (h3 : s < 2147483647) : Res K c0 S σ (upd H p (.lst [.ref c, .int n, .int b, .int s])) E := by
  have o : Owned σ E i p := ⟨hp, _, h, rfl⟩
  obtain ⟨xs0, hx0⟩ := R.ownLst o
  have ev : Evo K S H S (upd H p (.lst [.ref c, .int n, .int b, .int s])) := Evo.upd (fun u hu => by rw [hx0] at hu; cases hu; exact ⟨_, rfl⟩) (R.sep i p o)
  refine ⟨R.len, fun k sd e => ?_, R.inj, R.sep, fun b' u e m => ?_, fun b' u e => ?_, R.own, R.grow, R.frsh, fun b' s' => ?_, R.par⟩
  · by_cases hk : k = i
    · subst hk
      rw [h] at e
      cases e
      rw [hp]
      have d : Dt K S H (.ref c) (.list (ns.map .int)) := .lst sc hc (DtAll.of_ints ns)
      exact ⟨p, _, [.list (ns.map .int), .int n, .int b, .int s], rfl, upd_same, .cons (d.evo ev) (.cons (.int _) (.cons (.int _) (.cons (.int _) .nil))), ns, n, b, s, rfl, h0, h1, h2, h3⟩
    · refine RelS.evo ev (fun w a u e1 e2 => ?_) (R.rel k sd e)
      have oa : Owned σ E k a := by
        refine ⟨?_, sd, e, w⟩
        cases z : σ[k]? with
        | none => rw [z] at e1; cases e1
        | some y =>
          rw [z] at e1
          have e1' : y = some (.ref a) := e1
          rw [e1']
      rw [upd_ne]
      · exact e2
      · rintro rfl
        exact hk (R.inj k i a oa o)
  · rw [upd_ne]
    · exact R.keep b' u e m
    · rintro rfl
      rcases R.own i b' o with z | z
      · exact m z
      · rw [e] at z; cases z
  · by_cases hb : b' = p
    · subst hb; exact ⟨_, upd_same⟩
    · obtain ⟨w, e'⟩ := R.there b' u e
      exact ⟨w, by rw [upd_ne hb]; exact e'⟩
  · obtain ⟨xs, e⟩ := R.lists b' s'
    refine ⟨xs, ?_⟩
    rw [upd_ne]
    · exact e
    · rintro rfl
      exact R.sep i b' o s'

/-! ### films -/
theorem rgD_get0 {n : Int} {i : Nat} {d : PyData} (h : (rgD 0 n)[i]? = some d) : d = .int (i : Int) ∧ (i : Int) < n := by
  obtain ⟨e, l⟩ := rgD_get h
  rw [Int.zero_add] at e
  exact ⟨e, by omega⟩
def cName (c : Str) (k : Nat) : Str := c ++ Str.ofString (toString (k : Int))
def prsD (c : Str) (bs : List Bool) : List PyData := bs.mapIdx fun k b => .tuple [.str (cName c k), .bool b]
theorem prsD_snoc (c : Str) (bs : List Bool) (b : Bool) : prsD c (bs ++ [b]) = prsD c bs ++ [.tuple [.str (cName c bs.length), .bool b]] := List.mapIdx_concat
theorem prsD_length (c : Str) (bs : List Bool) : (prsD c bs).length = bs.length := List.length_mapIdx
structure Scene where
  place : Int
  light : Str
  mins : Int
  dry : Bool
  cast : List Int
def Scene.data (s : Scene) (k : Nat) : PyData := .tuple [.str (cName "s" k), .int s.place, .str s.light, .int s.mins, .bool s.dry, .tuple (s.cast.map .int)]
def scsD (ss : List Scene) : List PyData := ss.mapIdx fun k s => s.data k
theorem scsD_snoc (ss : List Scene) (s : Scene) : scsD (ss ++ [s]) = scsD ss ++ [s.data ss.length] := List.mapIdx_concat
theorem scsD_length (ss : List Scene) : (scsD ss).length = ss.length := List.length_mapIdx
theorem scsD_get {ss : List Scene} {i : Nat} {s : Scene} (h : ss[i]? = some s) : (scsD ss)[i]? = some (s.data i) := by
  unfold scsD
  rw [List.getElem?_mapIdx, h]
  rfl
def prI (p : Int × Int) : PyData := .tuple [.int p.1, .int p.2]
structure Scene.Ok (s : Scene) (np na : Int) : Prop where
  p0 : 0 ≤ s.place
  p1 : s.place < np
  light : s.light ∈ (["day", "any", "night"] : List Str)
  m0 : 5 ≤ s.mins
  m1 : s.mins ≤ 200
  cast : ∀ a ∈ s.cast, 0 ≤ a ∧ a < na
  few : s.cast.length ≤ 3
structure Film where
  places : List Bool
  actors : List Bool
  scenes : List Scene
  orders : List (Int × Int)
  move : Int
  ready : Int
  meal : Int
def Film.data (f : Film) : PyData := .tuple [.tuple (prsD "p" f.places), .tuple (prsD "a" f.actors), .tuple (scsD f.scenes), .tuple (f.orders.map prI), .tuple [.int f.move, .int f.ready, .int f.meal]]
structure Film.Ok (f : Film) (most : Int) : Prop where
  p0 : 0 < f.places.length
  p1 : f.places.length ≤ 3
  a0 : 0 < f.actors.length
  a1 : f.actors.length ≤ 3
  s0 : 0 < f.scenes.length
  s1 : (f.scenes.length : Int) ≤ most
  scene : ∀ s ∈ f.scenes, s.Ok f.places.length f.actors.length
  order : ∀ o ∈ f.orders, 0 ≤ o.1 ∧ o.1 < o.2 ∧ o.2 < f.scenes.length
  mv : 0 ≤ f.move ∧ f.move < 60
  rd : 0 ≤ f.ready ∧ f.ready < 90
  ml : 5 ≤ f.meal ∧ f.meal < 65
theorem num_small {n : Int} (h0 : 0 ≤ n) (h : n < 10000000000) : (Str.ofString (toString n)).length ≤ 10 := toString_length_le h0 (by decide) h
theorem cn_len {c : Str} {n : Int} (hc : c.length ≤ 1000) (h0 : 0 ≤ n) (h : n < 10000000000) : c.length + (Str.ofString (toString n)).length ≤ sizeLine := by
  have := num_small h0 h
  rw [sizeLine_eq]
  omega
def AFilm : ASpec := fun Ds post => ∃ most : Int, Ds = [.drw, .dat (.int most)] ∧ (0 < most ∧ most ≤ 1000) ∧ ∀ f : Film, f.Ok most → post (.dat f.data)

/-! ### lists of a sheet, sheets, hours -/
def RowOk (row : List Int) (n : Int) : Prop := row.length ≤ 60 ∧ ∀ x ∈ row, x = -1 ∨ (0 ≤ x ∧ x < n)
def AList : ASpec := fun Ds post => ∃ (f : Film) (most : Int), Ds = [.drw, .dat f.data] ∧ (f.Ok most ∧ most ≤ 50) ∧ ∀ row : List Int, RowOk row f.scenes.length → post (.dat (.tuple (row.map .int)))
structure Sheet where
  call : Int
  dry : List Int
  rain : List Int
def Sheet.data (s : Sheet) : PyData := .tuple [.int s.call, .tuple (s.dry.map .int), .tuple (s.rain.map .int)]
structure Sheet.Ok (s : Sheet) (n : Int) : Prop where
  c0 : 0 ≤ s.call
  c1 : s.call ≤ 720
  dry : RowOk s.dry n
  rain : RowOk s.rain n
def ASheet : ASpec := fun Ds post => ∃ (f : Film) (most : Int), Ds = [.drw, .dat f.data] ∧ (f.Ok most ∧ most ≤ 50) ∧ ∀ s : Sheet, s.Ok f.scenes.length → post (.dat s.data)
def wS (rain : Bool) : Str := if rain then "rain" else "dry"
structure News where
  rain : Bool
  ill : Int
  late : Int
def News.data (n : News) : PyData := .tuple [.str (wS n.rain), .int n.ill, .int n.late]
def plD : Option Int → PyData
  | none => .none
  | some p => .int p
def r3D (r : Int × Int × Int) : PyData := .tuple [.int r.1, .int r.2.1, .int r.2.2]
instance : Inhabited Scene := ⟨⟨0, "", 0, false, []⟩⟩
def Film.sc (f : Film) (i : Int) : Scene := f.scenes.getD i.toNat default
/-- what the items so far have come to -/
structure Hst where
  clock : Int
  place : Option Int
  rows : List (Int × Int × Int)
  fallen : List Int
def hMoved (f : Film) (s : Scene) (t : Hst) : Int := match t.place with
  | some p => if p = s.place then t.clock else t.clock + f.move
  | none => t.clock
def hStep (f : Film) (shot : List Int) (ill : Int) (t : Hst) (x : Int) : Hst :=
  if x = -1 then { t with clock := t.clock + f.meal, rows := t.rows ++ [(x, t.clock, t.clock + f.meal)] }
  else if x ∈ shot then t
  else if ill ∈ (f.sc x).cast then { t with fallen := t.fallen ++ [x] }
  else ⟨hMoved f (f.sc x) t + (f.sc x).mins, some (f.sc x).place, t.rows ++ [(x, hMoved f (f.sc x) t, hMoved f (f.sc x) t + (f.sc x).mins)], t.fallen⟩
def hStart (s : Sheet) (nw : News) : Hst := ⟨s.call + nw.late, none, [], []⟩
def Sheet.row (s : Sheet) (rain : Bool) : List Int := if rain then s.rain else s.dry
def hEnd (f : Film) (s : Sheet) (shot : List Int) (nw : News) : Hst := (s.row nw.rain).foldl (hStep f shot nw.ill) (hStart s nw)
def sortI (ns : List Int) : List Int := ns.mergeSort (fun a b => decide (a ≤ b))
theorem sortI_perm (ns : List Int) : (sortI ns).Perm ns := List.mergeSort_perm ns _
theorem sortI_le (ns : List Int) : (sortI ns).Pairwise (· ≤ ·) := by
  have h := List.pairwise_mergeSort (le := fun a b : Int => decide (a ≤ b)) (fun a b c h1 h2 => by simp at *; omega) (fun a b => by simp; omega) ns
  exact h.imp fun q => by simpa using q
def hData (t : Hst) : PyData := .tuple [.tuple (t.rows.map r3D), .tuple ((sortI t.fallen).map .int)]
def AHours : ASpec := fun Ds post => ∃ (f : Film) (most : Int) (s : Sheet) (shot : List Int) (nw : News), Ds = [.dat f.data, .dat s.data, .dat (.tuple (shot.map .int)), .dat nw.data] ∧ (f.Ok most ∧ most ≤ 60 ∧ s.Ok f.scenes.length) ∧ post (.dat (hData (hEnd f s shot nw)))
theorem Film.scAt {f : Film} {x : Int} (h0 : 0 ≤ x) (h1 : x < f.scenes.length) : atI (scsD f.scenes) x = some ((f.sc x).data x.toNat) ∧ f.sc x ∈ f.scenes := by
  have hl : x.toNat < f.scenes.length := by omega
  have e : f.scenes[x.toNat]? = some (f.sc x) := by
    unfold Film.sc
    rw [List.getD_eq_getElem?_getD, List.getElem?_eq_getElem hl]
    rfl
  have q := scsD_get e
  have := atI_nat q
  rw [show ((x.toNat : Nat) : Int) = x by omega] at this
  exact ⟨this, List.mem_of_getElem? e⟩
theorem hStep_fallen (f : Film) (shot : List Int) (ill : Int) (t : Hst) (x : Int) : (hStep f shot ill t x).fallen.length ≤ t.fallen.length + 1 ∧ (hStep f shot ill t x).rows.length ≤ t.rows.length + 1 := by
  unfold hStep
  split
  · simp
  · split
    · simp
    · split <;> simp

/-! More rules: cuts and sums of tuples, a range with a step, truth of a list, sorted sets of tuples. -/
section
variable {X : Cx} {N : List Str} {j : Nat} {E : List SD} {k : EK} {a b c d : Expr} {p pos : Pos}
theorem AO_catT {ds es : List PyData} (h : ds.length + es.length ≤ sizeLine) (hk : k (.dat (.tuple (ds ++ es))) E) : AO X N j (binaryOp .Add) (.dat (.tuple ds)) (.dat (.tuple es)) E k := fun hx c S σ H x y Q R T1 T2 post => by
  refine sOp_of op_catA ?_
  have t1 : Dt X.K S H x (.tuple ds) := T1
  have t2 : Dt X.K S H y (.tuple es) := T2
  cases t1 with
  | tup s1 d1 =>
    cases t2 with
    | tup s2 d2 =>
      refine ⟨_, _, _, _, rfl, rfl, s1, s2, by rw [d1.length, d2.length]; exact h, fun e => ?_, fun _ e => ?_, fun _ _ p hp => ?_⟩
      · refine post _ _ E S H hk R Evo.refl ?_
        have e' : ds = [] := List.length_eq_zero_iff.mp (by rw [← d1.length, e]; rfl)
        rw [e']
        exact .tup s2 d2
      · refine post _ _ E S H hk R Evo.refl ?_
        have e' : es = [] := List.length_eq_zero_iff.mp (by rw [← d2.length, e]; rfl)
        rw [e', List.append_nil]
        exact .tup s1 d1
      · exact post _ _ E S _ hk (R.laid hp) (Evo.laid hp R.lists) (R.newT hp (d1.append d2))
theorem AE_sliceTo {n : Int} {p2 p3 : Pos} {kk : Nat} (hn : 0 ≤ n) (h : AE X N j a E fun r E1 => ∃ ds, r = .dat (.tuple ds) ∧ k (.dat (.tuple (ds.take n.toNat))) E1) : AE X N j (.Subscript a (.Slice none (some (.Constant (.int n) kk p3)) none p2) pos) E k := fun hx c S σ H Q R post => by
  refine sE_of (pe_slice sl_tupA pe_s po_none (po_some pe_int)) ?_
  show sE X a σ H fun x H1 => ∃ i, V.int n = V.int i ∧ rSlA X.K x none (some i) H1 Q
  refine (h hx).bind R fun x r E1 S1 H1 hk _ R1 T1 => ?_
  obtain ⟨ds, rfl, q⟩ := hk
  refine ⟨n, rfl, ?_⟩
  have t : Dt X.K S1 H1 x (.tuple ds) := T1
  cases t with
  | tup s1 d1 =>
    rename_i p0 xs
    have z : HT.sIx xs.length xs.length (some n) = min n.toNat xs.length := by
      show (if n < 0 then (n + (xs.length : Int)).toNat else min n.toNat xs.length) = _
      rw [if_neg (by omega)]
    have hl := d1.length
    refine ⟨_, xs, rfl, s1, fun e => ?_, fun e p hp => ?_⟩
    · refine post _ _ E1 S1 H1 q R1 ?_
      have e2 := e.2
      rw [z] at e2
      rw [List.take_of_length_le (by omega)]
      exact .tup s1 d1
    · refine post _ _ E1 S1 _ q (R1.laid hp) (R1.newT hp ?_)
      unfold cutV
      rw [z]
      show DtAll X.K S1 H1 ((xs.drop 0).take (min n.toNat xs.length - 0)) _
      rw [List.drop_zero, Nat.sub_zero]
      have e3 : xs.take (min n.toNat xs.length) = xs.take n.toNat := by
        rcases Nat.le_total n.toNat xs.length with h | h
        · rw [Nat.min_eq_left h]
        · rw [Nat.min_eq_right h, List.take_of_length_le (Nat.le_refl _), List.take_of_length_le h]
      rw [e3]
      exact d1.take _
/-- 0, 2, 4, .. below n -/
def rgD2 (n : Nat) : List PyData := (List.range n).map fun (i : Nat) => PyData.int (2 * (i : Int))
theorem del_rng2 {K : PySem.W.Frag} {c : Cx0} (n : Nat) : Del K c (Itc 0 2 n) (rgD2 n) := by
  refine ⟨fun i d e S σ H E R => ?_, fun S σ H E R => ?_⟩
  · unfold rgD2 at e
    rw [List.getElem?_map] at e
    have hi' : i < n := by
      cases z : (List.range n)[i]? with
      | none => rw [z] at e; cases e
      | some u =>
        have := (List.getElem?_eq_some_iff.mp z).1
        rw [List.length_range] at this
        exact this
    rw [List.getElem?_range hi'] at e
    cases e
    refine ⟨hi', fun x H' ⟨e1, e2⟩ => ?_⟩
    subst e1 e2
    rw [show (0 : Int) + (i : Nat) * 2 = 2 * (i : Int) by omega]
    exact ⟨Same.refl _, R, Evo.refl, .int _⟩
  · show n ≤ _
    unfold rgD2
    rw [List.length_map, List.length_range]
    exact Nat.le_refl _
theorem rgc2 (n : Nat) (h : n < 1000000) : RgC 0 (2 * (n : Int)) 2 n := by
  have hs : Builtin.Range.rangeSize 0 (2 * (n : Int)) 2 = n := by
    unfold Builtin.Range.rangeSize
    simp
    omega
  refine ⟨by decide, by decide, ?_, hs⟩
  unfold Builtin.Range.small
  rw [hs]
  unfold Builtin.Range.rangeFitsLong
  simp
  omega
theorem AI_range02 {tg : Expr} {ki : List PyData → List SD → Prop} (h : AE X N j a E fun r E1 => AE X N j b E1 fun s E2 => AE X N j c E2 fun t E3 => ∃ n : Nat, r = .dat (.int 0) ∧ s = .dat (.int (2 * (n : Int))) ∧ t = .dat (.int 2) ∧ n < 1000000 ∧ ki (rgD2 n) E3) (hg : Gl X "range" := by rfl)
    (hs : starEach [a, b, c] X.env = (false, eval a X.env) :: starEach [b, c] X.env := by rfl) (hs2 : starEach [b, c] X.env = (false, eval b X.env) :: starEach [c] X.env := by rfl) (hs3 : starEach [c] X.env = (false, eval c X.env) :: starEach [] X.env := by rfl)
    (hpl : (backTo pos (starEach [b, c] X.env)).any (·.1) = false := by rfl) : AI X N j tg (.Call (.Name "range" p) [a, b, c] [] pos) E ki := fun hx c0 S σ H R Rs q => by
  refine sI_of (pi_range3 hg hx.bi.range (pa_cons pe_s (pa_cons pe_s (pa_cons pe_s pa_nil hs3) hs2) hs) hs hpl) ?_
  show sE X a σ H fun x H1 => sE X b σ H1 fun y H2 => sE X c σ H2 fun z H3 => ∃ (i j c : Int) (n : Nat), [x, y, z] = [.int i, .int j, .int c] ∧ RgC i j c n ∧ R (Itc i c n) H3
  refine (h hx).bind Rs fun x r E1 S1 H1 hk _ R1 T1 => ?_
  refine (hk hx).bind R1 fun y s E2 S2 H2 hk2 R2n R2 T2 => ?_
  refine (hk2 hx).bind R2 fun z t E3 S3 H3 hk3 R3n R3 T3 => ?_
  obtain ⟨n, rfl, rfl, rfl, hn, w⟩ := hk3
  have t : Dt X.K S1 H1 x (.int 0) := T1
  have t2 : Dt X.K S2 H2 y (.int _) := T2
  have t3 : Dt X.K S3 H3 z (.int 2) := T3
  cases t
  cases t2
  cases t3
  exact ⟨0, _, 2, n, rfl, rgc2 n hn, q _ _ E3 S3 H3 w R3 (del_rng2 n)⟩
theorem AT_list {kb : Bool → List SD → Prop} (h : AE X N j a E fun r E1 => ∃ ds, r.items E1 = some ds ∧ kb (!ds.isEmpty) E1) (he : ∀ whole, isTrue a X.env whole = (do let v ← whole; standAt a.pos; holding [v] (truthy v)) := by intro _; rfl) : AT X N j a E kb := fun hx c S σ H Q R post => by
  refine sT_of (pt_truth pe_s he) ?_
  show sE X a σ H fun x H1 => ∃ k, TruV X.K x H1 k ∧ Q k H1
  refine (h hx).bind R fun x r E1 S1 H1 hk _ R1 T1 => ?_
  obtain ⟨ds, e, q⟩ := hk
  obtain ⟨p, xs, rfl, sq, da⟩ := T1.ofItems R1 e
  have hl := da.length
  have em : (!ds.isEmpty) = !xs.isEmpty := by
    cases da <;> rfl
  refine ⟨!ds.isEmpty, ?_, post _ E1 S1 H1 q R1⟩
  rcases sq with sq | sq
  · exact .inl ⟨xs, sq, em⟩
  · exact .inr (.inl ⟨xs, sq, em⟩)
/-- tuple(sorted(set(xs))), tuples of ints below B -/
def tI (ns : List Int) : PyData := .tuple (ns.map .int)
theorem keys_of {K : PySem.W.Frag} {S : Addr → Prop} {H : Hp} : ∀ {nss : List (List Int)} {xs : List V}, DtAll K S H xs (nss.map tI) → ∃ ks : List (Addr × List Int), xs = ks.map (fun p => V.ref p.1) ∧ ks.map (·.2) = nss ∧ ∀ p ∈ ks, SqT K H p.1 (p.2.map V.int)
  | [], _, .nil => ⟨[], rfl, rfl, fun p h => nomatch h⟩
  | ns :: nss, _, .cons t q => by
    obtain ⟨ks, rfl, e2, e3⟩ := keys_of (nss := nss) q
    have t' : Dt K S H _ (.tuple (ns.map .int)) := t
    cases t' with
    | tup s da =>
      obtain rfl := da.ints
      refine ⟨(_, ns) :: ks, rfl, by rw [List.map_cons, e2], fun p hp => ?_⟩
      rcases List.mem_cons.mp hp with rfl | hp
      · exact s
      · exact e3 p hp
theorem of_keys {K : PySem.W.Frag} {S : Addr → Prop} {H : Hp} : ∀ {ks : List (Addr × List Int)}, (∀ p ∈ ks, SqT K H p.1 (p.2.map V.int)) → DtAll K S H (ks.map fun p => V.ref p.1) (ks.map fun p => tI p.2)
  | [], _ => .nil
  | p :: ks, h => .cons (.tup (h p List.mem_cons_self) (DtAll.of_ints _)) (of_keys fun q hq => h q (List.mem_cons_of_mem _ hq))
theorem AE_sortedSet {p2 p3 q2 q3 : Pos} (h : AE X N j a E fun r E1 => ∃ (nss : List (List Int)) (n : Nat) (B : Int), r.lst E1 = some (nss.map tI) ∧ nss.length < 64 ∧ 1 ≤ n ∧ (∀ ns ∈ nss, ns.length = n ∧ TS.Bd B ns) ∧ ∀ mss : List (List Int), k (.dat (.tuple (mss.map tI))) E1)
    (hg : Gl X "tuple" := by rfl) (hg2 : Gl X "sorted" := by rfl) (hg3 : Gl X "set" := by rfl) (he : starEach [a] X.env = (false, eval a X.env) :: starEach [] X.env := by rfl)
    (he2 : starEach [.Call (.Name "set" p3) [a] [] q3] X.env = (false, eval (.Call (.Name "set" p3) [a] [] q3) X.env) :: starEach [] X.env := by rfl)
    (he3 : starEach [.Call (.Name "sorted" p2) [.Call (.Name "set" p3) [a] [] q3] [] q2] X.env = (false, eval (.Call (.Name "sorted" p2) [.Call (.Name "set" p3) [a] [] q3] [] q2) X.env) :: starEach [] X.env := by rfl) :
    AE X N j (.Call (.Name "tuple" p) [.Call (.Name "sorted" p2) [.Call (.Name "set" p3) [a] [] q3] [] q2] [] pos) E k := fun hx c S σ H Q R post => by
  refine sE_of (pe_callTy call_tuple_of hg hx.bi.tuple (by decide +kernel) (pa_cons (pe_callB (cr_sortedT hx.calm) hg2 hx.bi.sorted (by decide +kernel) (pa_cons (pe_callTy (cr_setOfT hx.calm hx.room.units) hg3 hx.bi.set (by decide +kernel) (pa_cons pe_s pa_nil he) (by decide) (by decide) he) pa_nil he2) (by decide) (by decide) he2) pa_nil he3) (by decide) (by decide) he3) ?_
  show sE X a σ H fun x H1 => rSetOfT X.K X.prog X.w [x] H1 fun x H2 => rSortedT X.K X.prog X.w [x] H2 fun x H3 => ∃ p ys, [x] = [V.ref p] ∧ ((SqL X.K H3 p ys ∧ ∀ l, H3 l = none → Q (.ref l) (upd H3 l (.tup ys))) ∨ (SqT X.K H3 p ys ∧ Q (.ref p) H3))
  refine (h hx).bind R fun x r E1 S1 H1 hk _ R1 T1 => ?_
  obtain ⟨nss, n, B, e, hl, hn, hB, q⟩ := hk
  obtain ⟨l, xs, rfl, hx1, da⟩ := T1.ofLst R1 e
  obtain ⟨ks, rfl, e2, e3⟩ := keys_of da
  subst e2
  rw [List.length_map] at hl
  refine ⟨l, ks, rfl, SqL.of hx1, e3, hl, fun s L hs sub all => ?_⟩
  have R2 := R1.laid (o := SetTO X.prog X.w s L) hs
  have k2 : ∀ p ∈ L, SqT X.K (upd H1 s (SetTO X.prog X.w s L)) p.1 (p.2.map V.int) := fun p hp => (Evo.laid (K := X.K) (o := SetTO X.prog X.w s L) hs R1.lists).tup _ _ (e3 p (sub p hp))
  refine ⟨s, L, n, B, rfl, upd_same, k2, hn, fun p hp => hB p.2 (List.mem_map_of_mem (sub p hp)), fun L' p pm _ _ _ hp => ?_⟩
  have k3 : ∀ q ∈ L', SqT X.K (upd (upd H1 s (SetTO X.prog X.w s L)) p (.lst (L'.map fun q => V.ref q.1))) q.1 (q.2.map V.int) := fun q hq => (Evo.laid (K := X.K) hp R2.lists).tup _ _ (k2 q (pm.subset hq))
  have R3 := R2.laid (o := .lst (L'.map fun q => V.ref q.1)) hp
  refine ⟨p, L'.map fun q => V.ref q.1, rfl, .inl ⟨SqL.of upd_same, fun t ht => ?_⟩⟩
  have d3 := of_keys (S := S1) k3
  have := q (L'.map (·.2))
  rw [List.map_map] at this
  exact post _ _ E1 S1 _ this (R3.laid ht) (R3.newT ht d3)
end

/-! Figures of a day: the plain law. -/
abbrev Rw := Int × Int × Int
structure RowsOk (n : Int) (rows : List Rw) : Prop where
  few : rows.length ≤ 100
  item : ∀ r ∈ rows, r.1 = -1 ∨ (0 ≤ r.1 ∧ r.1 < n)
  span : ∀ r ∈ rows, 0 ≤ r.2.1 ∧ r.2.1 < r.2.2 ∧ r.2.2 ≤ 100000
  asc : rows.Pairwise (fun r s => r.2.2 ≤ s.2.1)
def mine (f : Film) (actor : Int) (r : Rw) : Bool := decide (0 ≤ r.1) && decide (actor ∈ (f.sc r.1).cast)
def ownR (f : Film) (actor : Int) (rows : List Rw) : List Rw := rows.filter (mine f actor)
def nightOf (light dark b e : Int) : Int := max 0 (min e light - b) + max 0 (e - max b dark)
def isMeal (call wrap : Int) (r : Rw) : Bool := decide (r.1 < 0) && decide (call ≤ r.2.1) && decide (r.2.2 ≤ wrap)
def meals (call wrap : Int) (rows : List Rw) : List Rw := rows.filter (isMeal call wrap)
def lsStep (t : Int × Int) (r : Rw) : Int × Int := (max t.1 (r.2.1 - t.2), r.2.2)
def lsEnd (t : Int × Int) (w : Int) : Int := max t.1 (w - t.2)
def stretch (rows : List Rw) (call wrap : Int) : Int := lsEnd ((meals call wrap rows).foldl lsStep (0, call)) wrap
def lastR (r : Rw) (rs : List Rw) : Rw := (r :: rs).getLast (List.cons_ne_nil _ _)
def callOf (f : Film) (r : Rw) : Int := max 0 (r.2.1 - f.ready)
def figsOf (f : Film) (light dark : Int) (rows : List Rw) (b0 b1 : Int) (r : Rw) (rs : List Rw) : List Int :=
  [callOf f r, (lastR r rs).2.2, (lastR r rs).2.2 - callOf f r, ((r :: rs).map fun r => r.2.2 - r.2.1).sum, (if b0 = -1 then 9999 else max 0 (callOf f r + 1440 - b0)), (if b0 = -1 then 1 else b1 + 1), ((r :: rs).map fun r => nightOf light dark r.2.1 r.2.2).sum, stretch rows (callOf f r) (lastR r rs).2.2, ((r :: rs).length : Nat)]
def figs (f : Film) (light dark : Int) (rows : List Rw) (actor b0 b1 : Int) : Option (List Int) := match ownR f actor rows with
  | [] => none
  | r :: rs => some (figsOf f light dark rows b0 b1 r rs)
def figD : Option (List Int) → PyData
  | none => .none
  | some ns => .tuple (ns.map .int)
/-! ### a chain of rows -/
def Chn (s : Int) (w : Int) : List Rw → Prop
  | [] => s ≤ w
  | r :: ms => s ≤ r.2.1 ∧ r.2.1 < r.2.2 ∧ Chn r.2.2 w ms
theorem chn_of {w : Int} : ∀ {ms : List Rw} {s : Int}, s ≤ w → ms.Pairwise (fun r s => r.2.2 ≤ s.2.1) → (∀ r ∈ ms, s ≤ r.2.1 ∧ r.2.1 < r.2.2 ∧ r.2.2 ≤ w) → Chn s w ms
  | [], _, h, _, _ => h
  | r :: ms, s, h, p, q => by
    obtain ⟨h1, h2, h3⟩ := q r List.mem_cons_self
    rw [List.pairwise_cons] at p
    exact ⟨h1, h2, chn_of h3 p.2 fun x hx => ⟨p.1 x hx, (q x (List.mem_cons_of_mem _ hx)).2⟩⟩
theorem Chn.le {w : Int} : ∀ {ms : List Rw} {s : Int}, Chn s w ms → s ≤ w
  | [], _, h => h
  | r :: ms, s, h => by
    have := Chn.le h.2.2
    have h1 := h.1
    have h2 := h.2.1
    omega
theorem RowsOk.filter {n : Int} {rows : List Rw} (h : RowsOk n rows) (p : Rw → Bool) : RowsOk n (rows.filter p) :=
  ⟨Nat.le_trans (List.length_filter_le _ _) h.few, fun r hr => h.item r (List.mem_filter.mp hr).1, fun r hr => h.span r (List.mem_filter.mp hr).1, h.asc.filter p⟩
theorem chn_meals {n : Int} {rows : List Rw} (h : RowsOk n rows) {call wrap : Int} (hc : call ≤ wrap) : Chn call wrap (meals call wrap rows) := by
  have hf := h.filter (isMeal call wrap)
  refine chn_of hc hf.asc fun r hr => ?_
  have h1 := hf.span r hr
  have h2 := (List.mem_filter.mp hr).2
  unfold isMeal at h2
  simp at h2
  omega
theorem last_le : ∀ {rs : List Rw} {r : Rw}, (r :: rs).Pairwise (fun r s => r.2.2 ≤ s.2.1) → (∀ x ∈ r :: rs, x.2.1 < x.2.2) → ∀ x ∈ r :: rs, x.2.2 ≤ (lastR r rs).2.2
  | [], r, _, _, x, hx => by
    rw [List.mem_singleton.mp hx]
    exact Int.le_refl _
  | s :: rs, r, p, q, x, hx => by
    have e : lastR r (s :: rs) = lastR s rs := rfl
    rw [e]
    rw [List.pairwise_cons] at p
    rcases List.mem_cons.mp hx with rfl | hx
    · have h1 := p.1 s List.mem_cons_self
      have h2 := q s (List.mem_cons_of_mem _ List.mem_cons_self)
      have h3 := last_le p.2 (fun y hy => q y (List.mem_cons_of_mem _ hy)) s List.mem_cons_self
      omega
    · exact last_le p.2 (fun y hy => q y (List.mem_cons_of_mem _ hy)) x hx
theorem lastR_mem (r : Rw) (rs : List Rw) : lastR r rs ∈ r :: rs := List.getLast_mem _
theorem first_le {rs : List Rw} {r : Rw} (p : (r :: rs).Pairwise (fun r s => r.2.2 ≤ s.2.1)) (q : ∀ x ∈ r :: rs, x.2.1 < x.2.2) : ∀ x ∈ r :: rs, r.2.1 ≤ x.2.1 := fun x hx => by
  rw [List.pairwise_cons] at p
  have h1 := q r List.mem_cons_self
  rcases List.mem_cons.mp hx with rfl | hx
  · exact Int.le_refl _
  · have := p.1 x hx
    omega
theorem chn_own {n : Int} {own : List Rw} {r : Rw} {rs : List Rw} {f : Film} (h : RowsOk n own) (e : own = r :: rs) (hr : 0 ≤ f.ready) : Chn (callOf f r) (lastR r rs).2.2 own ∧ 0 ≤ callOf f r ∧ (lastR r rs).2.2 ≤ 100000 ∧ callOf f r ≤ r.2.1 := by
  subst e
  have q : ∀ x ∈ r :: rs, x.2.1 < x.2.2 := fun x hx => (h.span x hx).2.1
  have h0 := h.span r List.mem_cons_self
  have hl := h.span _ (lastR_mem r rs)
  have hc : callOf f r ≤ r.2.1 ∧ 0 ≤ callOf f r := by
    unfold callOf
    omega
  have l1 := last_le h.asc q r List.mem_cons_self
  refine ⟨chn_of (by omega) h.asc fun x hx => ⟨?_, q x hx, last_le h.asc q x hx⟩, hc.2, hl.2.2, hc.1⟩
  have := first_le h.asc q x hx
  omega
/-! ### minutes -/
def cnt (lo : Int) (p : Int → Bool) : Nat → Int
  | 0 => 0
  | n + 1 => cnt lo p n + if p (lo + n) then 1 else 0
theorem cnt_add (lo : Int) (p : Int → Bool) (n : Nat) : ∀ m : Nat, cnt lo p (n + m) = cnt lo p n + cnt (lo + n) p m
  | 0 => by show cnt lo p n = cnt lo p n + 0; omega
  | m + 1 => by
    show cnt lo p (n + m) + (if p (lo + ((n + m : Nat) : Int)) then 1 else 0) = cnt lo p n + (cnt (lo + n) p m + if p (lo + n + m) then 1 else 0)
    rw [cnt_add lo p n m, show lo + ((n + m : Nat) : Int) = lo + n + m by omega]
    omega
theorem cnt_congr {lo : Int} {p q : Int → Bool} : ∀ {n : Nat}, (∀ m, lo ≤ m → m < lo + n → p m = q m) → cnt lo p n = cnt lo q n
  | 0, _ => rfl
  | n + 1, h => by
    show cnt lo p n + (if p (lo + n) then 1 else 0) = cnt lo q n + if q (lo + n) then 1 else 0
    rw [cnt_congr (n := n) fun m h1 h2 => h m h1 (by omega), h (lo + n) (by omega) (by omega)]
theorem cnt_false {lo : Int} : ∀ n : Nat, cnt lo (fun _ => false) n = 0
  | 0 => rfl
  | n + 1 => by
    show cnt lo (fun _ => false) n + (if false = true then 1 else 0) = 0
    rw [cnt_false n]
    rfl
theorem cnt_true {lo : Int} : ∀ n : Nat, cnt lo (fun _ => true) n = n
  | 0 => rfl
  | n + 1 => by
    show cnt lo (fun _ => true) n + (if true = true then 1 else 0) = ((n + 1 : Nat) : Int)
    rw [cnt_true n, if_pos rfl]
    omega
def within (m : Int) (r : Rw) : Bool := decide (r.2.1 ≤ m) && decide (m < r.2.2)
theorem within_no : ∀ {ms : List Rw} {s w m : Int}, Chn s w ms → m < s → ms.any (within m) = false
  | [], _, _, _, _, _ => rfl
  | r :: ms, s, w, m, h, hm => by
    have h1 := h.1
    have h2 := h.2.1
    rw [List.any_cons, within_no (m := m) h.2.2 (by omega)]
    unfold within
    rw [decide_eq_false (by omega)]
    rfl
theorem cnt_own (g : Int → Bool) {w : Int} : ∀ {ms : List Rw} {s : Int}, Chn s w ms → cnt s (fun m => ms.any (within m) && g m) (w - s).toNat = (ms.map fun r => cnt r.2.1 g (r.2.2 - r.2.1).toNat).sum
  | [], s, _ => by
    show cnt s (fun m => false && g m) _ = 0
    exact cnt_false _
  | r :: ms, s, h => by
    have h1 := h.1
    have h2 := h.2.1
    have h3 := Chn.le h.2.2
    rw [show (w - s).toNat = (r.2.1 - s).toNat + ((r.2.2 - r.2.1).toNat + (w - r.2.2).toNat) by omega, cnt_add, cnt_add, List.map_cons, List.sum_cons,
      show s + ((r.2.1 - s).toNat : Int) = r.2.1 by omega, show r.2.1 + ((r.2.2 - r.2.1).toNat : Int) = r.2.2 by omega, ← cnt_own g h.2.2]
    have a1 : cnt s (fun m => (r :: ms).any (within m) && g m) (r.2.1 - s).toNat = 0 := by
      rw [← cnt_false (lo := s) (r.2.1 - s).toNat]
      refine cnt_congr fun m m1 m2 => ?_
      rw [List.any_cons, within_no (m := m) h.2.2 (by omega)]
      unfold within
      rw [decide_eq_false (by omega)]
      rfl
    have a2 : cnt r.2.1 (fun m => (r :: ms).any (within m) && g m) (r.2.2 - r.2.1).toNat = cnt r.2.1 g (r.2.2 - r.2.1).toNat := by
      refine cnt_congr fun m m1 m2 => ?_
      rw [List.any_cons]
      unfold within
      rw [decide_eq_true (by omega), decide_eq_true (by omega)]
      simp
    have a3 : cnt r.2.2 (fun m => (r :: ms).any (within m) && g m) (w - r.2.2).toNat = cnt r.2.2 (fun m => ms.any (within m) && g m) (w - r.2.2).toNat := by
      refine cnt_congr fun m m1 m2 => ?_
      rw [List.any_cons]
      have e : within m r = false := by
        unfold within
        rw [decide_eq_false (p := m < r.2.2) (by omega), Bool.and_false]
      rw [e, Bool.false_or]
    rw [a1, a2, a3]
    omega
theorem cnt_night {light dark : Int} (hl : light ≤ dark) (b : Int) : ∀ n : Nat, cnt b (fun m => decide (m < light) || decide (dark ≤ m)) n = nightOf light dark b (b + n)
  | 0 => by
    show (0 : Int) = nightOf light dark b (b + (0 : Nat))
    unfold nightOf
    omega
  | n + 1 => by
    show cnt b (fun m => decide (m < light) || decide (dark ≤ m)) n + (if (decide (b + n < light) || decide (dark ≤ b + n)) = true then 1 else 0) = nightOf light dark b (b + ((n + 1 : Nat) : Int))
    rw [cnt_night hl b n]
    unfold nightOf
    by_cases c1 : b + n < light
    · rw [decide_eq_true c1, Bool.true_or, if_pos rfl]
      omega
    · rw [decide_eq_false c1, Bool.false_or]
      by_cases c2 : dark ≤ b + n
      · rw [decide_eq_true c2, if_pos rfl]
        omega
      · rw [decide_eq_false c2, if_neg (by decide)]
        omega
theorem work_of {w s : Int} {ms : List Rw} (h : Chn s w ms) : cnt s (fun m => ms.any (within m)) (w - s).toNat = (ms.map fun r => r.2.2 - r.2.1).sum := by
  have := cnt_own (fun _ => true) h
  simp only [Bool.and_true] at this
  rw [this]
  have e : ∀ {ms : List Rw} {s : Int}, Chn s w ms → (ms.map fun r => cnt r.2.1 (fun _ => true) (r.2.2 - r.2.1).toNat) = ms.map fun r => r.2.2 - r.2.1 := by
    intro ms
    induction ms with
    | nil => intro s _; rfl
    | cons r ms ih =>
      intro s h
      have h2 := h.2.1
      rw [List.map_cons, List.map_cons, ih h.2.2, cnt_true, show ((r.2.2 - r.2.1).toNat : Int) = r.2.2 - r.2.1 by omega]
  rw [e h]
theorem night_of {light dark : Int} (hl : light ≤ dark) {w s : Int} {ms : List Rw} (h : Chn s w ms) : cnt s (fun m => ms.any (within m) && (decide (m < light) || decide (dark ≤ m))) (w - s).toNat = (ms.map fun r => nightOf light dark r.2.1 r.2.2).sum := by
  rw [cnt_own _ h]
  have e : ∀ {ms : List Rw} {s : Int}, Chn s w ms → (ms.map fun r => cnt r.2.1 (fun m => decide (m < light) || decide (dark ≤ m)) (r.2.2 - r.2.1).toNat) = ms.map fun r => nightOf light dark r.2.1 r.2.2 := by
    intro ms
    induction ms with
    | nil => intro s _; rfl
    | cons r ms ih =>
      intro s h
      have h2 := h.2.1
      rw [List.map_cons, List.map_cons, ih h.2.2, cnt_night hl, show r.2.1 + ((r.2.2 - r.2.1).toNat : Int) = r.2.2 by omega]
  rw [e h]
/-! ### runs between meals -/
def runs (t : Int × Int) (lo : Int) (q : Int → Bool) : Nat → Int × Int
  | 0 => t
  | n + 1 => (max (runs t lo q n).1 (if q (lo + n) then 0 else (runs t lo q n).2 + 1), if q (lo + n) then 0 else (runs t lo q n).2 + 1)
theorem runs_add (t : Int × Int) (lo : Int) (q : Int → Bool) (n : Nat) : ∀ m : Nat, runs t lo q (n + m) = runs (runs t lo q n) (lo + n) q m
  | 0 => rfl
  | m + 1 => by
    show (max (runs t lo q (n + m)).1 (if q (lo + ((n + m : Nat) : Int)) then 0 else (runs t lo q (n + m)).2 + 1), if q (lo + ((n + m : Nat) : Int)) then 0 else (runs t lo q (n + m)).2 + 1) = _
    rw [runs_add t lo q n m, show lo + ((n + m : Nat) : Int) = lo + n + m by omega]
    rfl
theorem runs_free {lo : Int} {q : Int → Bool} {l r : Int} (h : r ≤ l) : ∀ {n : Nat}, (∀ m, lo ≤ m → m < lo + n → q m = false) → runs (l, r) lo q n = (max l (r + n), r + n)
  | 0, _ => by
    show (l, r) = (max l (r + (0 : Nat)), r + (0 : Nat))
    rw [show r + ((0 : Nat) : Int) = r by omega, Int.max_eq_left h]
  | n + 1, hq => by
    show (max (runs (l, r) lo q n).1 (if q (lo + n) then 0 else (runs (l, r) lo q n).2 + 1), if q (lo + n) then 0 else (runs (l, r) lo q n).2 + 1) = _
    rw [runs_free h (n := n) fun m h1 h2 => hq m h1 (by omega), hq (lo + n) (by omega) (by omega)]
    simp only [Bool.false_eq_true, if_false]
    rw [Prod.mk.injEq]
    omega
theorem runs_busy {lo : Int} {q : Int → Bool} {t : Int × Int} (h : 0 ≤ t.1) : ∀ {n : Nat}, (∀ m, lo ≤ m → m < lo + (n + 1 : Nat) → q m = true) → runs t lo q (n + 1) = (t.1, 0)
  | 0, hq => by
    show (max t.1 (if q (lo + (0 : Nat)) then 0 else t.2 + 1), if q (lo + (0 : Nat)) then 0 else t.2 + 1) = _
    rw [hq (lo + (0 : Nat)) (by omega) (by omega), if_pos rfl, Int.max_eq_left h]
  | n + 1, hq => by
    show (max (runs t lo q (n + 1)).1 (if q (lo + (n + 1 : Nat)) then 0 else (runs t lo q (n + 1)).2 + 1), if q (lo + (n + 1 : Nat)) then 0 else (runs t lo q (n + 1)).2 + 1) = _
    rw [runs_busy h (n := n) fun m h1 h2 => hq m h1 (by omega), hq (lo + (n + 1 : Nat)) (by omega) (by omega), if_pos rfl]
    show (max t.1 0, (0 : Int)) = _
    rw [Int.max_eq_left h]
theorem runs_congr {t : Int × Int} {lo : Int} {p q : Int → Bool} : ∀ {n : Nat}, (∀ m, lo ≤ m → m < lo + n → p m = q m) → runs t lo p n = runs t lo q n
  | 0, _ => rfl
  | n + 1, h => by
    show (max (runs t lo p n).1 (if p (lo + n) then 0 else (runs t lo p n).2 + 1), if p (lo + n) then 0 else (runs t lo p n).2 + 1) = (max (runs t lo q n).1 (if q (lo + n) then 0 else (runs t lo q n).2 + 1), if q (lo + n) then 0 else (runs t lo q n).2 + 1)
    rw [runs_congr (n := n) fun m h1 h2 => h m h1 (by omega), h (lo + n) (by omega) (by omega)]
theorem runs_of {w : Int} : ∀ {ms : List Rw} {s l : Int}, Chn s w ms → 0 ≤ l → (runs (l, 0) s (fun m => ms.any (within m)) (w - s).toNat).1 = lsEnd (ms.foldl lsStep (l, s)) w
  | [], s, l, h, hl => by
    have h : s ≤ w := h
    rw [runs_free (q := fun m => ([] : List Rw).any (within m)) hl fun m _ _ => rfl]
    show max l (0 + ((w - s).toNat : Int)) = max l (w - s)
    rw [show (0 : Int) + ((w - s).toNat : Int) = w - s by omega]
  | r :: ms, s, l, h, hl => by
    have h1 := h.1
    have h2 := h.2.1
    have h3 := Chn.le h.2.2
    rw [show (w - s).toNat = (r.2.1 - s).toNat + (((r.2.2 - r.2.1).toNat - 1 + 1) + (w - r.2.2).toNat) by omega, runs_add, runs_add,
      show s + ((r.2.1 - s).toNat : Int) = r.2.1 by omega, show r.2.1 + (((r.2.2 - r.2.1).toNat - 1 + 1 : Nat) : Int) = r.2.2 by omega]
    rw [runs_free hl (n := (r.2.1 - s).toNat) fun m m1 m2 => ?_]
    · rw [runs_busy (t := (max l (0 + ((r.2.1 - s).toNat : Int)), 0 + ((r.2.1 - s).toNat : Int))) (by show 0 ≤ max l _; omega) fun m m1 m2 => ?_]
      · rw [runs_congr (q := fun m => ms.any (within m)) fun m m1 m2 => ?_]
        · show (runs (max l (0 + ((r.2.1 - s).toNat : Int)), 0) r.2.2 (fun m => ms.any (within m)) (w - r.2.2).toNat).1 = _
          rw [runs_of h.2.2 (by omega), show (0 : Int) + ((r.2.1 - s).toNat : Int) = r.2.1 - s by omega]
          rfl
        · rw [List.any_cons]
          have e : within m r = false := by
            unfold within
            rw [decide_eq_false (p := m < r.2.2) (by omega), Bool.and_false]
          rw [e, Bool.false_or]
      · rw [List.any_cons]
        unfold within
        rw [decide_eq_true (by omega), decide_eq_true (by omega)]
        rfl
    · rw [List.any_cons, within_no (m := m) h.2.2 (by omega)]
      unfold within
      rw [decide_eq_false (by omega)]
      rfl
/-! ### parts and their gaps -/
def pts (s : Int) (w : Int) : List Rw → List Int
  | [] => [s, w]
  | r :: ms => s :: r.2.1 :: pts r.2.2 w ms
def gaps (s : Int) (w : Int) : List Rw → List Int
  | [] => [w - s]
  | r :: ms => (r.2.1 - s) :: gaps r.2.2 w ms
theorem pts_eq (w : Int) : ∀ (ms : List Rw) (s : Int), pts s w ms = s :: (ms.flatMap fun r => [r.2.1, r.2.2]) ++ [w]
  | [], _ => rfl
  | r :: ms, s => by
    show s :: r.2.1 :: pts r.2.2 w ms = _
    rw [pts_eq w ms r.2.2]
    rfl
theorem pts_length (w : Int) : ∀ (ms : List Rw) (s : Int), (pts s w ms).length = 2 * (ms.length + 1)
  | [], _ => rfl
  | r :: ms, s => by
    show (pts r.2.2 w ms).length + 1 + 1 = 2 * (ms.length + 1 + 1)
    rw [pts_length w ms r.2.2]
    omega
theorem gaps_at (w : Int) : ∀ (ms : List Rw) (s : Int) (i : Nat), i < ms.length + 1 → ∃ x y, (pts s w ms)[2 * i]? = some x ∧ (pts s w ms)[2 * i + 1]? = some y ∧ (gaps s w ms)[i]? = some (y - x)
  | [], s, i, h => by
    have : i = 0 := by simp at h; omega
    subst this
    exact ⟨s, w, rfl, rfl, rfl⟩
  | r :: ms, s, 0, h => ⟨s, r.2.1, rfl, rfl, rfl⟩
  | r :: ms, s, i + 1, h => by
    obtain ⟨x, y, e1, e2, e3⟩ := gaps_at w ms r.2.2 i (by rw [List.length_cons] at h; omega)
    exact ⟨x, y, e1, e2, e3⟩
theorem gaps_length (w : Int) : ∀ (ms : List Rw) (s : Int), (gaps s w ms).length = ms.length + 1
  | [], _ => rfl
  | r :: ms, s => by
    show (gaps r.2.2 w ms).length + 1 = _
    rw [gaps_length w ms r.2.2]
    rfl
theorem gaps_pos {w : Int} : ∀ {ms : List Rw} {s : Int}, Chn s w ms → ∀ y ∈ gaps s w ms, 0 ≤ y
  | [], s, h, y, hy => by
    rw [List.mem_singleton.mp hy]
    have h : s ≤ w := h
    omega
  | r :: ms, s, h, y, hy => by
    rcases List.mem_cons.mp hy with rfl | hy
    · have := h.1; omega
    · exact gaps_pos h.2.2 y hy
theorem gaps_le {w : Int} : ∀ (ms : List Rw) (s l : Int), l ≤ lsEnd (ms.foldl lsStep (l, s)) w ∧ (∀ y ∈ gaps s w ms, y ≤ lsEnd (ms.foldl lsStep (l, s)) w) ∧ (lsEnd (ms.foldl lsStep (l, s)) w = l ∨ lsEnd (ms.foldl lsStep (l, s)) w ∈ gaps s w ms)
  | [], s, l => by
    show l ≤ max l (w - s) ∧ (∀ y ∈ [w - s], y ≤ max l (w - s)) ∧ (max l (w - s) = l ∨ max l (w - s) ∈ [w - s])
    refine ⟨by omega, fun y hy => by rw [List.mem_singleton.mp hy]; omega, ?_⟩
    rcases Int.le_total l (w - s) with h | h
    · rw [Int.max_eq_right h]; exact .inr List.mem_cons_self
    · exact .inl (Int.max_eq_left h)
  | r :: ms, s, l => by
    obtain ⟨h1, h2, h3⟩ := gaps_le (w := w) ms r.2.2 (max l (r.2.1 - s))
    show l ≤ lsEnd (ms.foldl lsStep (max l (r.2.1 - s), r.2.2)) w ∧ (∀ y ∈ (r.2.1 - s) :: gaps r.2.2 w ms, y ≤ lsEnd (ms.foldl lsStep (max l (r.2.1 - s), r.2.2)) w) ∧ _
    refine ⟨by omega, fun y hy => ?_, ?_⟩
    · rcases List.mem_cons.mp hy with rfl | hy
      · omega
      · exact h2 y hy
    · show lsEnd (ms.foldl lsStep (max l (r.2.1 - s), r.2.2)) w = l ∨ lsEnd (ms.foldl lsStep (max l (r.2.1 - s), r.2.2)) w ∈ (r.2.1 - s) :: gaps r.2.2 w ms
      rcases h3 with h3 | h3
      · rcases Int.le_total l (r.2.1 - s) with h | h
        · rw [Int.max_eq_right h] at h3
          rw [Int.max_eq_right h, h3]
          exact .inr List.mem_cons_self
        · rw [Int.max_eq_left h] at h3
          rw [Int.max_eq_left h]
          exact .inl h3
      · exact .inr (List.mem_cons_of_mem _ h3)
theorem stretch_gaps {call wrap : Int} {rows : List Rw} (h : Chn call wrap (meals call wrap rows)) {m : Int} (h1 : m ∈ gaps call wrap (meals call wrap rows)) (h2 : ∀ y ∈ gaps call wrap (meals call wrap rows), y ≤ m) : m = stretch rows call wrap := by
  obtain ⟨q1, q2, q3⟩ := gaps_le (w := wrap) (meals call wrap rows) call 0
  have p1 := gaps_pos h m h1
  have p2 := q2 m h1
  show m = lsEnd _ _
  rcases q3 with q3 | q3
  · omega
  · have := h2 _ q3
    omega
theorem stretch_runs {call wrap : Int} {rows : List Rw} (h : Chn call wrap (meals call wrap rows)) : (runs (0, 0) call (fun m => (meals call wrap rows).any (within m)) (wrap - call).toNat).1 = stretch rows call wrap := runs_of h (Int.le_refl 0)
theorem dark_eq {light dark b e : Int} (hl : light ≤ dark) (hb : b < e) : e - b - max 0 (min e dark - max b light) = nightOf light dark b e := by
  unfold nightOf
  omega
/-! ### the rows of a sheet's hours -/
theorem hours_ok {f : Film} {most : Int} (ok : f.Ok most) {s : Sheet} (hs : s.Ok f.scenes.length) (shot : List Int) (nw : News) (hl : 0 ≤ nw.late ∧ nw.late ≤ 1000) : RowsOk f.scenes.length (hEnd f s shot nw).rows := by
  have hrow : RowOk (s.row nw.rain) f.scenes.length := by
    unfold Sheet.row
    split
    · exact hs.rain
    · exact hs.dry
  have hm := ok.mv
  have hme := ok.ml
  -- step by step
  have go : ∀ (xs : List Int) (t : Hst) (B : Int), (∀ x ∈ xs, x = -1 ∨ (0 ≤ x ∧ x < f.scenes.length)) → (0 ≤ t.clock ∧ t.clock + 300 * xs.length ≤ B) → (∀ r ∈ t.rows, r.1 = -1 ∨ (0 ≤ r.1 ∧ r.1 < f.scenes.length)) → (∀ r ∈ t.rows, 0 ≤ r.2.1 ∧ r.2.1 < r.2.2 ∧ r.2.2 ≤ t.clock) → t.rows.Pairwise (fun r s => r.2.2 ≤ s.2.1) →
      (∀ r ∈ (xs.foldl (hStep f shot nw.ill) t).rows, r.1 = -1 ∨ (0 ≤ r.1 ∧ r.1 < f.scenes.length)) ∧ (∀ r ∈ (xs.foldl (hStep f shot nw.ill) t).rows, 0 ≤ r.2.1 ∧ r.2.1 < r.2.2 ∧ r.2.2 ≤ B) ∧ (xs.foldl (hStep f shot nw.ill) t).rows.Pairwise (fun r s => r.2.2 ≤ s.2.1) ∧ (xs.foldl (hStep f shot nw.ill) t).rows.length ≤ t.rows.length + xs.length := by
    intro xs
    induction xs with
    | nil => exact fun t B _ hc h1 h2 h3 => ⟨h1, fun r hr => by have := h2 r hr; have := hc.2; simp at this; omega, h3, Nat.le_refl _⟩
    | cons x xs ih =>
      intro t B hx hc h1 h2 h3
      have hx0 := hx x List.mem_cons_self
      rw [List.length_cons] at hc
      have hc1 := hc.1
      have hc2 := hc.2
      rw [List.foldl_cons]
      have key : (0 ≤ (hStep f shot nw.ill t x).clock ∧ (hStep f shot nw.ill t x).clock ≤ t.clock + 300) ∧ (∀ r ∈ (hStep f shot nw.ill t x).rows, r.1 = -1 ∨ (0 ≤ r.1 ∧ r.1 < f.scenes.length)) ∧ (∀ r ∈ (hStep f shot nw.ill t x).rows, 0 ≤ r.2.1 ∧ r.2.1 < r.2.2 ∧ r.2.2 ≤ (hStep f shot nw.ill t x).clock) ∧ (hStep f shot nw.ill t x).rows.Pairwise (fun r s => r.2.2 ≤ s.2.1) := by
        -- one row more
        have add : ∀ (b e : Int), t.clock ≤ b → b < e → (∀ r ∈ t.rows ++ [(x, b, e)], r.1 = -1 ∨ (0 ≤ r.1 ∧ r.1 < f.scenes.length)) ∧ (∀ r ∈ t.rows ++ [(x, b, e)], 0 ≤ r.2.1 ∧ r.2.1 < r.2.2 ∧ r.2.2 ≤ e) ∧ (t.rows ++ [(x, b, e)]).Pairwise (fun r s => r.2.2 ≤ s.2.1) := fun b e hb he => by
          refine ⟨fun r hr => ?_, fun r hr => ?_, ?_⟩
          · rcases List.mem_append.mp hr with hr | hr
            · exact h1 r hr
            · rw [List.mem_singleton.mp hr]; exact hx0
          · rcases List.mem_append.mp hr with hr | hr
            · have := h2 r hr; omega
            · rw [List.mem_singleton.mp hr]; show 0 ≤ b ∧ b < e ∧ e ≤ e; omega
          · rw [List.pairwise_append]
            refine ⟨h3, List.pairwise_singleton _ _, fun r hr s hs => ?_⟩
            rw [List.mem_singleton.mp hs]
            have := h2 r hr
            show r.2.2 ≤ b
            omega
        unfold hStep
        split
        · obtain ⟨a1, a2, a3⟩ := add t.clock (t.clock + f.meal) (Int.le_refl _) (by omega)
          exact ⟨by show 0 ≤ t.clock + f.meal ∧ t.clock + f.meal ≤ _; omega, a1, a2, a3⟩
        · split
          · exact ⟨by omega, h1, h2, h3⟩
          · split
            · exact ⟨by show 0 ≤ t.clock ∧ t.clock ≤ _; omega, h1, h2, h3⟩
            · rename_i n1 _ _
              have hsc := ok.scene _ (Film.scAt (f := f) (x := x) (by omega) (by omega)).2
              have m0 := hsc.m0
              have m1 := hsc.m1
              have hM : t.clock ≤ hMoved f (f.sc x) t ∧ hMoved f (f.sc x) t ≤ t.clock + 60 := by
                unfold hMoved
                split
                · split <;> omega
                · omega
              obtain ⟨a1, a2, a3⟩ := add (hMoved f (f.sc x) t) (hMoved f (f.sc x) t + (f.sc x).mins) hM.1 (by omega)
              exact ⟨by show 0 ≤ hMoved f (f.sc x) t + (f.sc x).mins ∧ hMoved f (f.sc x) t + (f.sc x).mins ≤ _; omega, a1, a2, a3⟩
      obtain ⟨k1, k2, k3, k4⟩ := key
      obtain ⟨i1, i2, i3, i4⟩ := ih _ B (fun y hy => hx y (List.mem_cons_of_mem _ hy)) ⟨k1.1, by omega⟩ k2 k3 k4
      have := (hStep_fallen f shot nw.ill t x).2
      exact ⟨i1, i2, i3, by rw [List.length_cons]; omega⟩
  have hc0 := hs.c0
  have hc1 := hs.c1
  have hlen := hrow.1
  obtain ⟨g1, g2, g3, g4⟩ := go (s.row nw.rain) (hStart s nw) 100000 hrow.2 ⟨by show 0 ≤ s.call + nw.late; omega, by show s.call + nw.late + _ ≤ _; omega⟩ (fun r hr => nomatch hr) (fun r hr => nomatch hr) List.Pairwise.nil
  exact ⟨by have : (hStart s nw).rows.length = 0 := rfl; unfold hEnd; omega, g1, g2, g3⟩

def topS (i : Nat) : Stmt := PySem.Challenge.pw_callsheets_k11_figures_of_days.main.body.getD i (.Pass ⟨0, 0, 0, 0⟩)
local macro_rules | `(tactic| walk_at "ix") => `(tactic| (first | with_reducible exact IxOf.here | with_reducible exact IxOf.next IxOf.here | with_reducible exact IxOf.next (IxOf.next IxOf.here) | with_reducible exact IxOf.next (IxOf.next (IxOf.next IxOf.here)) | with_reducible exact IxOf.next (IxOf.next (IxOf.next (IxOf.next IxOf.here))) | with_reducible exact IxOf.next (IxOf.next (IxOf.next (IxOf.next (IxOf.next IxOf.here)))) | with_reducible exact IxOf.next (IxOf.next (IxOf.next (IxOf.next (IxOf.next (IxOf.next IxOf.here))))) | with_reducible exact IxOf.next (IxOf.next (IxOf.next (IxOf.next (IxOf.next (IxOf.next (IxOf.next IxOf.here)))))) | with_reducible exact IxOf.next (IxOf.next (IxOf.next (IxOf.next (IxOf.next (IxOf.next (IxOf.next (IxOf.next IxOf.here))))))) | with_reducible exact IxOf.next (IxOf.next (IxOf.next (IxOf.next (IxOf.next (IxOf.next (IxOf.next (IxOf.next (IxOf.next IxOf.here)))))))) | with_reducible exact IxOf.next (IxOf.next (IxOf.next (IxOf.next (IxOf.next (IxOf.next (IxOf.next (IxOf.next (IxOf.next (IxOf.next IxOf.here))))))))) | with_reducible exact IxOf.next (IxOf.next (IxOf.next (IxOf.next (IxOf.next (IxOf.next (IxOf.next (IxOf.next (IxOf.next (IxOf.next (IxOf.next IxOf.here)))))))))) | with_reducible exact IxOf.next (IxOf.next (IxOf.next (IxOf.next (IxOf.next (IxOf.next (IxOf.next (IxOf.next (IxOf.next (IxOf.next (IxOf.next (IxOf.next IxOf.here))))))))))) | with_reducible exact IxOf.next (IxOf.next (IxOf.next (IxOf.next (IxOf.next (IxOf.next (IxOf.next (IxOf.next (IxOf.next (IxOf.next (IxOf.next (IxOf.next (IxOf.next IxOf.here)))))))))))) | with_reducible exact IxOf.next (IxOf.next (IxOf.next (IxOf.next (IxOf.next (IxOf.next (IxOf.next (IxOf.next (IxOf.next (IxOf.next (IxOf.next (IxOf.next (IxOf.next (IxOf.next IxOf.here))))))))))))) | with_reducible exact IxOf.next (IxOf.next (IxOf.next (IxOf.next (IxOf.next (IxOf.next (IxOf.next (IxOf.next (IxOf.next (IxOf.next (IxOf.next (IxOf.next (IxOf.next (IxOf.next (IxOf.next IxOf.here)))))))))))))) | with_reducible exact IxOf.next (IxOf.next (IxOf.next (IxOf.next (IxOf.next (IxOf.next (IxOf.next (IxOf.next (IxOf.next (IxOf.next (IxOf.next (IxOf.next (IxOf.next (IxOf.next (IxOf.next (IxOf.next IxOf.here))))))))))))))) | with_reducible exact IxOf.next (IxOf.next (IxOf.next (IxOf.next (IxOf.next (IxOf.next (IxOf.next (IxOf.next (IxOf.next (IxOf.next (IxOf.next (IxOf.next (IxOf.next (IxOf.next (IxOf.next (IxOf.next (IxOf.next IxOf.here)))))))))))))))) | with_reducible exact IxOf.next (IxOf.next (IxOf.next (IxOf.next (IxOf.next (IxOf.next (IxOf.next (IxOf.next (IxOf.next (IxOf.next (IxOf.next (IxOf.next (IxOf.next (IxOf.next (IxOf.next (IxOf.next (IxOf.next (IxOf.next IxOf.here))))))))))))))))) | with_reducible exact IxOf.next (IxOf.next (IxOf.next (IxOf.next (IxOf.next (IxOf.next (IxOf.next (IxOf.next (IxOf.next (IxOf.next (IxOf.next (IxOf.next (IxOf.next (IxOf.next (IxOf.next (IxOf.next (IxOf.next (IxOf.next (IxOf.next IxOf.here)))))))))))))))))) | with_reducible exact IxOf.next (IxOf.next (IxOf.next (IxOf.next (IxOf.next (IxOf.next (IxOf.next (IxOf.next (IxOf.next (IxOf.next (IxOf.next (IxOf.next (IxOf.next (IxOf.next (IxOf.next (IxOf.next (IxOf.next (IxOf.next (IxOf.next (IxOf.next IxOf.here))))))))))))))))))) | with_reducible exact IxOf.next (IxOf.next (IxOf.next (IxOf.next (IxOf.next (IxOf.next (IxOf.next (IxOf.next (IxOf.next (IxOf.next (IxOf.next (IxOf.next (IxOf.next (IxOf.next (IxOf.next (IxOf.next (IxOf.next (IxOf.next (IxOf.next (IxOf.next (IxOf.next IxOf.here)))))))))))))))))))) | with_reducible exact IxOf.next (IxOf.next (IxOf.next (IxOf.next (IxOf.next (IxOf.next (IxOf.next (IxOf.next (IxOf.next (IxOf.next (IxOf.next (IxOf.next (IxOf.next (IxOf.next (IxOf.next (IxOf.next (IxOf.next (IxOf.next (IxOf.next (IxOf.next (IxOf.next (IxOf.next IxOf.here))))))))))))))))))))) | with_reducible exact IxOf.next (IxOf.next (IxOf.next (IxOf.next (IxOf.next (IxOf.next (IxOf.next (IxOf.next (IxOf.next (IxOf.next (IxOf.next (IxOf.next (IxOf.next (IxOf.next (IxOf.next (IxOf.next (IxOf.next (IxOf.next (IxOf.next (IxOf.next (IxOf.next (IxOf.next (IxOf.next IxOf.here))))))))))))))))))))))))
local macro_rules | `(tactic| walk_at "vis") => `(tactic| (first | exact Or.inl rfl | exact Or.inr (Or.inl rfl) | exact Or.inr (Or.inr rfl)))
local macro_rules | `(tactic| walk_at "loc") => `(tactic| (first | exact Or.inl rfl | exact Or.inr rfl))
local macro_rules | `(tactic| walk_at "go1") => `(tactic| first
  | ((with_reducible show ASs _ _ _ (_ :: _) _ _ _ _ _); refine ASs_cons ?_)
  | ((with_reducible show ASs _ _ _ [] _ _ _ _ _); refine ASs_nil ?_)
  | ((with_reducible show AS _ _ _ (Stmt.Return (some _) _) _ _ _ _ _); refine AS_ret ?_)
  | ((with_reducible show AS _ _ _ (Stmt.If _ _ _ _) _ _ _ _ _); refine AS_if ?_)
  | ((with_reducible show AS _ _ _ (Stmt.Expr _ _) _ _ _ _ _); refine AS_expr ?_)
  | ((with_reducible show AS _ _ _ (Stmt.Break _) _ _ _ _ _); refine AS_break ?_)
  | ((with_reducible show AS _ _ _ (Stmt.Continue _) _ _ _ _ _); refine AS_continue ?_)
  | ((with_reducible show AS _ _ _ (Stmt.Assign [Expr.Name _ _] (Expr.ListComp _ _ _ _) _) _ _ _ _ _); fail)
  | ((with_reducible show AS _ _ _ (Stmt.Assign [Expr.Name _ _] _ _) _ _ _ _ _); refine AS_set (by walk_at "ix") (by walk_at "loc") ?_)
  | ((with_reducible show AE _ _ _ (Expr.Name (Str.ofString "MEAL") _) _ _); refine AE_glob (v := .int (-1)) (by rfl) (by assumption) ⟨_, rfl⟩ (fun _ _ => .int _) ?_)
  | ((with_reducible show AE _ _ _ (Expr.Name (Str.ofString "DAY") _) _ _); refine AE_glob (v := .int 1440) (by rfl) (by assumption) ⟨_, rfl⟩ (fun _ _ => .int _) ?_)
  | ((with_reducible show AE _ _ _ (Expr.Name (Str.ofString "NO_REST") _) _ _); refine AE_glob (v := .int 9999) (by rfl) (by assumption) ⟨_, rfl⟩ (fun _ _ => .int _) ?_)
  | ((with_reducible show AE _ _ _ (Expr.Name _ _) _ _); first | (refine AE_var (by walk_at "ix") (by walk_at "vis") rfl ?_) | (refine AE_al (by walk_at "ix") (by walk_at "vis") rfl rfl ?_))
  | ((with_reducible show AE _ _ _ (Expr.Constant (Const.int _) _ _) _ _); refine AE_int ?_)
  | ((with_reducible show AE _ _ _ (Expr.Constant (Const.str _) _ _) _ _); refine AE_str ?_)
  | ((with_reducible show AE _ _ _ (Expr.Constant Const.none _ _) _ _); refine AE_none ?_)
  | ((with_reducible show AE _ _ _ (Expr.Constant (Const.bool _) _ _) _ _); refine AE_bool ?_)
  | ((with_reducible show AE _ _ _ (Expr.BinOp _ _ _ _) _ _); refine AE_bin ?_)
  | ((with_reducible show AE _ _ _ (Expr.Compare _ [_] [_] _) _ _); refine AE_cmp ?_)
  | ((with_reducible show AE _ _ _ (Expr.Compare _ [_, _] [_, _] _) _ _); refine AE_chain ?_)
  | ((with_reducible show AE _ _ _ (Expr.UnaryOp UnaryOp.Not _ _) _ _); refine AE_not ?_)
  | ((with_reducible show AE _ _ _ (Expr.UnaryOp _ _ _) _ _); refine AE_un ?_)
  | ((with_reducible show AE _ _ _ (Expr.BoolOp _ [_] _) _ _); refine AE_one ?_)
  | ((with_reducible show AE _ _ _ (Expr.BoolOp BoolOp.And _ _) _ _); refine AE_and ?_)
  | ((with_reducible show AE _ _ _ (Expr.BoolOp BoolOp.Or _ _) _ _); refine AE_or ?_)
  | ((with_reducible show AE _ _ _ (Expr.IfExp (Expr.Compare _ _ _ _) _ _ _) _ _); refine AE_ifexp ?_)
  | ((with_reducible show AE _ _ _ (Expr.IfExp (Expr.BoolOp _ _ _) _ _ _) _ _); refine AE_ifexp ?_)
  | ((with_reducible show AE _ _ _ (Expr.IfExp (Expr.UnaryOp _ _ _) _ _ _) _ _); refine AE_ifexp ?_)
  | ((with_reducible show AE _ _ _ (Expr.IfExp (Expr.Call _ _ _ _) _ _ _) _ _); refine AE_ifexp ?_)
  | ((with_reducible show AE _ _ _ (Expr.Subscript _ (Expr.Slice none (some (Expr.Constant (Const.int _) _ _)) none _) _) _ _); refine AE_sliceTo (by decide) ?_)
  | ((with_reducible show AE _ _ _ (Expr.Subscript _ _ _) _ _); refine AE_sub ?_)
  | ((with_reducible show AE _ _ _ (Expr.Tuple _ _ _) _ _); refine AE_tup ?_)
  | ((with_reducible show AE _ _ _ (Expr.List _ _) _ _); refine AE_lst ?_)
  | ((with_reducible show AE _ _ _ (Expr.Call (Expr.Name (Str.ofString "tuple") _) [Expr.Call (Expr.Name (Str.ofString "sorted") _) [Expr.Call (Expr.Name (Str.ofString "set") _) [_] [] _] [] _] [] _) _ _); refine AE_sortedSet ?_)
  | ((with_reducible show AE _ _ _ (Expr.Call (Expr.Name (Str.ofString "len") _) [_] [] _) _ _); refine AE_len ?_)
  | ((with_reducible show AE _ _ _ (Expr.Call (Expr.Name (Str.ofString "tuple") _) [_] [] _) _ _); refine AE_tuple ?_)
  | ((with_reducible show AE _ _ _ (Expr.Call (Expr.Name (Str.ofString "list") _) [Expr.Call (Expr.Name (Str.ofString "range") _) [_] [] _] [] _) _ _); refine AE_listRange ?_)
  | ((with_reducible show AE _ _ _ (Expr.Call (Expr.Name (Str.ofString "list") _) [_] [] _) _ _); refine AE_listOf ?_)
  | ((with_reducible show AE _ _ _ (Expr.Call (Expr.Name (Str.ofString "abs") _) [_] [] _) _ _); refine AE_absI ?_)
  | ((with_reducible show AE _ _ _ (Expr.Call (Expr.Name (Str.ofString "int") _) [_] [] _) _ _); refine AE_intI ?_)
  | ((with_reducible show AE _ _ _ (Expr.Call (Expr.Name (Str.ofString "str") _) [_] [] _) _ _); refine AE_strI ?_)
  | ((with_reducible show AE _ _ _ (Expr.Call (Expr.Name (Str.ofString "sum") _) [_] [] _) _ _); refine AE_sum ?_)
  | ((with_reducible show AE _ _ _ (Expr.Call (Expr.Name (Str.ofString "any") _) [_] [] _) _ _); refine AE_any ?_)
  | ((with_reducible show AE _ _ _ (Expr.Call (Expr.Name (Str.ofString "all") _) [_] [] _) _ _); refine AE_all ?_)
  | ((with_reducible show AE _ _ _ (Expr.Call (Expr.Name (Str.ofString "max") _) [_] [] _) _ _); refine AE_max1 ?_)
  | ((with_reducible show AE _ _ _ (Expr.Call (Expr.Name (Str.ofString "min") _) [_] [] _) _ _); refine AE_min1 ?_)
  | ((with_reducible show AE _ _ _ (Expr.Call (Expr.Name (Str.ofString "sorted") _) [_] [] _) _ _); refine AE_sortedI ?_)
  | ((with_reducible show AE _ _ _ (Expr.Call (Expr.Name (Str.ofString "max") _) [_, _] [] _) _ _); refine AE_max2 ?_)
  | ((with_reducible show AE _ _ _ (Expr.Call (Expr.Name (Str.ofString "min") _) [_, _] [] _) _ _); refine AE_min2 ?_)
  | ((with_reducible show AE _ _ _ (Expr.Call (Expr.Attribute _ (Str.ofString "append") _) [_] [] _) _ _); refine AE_append ?_)
  | ((with_reducible show AE _ _ _ (Expr.Call (Expr.Attribute _ (Str.ofString "extend") _) [_] [] _) _ _); refine AE_extend ?_)
  | ((with_reducible show AE _ _ _ (Expr.Call (Expr.Attribute _ (Str.ofString "pop") _) [_] [] _) _ _); refine AE_popAt ?_)
  | ((with_reducible show AE _ _ _ (Expr.Call (Expr.Name (Str.ofString "_law_take") _) (_ :: _) [] _) _ _); refine AE_take (by assumption) (by decide) (by rfl) ?_)
  | ((with_reducible show AE _ _ _ (Expr.Call (Expr.Name (Str.ofString "_law_pick") _) (_ :: _) [] _) _ _); refine AE_pick (by assumption) (by decide) (by rfl) ?_)
  | ((with_reducible show AE _ _ _ (Expr.Call (Expr.Name _ _) (_ :: _) [] _) _ _); refine AE_call (by assumption) (by decide) (by rfl) ?_)
  | ((with_reducible show AA _ _ _ (_ :: _) _ _); refine AA_arg ?_)
  | ((with_reducible show AA _ _ _ [] _ _); refine AA_nil ?_)
  | ((with_reducible show AT _ _ _ (Expr.Compare _ [_] [_] _) _ _); refine AT_cmp ?_)
  | ((with_reducible show AT _ _ _ (Expr.Compare _ [_, _] [_, _] _) _ _); refine AT_chain ?_)
  | ((with_reducible show AT _ _ _ (Expr.BoolOp _ _ _) _ _); refine AT_wh ?_)
  | ((with_reducible show AT _ _ _ (Expr.UnaryOp UnaryOp.Not _ _) _ _); refine AT_not ?_)
  | ((with_reducible show AW _ _ _ (Expr.BoolOp BoolOp.And [_] _) _ _); refine AW_and1 ?_)
  | ((with_reducible show AW _ _ _ (Expr.BoolOp BoolOp.Or [_] _) _ _); refine AW_or1 ?_)
  | ((with_reducible show AW _ _ _ (Expr.BoolOp BoolOp.And _ _) _ _); refine AW_and ?_)
  | ((with_reducible show AW _ _ _ (Expr.BoolOp BoolOp.Or _ _) _ _); refine AW_or ?_)
  | ((with_reducible show CallD _ _ _ _); refine CallD.mk rfl ?_)
  | ((with_reducible show AIx _ _ _ _ _ _ _); first | (refine AIx_seq rfl (by assumption) ?_) | (refine AIx_seq rfl rfl ?_))
  | ((with_reducible show AU _ _ _ (unaryOp UnaryOp.USub) _ _ _); refine AU_neg ?_)
  | ((with_reducible show AO _ _ _ (binaryOp Operator.Add) _ _ _ _); first | (refine AO_add ?_) | (refine AO_addS (by walk_at "len") ?_) | (refine AO_catT (by (rw [sizeLine_eq]; simp only [List.length_append, List.length_take, List.length_map, List.length_cons, List.length_nil]; omega)) ?_))
  | ((with_reducible show AO _ _ _ (binaryOp Operator.Sub) _ _ _ _); first | (refine AO_sub ?_))
  | ((with_reducible show AO _ _ _ (binaryOp Operator.Mult) _ _ _ _); first | (refine AO_mul (by omega) ?_))
  | ((with_reducible show AO _ _ _ (binaryOp Operator.Mod) _ _ _ _); first | (refine AO_mod (by omega) ?_))
  | ((with_reducible show AO _ _ _ (binaryOp Operator.FloorDiv) _ _ _ _); first | (refine AO_fdiv (by omega) ?_))
  | ((with_reducible show AO _ _ _ (compareOp CmpOp.Lt) _ _ _ _); first | (refine AO_lt ?_))
  | ((with_reducible show AO _ _ _ (compareOp CmpOp.LtE) _ _ _ _); first | (refine AO_le ?_))
  | ((with_reducible show AO _ _ _ (compareOp CmpOp.Gt) _ _ _ _); first | (refine AO_gt ?_))
  | ((with_reducible show AO _ _ _ (compareOp CmpOp.GtE) _ _ _ _); first | (refine AO_ge ?_))
  | ((with_reducible show AO _ _ _ (compareOp CmpOp.Eq) _ _ _ _); first | (refine AO_eq ?_) | (refine AO_eqS ?_) | (refine AO_eqB ?_))
  | ((with_reducible show AO _ _ _ (compareOp CmpOp.NotEq) _ _ _ _); first | (refine AO_ne ?_) | (refine AO_neS ?_))
  | ((with_reducible show AO _ _ _ (compareOp CmpOp.Is) _ _ _ _); first | (refine AO_isN ?_))
  | ((with_reducible show AO _ _ _ (compareOp CmpOp.IsNot) _ _ _ _); first | (refine AO_notN ?_))
  | ((with_reducible show AO _ _ _ (compareOp CmpOp.In) _ _ _ _); first | (refine AO_inI rfl ?_) | (refine AO_inS rfl ?_))
  | ((with_reducible show AO _ _ _ (compareOp CmpOp.NotIn) _ _ _ _); first | (refine AO_notInI rfl ?_) | (refine AO_notInS rfl ?_)))
local macro_rules | `(tactic| walk_at "leaf") => `(tactic| first
  | (refine ⟨_, rfl, ⟨by omega, by omega⟩, fun _ _ _ => ?_⟩)
  | (refine ⟨_, rfl, Nat.le_of_ble_eq_true rfl, ?_⟩)
  | (refine ⟨_, Or.inl ⟨_, rfl, rfl⟩, ?_⟩)
  | (refine ⟨_, Or.inl rfl, ?_⟩)
  | (refine ⟨_, Or.inr ⟨_, rfl, rfl⟩, ?_⟩)
  | (refine ⟨_, _, rfl, rfl, Stores.dat _, ?_⟩)
  | (refine ⟨_, rfl, by omega, by omega, ?_⟩)
  | (refine ⟨_, rfl, by omega, ?_⟩)
  | (refine ⟨_, _, rfl, rfl, ?_⟩)
  | (refine ⟨_, _, rfl, rfl, Stores.own _, ?_⟩)
  | (refine ⟨_, rfl, rfl, ?_⟩)
  | (refine ⟨_, rfl, ?_⟩)
  | (refine iteT ?_))
local macro_rules | `(tactic| walk_at "go") => `(tactic| repeat (first | walk_at "go1" | ((with_reducible show ∃ _, _); walk_at "leaf") | (refine iteT ?_) | (refine iteF ?_)))
local macro_rules | `(tactic| walk_at "fgt") => `(tactic| (repeat (first | exact Fgt.nil | refine Fgt.keep ?_ | refine Fgt.drop ?_)))
local macro_rules | `(tactic| walk_at "len") => `(tactic| (first | assumption | exact cn_len (by decide) (by omega) (by omega)))


abbrev sBegin : Stmt := topS 8
abbrev sTake : Stmt := topS 9
abbrev sPick : Stmt := topS 10
abbrev sFilm : Stmt := topS 11
theorem scBegin : FnScope ["script", "seed", "cell"] ["script"] (defScope sBegin) := ⟨rfl, rfl, rfl, by decide +kernel, rfl, by decide +kernel, by decide +kernel⟩
theorem scTake : FnScope ["d", "many", "small", "digit"] ["d", "many"] (defScope sTake) := ⟨rfl, rfl, rfl, by decide +kernel, rfl, by decide +kernel, by decide +kernel⟩
theorem scPick : FnScope ["d", "menu"] ["d", "menu"] (defScope sPick) := ⟨rfl, rfl, rfl, by decide +kernel, rfl, by decide +kernel, by decide +kernel⟩
section
variable {P : Program} {w : World} {K : PySem.W.Frag} {mg : Str → Option Value} {base : Heap}
/-- [the script's cells, 0, 0, a seed], new -/
def spBegin (K : PySem.W.Frag) : Sp := fun vs H Q _ => ∃ (a : Addr) (ns : List Int), vs = [.ref a] ∧ SqL K H a (ns.map V.int) ∧ ∀ (H' : Hp) (p c : Addr) (s : Int), Same H H' → H p = none → H c = none → DrawAt H' p c ns 0 0 s → Q (.ref p) H'
theorem ok_begin {f : Addr} {fd : FuncData} (F : Fun K "_law_begin" "_law_begin" sBegin f fd) (bi : Bi mg) : FnOk P w K mg base CX0 1 f fd ["script"] (spBegin K) := by
  refine F.ok scBegin (fun vs H Q E h => ?_) (fun cdv A outer s H vs Q E hr h => ?_)
  · obtain ⟨a, ns, rfl, _⟩ := h
    rfl
  · obtain ⟨a, ns, rfl, hS, q⟩ := h
    refine ⟨_, pss_cons (ps_set (i := 1) scBegin.nd rfl (.inl rfl) pe_int)
      (pss_cons (ps_for PassesOwn.never rfl (pi_list (pv 0)) (pg_name (i := 2) scBegin.nd rfl (.inl rfl))
        (pss_one (ps_set (i := 1) scBegin.nd rfl (.inl rfl) (pe_op op_mod (pe_op op_add (pe_op op_add (pe_op op_mul (pv 1) pe_int) (pe_op op_mod (pe_callTy call_int1 (by rfl) bi.int (by decide +kernel) (pa_cons (pv 2) pa_nil)) pe_int)) pe_int) pe_int))))
      (pss_one (ps_ret (pe_lst (pa_cons (pe_callTy call_list_of (by rfl) bi.list (by decide +kernel) (pa_cons (pv 0) pa_nil)) (pa_cons pe_int (pa_cons pe_int (pa_cons (pv 1) pa_nil)))))))), ?_⟩
    refine ⟨_, rfl, a, rfl, ⟨_, hS⟩, for_list (K := K) (a := a) (xs := ns.map V.int) (fun i σ H' => ∃ (z : Int) (v : Option V), σ = [some (.ref a), some (.int z), v] ∧ H' = H ∧ 0 ≤ z ∧ z < 2147483647) ⟨1, none, rfl, rfl, by decide, by decide⟩ (fun i σ H' _ ⟨_, _, _, e, _⟩ => by rw [e]; exact hS) ?_ ?_⟩
    · rintro i y σ H' hi ⟨z, v, rfl, rfl, z0, z1⟩
      obtain ⟨n, rfl⟩ : ∃ n, y = V.int n := by
        rw [List.getElem?_map] at hi
        cases e : ns[i]? with
        | none => rw [e] at hi; cases hi
        | some n => rw [e] at hi; exact ⟨n, (Option.some.inj hi).symm⟩
      refine ⟨_, rfl, _, _, rfl, rfl, .inl ⟨by omega, by omega⟩, _, rfl, .inl ⟨_, rfl, _, _, rfl, rfl, (by show (0 : Int) < 2147483629; decide), _, _, rfl, rfl, _, _, rfl, rfl, _, _, rfl, rfl, (by show (0 : Int) < 2147483647; decide), ?_⟩⟩
      exact ⟨_, _, rfl, rfl, Int.emod_nonneg _ (by decide), Int.emod_lt_of_pos _ (by decide)⟩
    · rintro σ H' ⟨z, v, rfl, rfl, z0, z1⟩
      refine ⟨_, rfl, a, _, rfl, .inl hS, fun c hc => ⟨_, rfl, (by show 4 ≤ sizeLine; rw [sizeLine_eq]; decide), fun p hp => ?_⟩⟩
      have ncp : c ≠ p := fun e => by rw [e, upd_same] at hp; cases hp
      have hp' : H' p = none := by rw [upd_ne ncp.symm] at hp; exact hp
      refine q _ p c z (fun b o e => ?_) hp' hc ⟨upd_same, by rw [upd_ne ncp, upd_same], ncp, Int.le_refl 0, Int.le_refl 0, z0, z1⟩
      rw [upd_ne (ne_of_none e hp'), upd_ne (ne_of_none e hc)]
      exact e
theorem ok_take {f : Addr} {fd : FuncData} (F : Fun K "_law_take" "_law_take" sTake f fd) (bi : Bi mg) : FnOk P w K mg base CX0 1 f fd ["d", "many"] (mkSp K ATake) := by
  refine F.ok scTake (fun vs H Q E h => ?_) (fun cdv A outer s H vs Q E hr h => ?_)
  · obtain ⟨S, Ds, post, ⟨many, rfl, _⟩, R, _⟩ := h
    have := R.len
    rw [List.length_map] at this
    exact this
  · obtain ⟨S, Ds, post, ⟨many, rfl, ⟨m0, m1⟩, hpost⟩, R, q⟩ := h
    obtain ⟨p, c, ns, i, b, sd, e0, D, sc⟩ := drw_open R (i := 0) rfl
    obtain ⟨x, e1, t1⟩ := R.rel 1 _ rfl
    have hvs : vs = [.ref p, .int many] := by
      have hl := R.len
      rw [List.length_map] at hl
      match vs, hl with
      | [u, v], _ =>
        cases e0
        cases e1
        cases t1
        rfl
    subst hvs
    have fin : ∀ (r i' b' s' : Int) (H' : Hp), 0 ≤ r → r < many → 0 ≤ i' → 0 ≤ b' → 0 ≤ s' → s' < 2147483647 → H' = upd H p (.lst [.ref c, .int i', .int b', .int s']) → Q (.int r) H' := fun r i' b' s' H' h0 h1 h2 h3 h4 h5 e => by
      rw [e]
      exact q (.int r) (.dat (.int r)) S _ (hpost r h0 h1) (drw_close R rfl e0 sc D.cells h2 h3 h4 h5) (.int r)
    refine ⟨_, Evl.pss_cut (ps_if (PW.pt (pw_and (pt_cmpR op_eq (pe_ix ix_list (pv 0) pe_int (fun _ _ => rfl)) pe_int (nomark _)) (pw_and1 (pt_cmpR op_lt (pe_ix ix_list (pv 0) pe_int (fun _ _ => rfl)) (pe_callB call_len_seq (by rfl) bi.len PySem.boot_len (pa_cons (pe_ix ix_list (pv 0) pe_int (fun _ _ => rfl)) pa_nil)) (nomark _)))))
        (pss_cons (ps_asg (pe_callB call_abs (by rfl) bi.abs (by decide +kernel) (pa_cons (pe_callTy call_int1 (by rfl) bi.int (by decide +kernel) (pa_cons (pe_ix ix_list (pe_ix ix_list (pv 0) pe_int (fun _ _ => rfl)) (pe_ix ix_list (pv 0) pe_int (fun _ _ => rfl)) (fun _ _ => rfl)) pa_nil)) pa_nil)) (pg_sub (pv 0) pe_int set_list))
        (pss_cons (ps_asg (pe_op op_add (pe_ix ix_list (pv 0) pe_int (fun _ _ => rfl)) pe_int) (pg_sub (pv 0) pe_int set_list))
        (pss_one (ps_if (pt_cmpR op_lt (pe_ix ix_list (pv 0) pe_int (fun _ _ => rfl)) (pe_op op_pow pe_int pe_int) (nomark _))
          (pss_cons (ps_set (i := 2) scTake.nd rfl (.inl rfl) (pe_callTy call_int1 (by rfl) bi.int (by decide +kernel) (pa_cons (pe_ix ix_list (pv 0) pe_int (fun _ _ => rfl)) pa_nil)))
          (pss_cons (ps_asg pe_int (pg_sub (pv 0) pe_int set_list))
          (pss_one (ps_ret (pe_op op_mod (pv 2) (pv 1)))))) pss_nil)))) pss_nil)
      (pss_cons (ps_if (pt_cmpR op_gt (pe_ix ix_list (pv 0) pe_int (fun _ _ => rfl)) pe_int (nomark _))
        (pss_cons (ps_set (i := 3) scTake.nd rfl (.inl rfl) (pe_op op_mod (pe_callTy call_int1 (by rfl) bi.int (by decide +kernel) (pa_cons (pe_ix ix_list (pv 0) pe_int (fun _ _ => rfl)) pa_nil)) (pv 1)))
        (pss_cons (ps_asg (pe_op op_fdiv (pe_callTy call_int1 (by rfl) bi.int (by decide +kernel) (pa_cons (pe_ix ix_list (pv 0) pe_int (fun _ _ => rfl)) pa_nil)) (pv 1)) (pg_sub (pv 0) pe_int set_list))
        (pss_one (ps_ret (pv 3))))) pss_nil)
      (pss_cons (ps_asg (pe_op op_mod (pe_callTy call_int1 (by rfl) bi.int (by decide +kernel) (pa_cons (pe_op op_add (pe_op op_mul (pe_ix ix_list (pv 0) pe_int (fun _ _ => rfl)) pe_int) pe_int) pa_nil)) pe_int) (pg_sub (pv 0) pe_int set_list))
      (pss_one (ps_ret (pe_op op_mod (pe_callTy call_int1 (by rfl) bi.int (by decide +kernel) (pa_cons (pe_op op_fdiv (pe_ix ix_list (pv 0) pe_int (fun _ _ => rfl)) pe_int) pa_nil)) (pv 1)))))), ?_⟩
    have hS : SqL K H p [.ref c, .int i, .int b, .int sd] := SqL.of D.at_
    have em : ∀ z : Int, 0 ≤ z % many ∧ z % many < many := fun z => ⟨Int.emod_nonneg _ (by omega), Int.emod_lt_of_pos _ m0⟩
    refine ⟨fun σ' H' => ∃ y2 i' b', σ' = [some (.ref p), some (.int many), y2, none] ∧ 0 ≤ i' ∧ 0 ≤ b' ∧ H' p = some (.lst [.ref c, .int i', .int b', .int sd]) ∧ ∀ o, upd H' p o = upd H p o, ?_, ?_⟩
    · have out : ∃ y2 i' b', [some (V.ref p), some (V.int many), none, none] = [some (.ref p), some (.int many), y2, none] ∧ 0 ≤ i' ∧ 0 ≤ b' ∧ H p = some (.lst [.ref c, .int i', .int b', .int sd]) ∧ ∀ o, upd H p o = upd H p o := ⟨none, i, b, rfl, D.i0, D.b0, D.at_, fun _ => rfl⟩
      refine ⟨_, rfl, p, _, _, _, rfl, rfl, hS, rfl, rfl, _, rfl, ?_⟩
      refine ite2 (fun _ => ?_) (fun _ => iteF out)
      refine ⟨_, rfl, p, _, _, _, rfl, rfl, hS, rfl, _, rfl, p, _, _, _, rfl, rfl, hS, rfl, c, _, rfl, .inl (SqL.of D.cells), _, _, rfl, rfl, _, rfl, ?_⟩
      refine ite2 (fun c2 => ?_) (fun _ => out)
      have c2 : i < ((ns.map V.int).length : Nat) := of_decide_eq_true c2
      rw [List.length_map] at c2
      obtain ⟨n, hn, _, _⟩ := atI_some (xs := ns) D.i0 c2
      have hn' : atI (ns.map V.int) i = some (.int n) := by
        unfold atI at hn ⊢
        rw [List.length_map]
        cases z : ixN ns.length i with
        | none => rw [z] at hn; cases hn
        | some u =>
          rw [z] at hn
          have hn : ns[u]? = some n := hn
          show (ns.map V.int)[u]? = _
          rw [List.getElem?_map, hn]
          rfl
      -- d[2] = abs(int(d[0][d[1]])); d[1] = d[1] + 1
      refine ⟨_, rfl, p, _, _, _, rfl, rfl, hS, rfl, _, rfl, p, _, _, _, rfl, rfl, hS, rfl, c, _, _, _, rfl, rfl, SqL.of D.cells, hn', .inl ⟨_, rfl, _, rfl, _, rfl, p, _, _, _, rfl, rfl, D.at_, rfl, ?_⟩⟩
      refine ⟨_, rfl, p, _, _, _, rfl, rfl, SqL.of upd_same, rfl, _, _, rfl, rfl, _, rfl, p, _, _, _, rfl, rfl, upd_same, rfl, ?_⟩
      have hab : 0 ≤ (if n < 0 then -n else n) := by split <;> omega
      refine ⟨_, rfl, p, _, _, _, rfl, rfl, SqL.of upd_same, rfl, _, _, rfl, rfl, ⟨by decide, by decide, by decide⟩, _, _, rfl, rfl, _, rfl, ?_⟩
      refine ite2 (fun _ => ?_) (fun _ => ?_)
      · refine ⟨_, rfl, p, _, _, _, rfl, rfl, SqL.of upd_same, rfl, .inl ⟨_, rfl, _, rfl, p, _, _, _, rfl, rfl, upd_same, rfl, _, rfl, _, rfl, _, _, rfl, rfl, m0, ?_⟩⟩
        exact fin _ (i + 1) 0 sd _ (em _).1 (em _).2 (by have := D.i0; omega) (Int.le_refl 0) D.s0 D.s1 (by rw [upd_upd, upd_upd]; rfl)
      · exact ⟨none, i + 1, _, rfl, by have := D.i0; omega, hab, upd_same, fun o => by rw [upd_upd, upd_upd]⟩
    · rintro σ' H' ⟨y2, i', b', rfl, i0, b0, hp, hu⟩
      have hS' : SqL K H' p [.ref c, .int i', .int b', .int sd] := SqL.of hp
      refine ⟨_, rfl, p, _, _, _, rfl, rfl, hS', rfl, _, _, rfl, rfl, _, rfl, ?_⟩
      refine ite2 (fun _ => ?_) (fun _ => ?_)
      · refine ⟨_, rfl, p, _, _, _, rfl, rfl, hS', rfl, .inl ⟨_, rfl, _, rfl, _, _, rfl, rfl, m0, ?_⟩⟩
        refine ⟨_, rfl, p, _, _, _, rfl, rfl, hS', rfl, .inl ⟨_, rfl, _, rfl, _, _, rfl, rfl, ⟨m0, m1⟩, _, rfl, p, _, _, _, rfl, rfl, hp, rfl, _, rfl, ?_⟩⟩
        exact fin _ i' (b' / many) sd _ (em _).1 (em _).2 i0 (Int.ediv_nonneg b0 (by omega)) D.s0 D.s1 (by rw [hu]; rfl)
      · refine ⟨_, rfl, p, _, _, _, rfl, rfl, hS', rfl, _, _, rfl, rfl, .inr ⟨by decide, by decide⟩, _, _, rfl, rfl, .inl ⟨_, rfl, _, _, rfl, rfl, (by show (0 : Int) < 2147483647; decide), _, rfl, p, _, _, _, rfl, rfl, hp, rfl, ?_⟩⟩
        refine ⟨_, rfl, p, _, _, _, rfl, rfl, SqL.of upd_same, rfl, _, _, rfl, rfl, ⟨by decide, by decide⟩, .inl ⟨_, rfl, _, rfl, _, _, rfl, rfl, m0, ?_⟩⟩
        exact fin _ i' b' _ _ (em _).1 (em _).2 i0 b0 (Int.emod_nonneg _ (by decide)) (Int.emod_lt_of_pos _ (by decide)) (by rw [hu]; rfl)
theorem ok_pick {f : Addr} {fd : FuncData} (F : Fun K "_law_pick" "_law_pick" sPick f fd) (bi : Bi mg) (cT : C8.Cal P w K mg base 1 "_law_take" (mkSp K ATake) []) : FnOk P w K mg base CX0 2 f fd ["d", "menu"] (mkSp K APick) := by
  refine fn_ok F scPick bi (fun Ds post h => ?_) (fun cdv A' outer s H E Ds post h => ?_)
  · obtain ⟨ms, rfl, _⟩ := h
    exact ⟨rfl, fun sd h => by simp at h; rcases h with rfl | rfl <;> rfl⟩
  · obtain ⟨ms, rfl, ⟨hne, hlen⟩, q⟩ := h
    have hpos : 0 < ms.length := List.length_pos_iff.mpr hne
    conv in (defBody _) => whnf
    show ASs _ _ _ _ [SD.drw, SD.dat _] _ _ _ _
    walk_at "go"
    rename_i r h0 h1
    obtain ⟨d, e, _, hm⟩ := atI_some (xs := ms) h0 h1
    refine AIx_seq rfl e ?_
    exact ⟨rfl, q d hm⟩
theorem scFilm : FnScope ["d", "most", "places", "actors", "scenes", "k", "cast", "orders", "first", "minutes", "actor", "second"] ["d", "most"] (defScope sFilm) := ⟨rfl, rfl, rfl, by decide +kernel, rfl, by decide +kernel, by decide +kernel⟩
set_option maxHeartbeats 4000000 in
theorem ok_film {f : Addr} {fd : FuncData} (F : Fun K "_law_film" "_law_film" sFilm f fd) (bi : Bi mg) (cT : C8.Cal P w K mg base 1 "_law_take" (mkSp K ATake) []) (cP : C8.Cal P w K mg base 2 "_law_pick" (mkSp K APick) []) : FnOk P w K mg base CX0 3 f fd ["d", "most"] (mkSp K AFilm) := by
  refine fn_ok F scFilm bi (fun Ds post h => ?_) (fun cdv A' outer s H E Ds post h => ?_)
  · obtain ⟨ms, rfl, _⟩ := h
    exact ⟨rfl, fun sd h => by simp at h; rcases h with rfl | rfl <;> rfl⟩
  · obtain ⟨most, rfl, ⟨hm0, hm1⟩, q⟩ := h
    conv in (defBody _) => whnf
    show ASs _ _ _ _ [SD.drw, SD.dat _, SD.na, SD.na, SD.na, SD.na, SD.na, SD.na, SD.na, SD.na, SD.na, SD.na] _ _ _ _
    walk_at "go"
    -- places
    refine AE_lc (sc := defScope sFilm) (own := [("k", 5)]) (τ := .one 5) (blkOk_by (by decide +kernel)) (by decide) (fun _ _ _ _ _ => tg_one (by walk_at "ix") (by walk_at "loc")) ?_
    refine AI_range1 ?_
    walk_at "go"
    rename_i np hp0 hp1
    refine ⟨rfl, (by rw [rgD_length]; omega), fun i acc => ∃ bs : List Bool, bs.length = i ∧ acc = prsD "p" bs, ⟨[], rfl, rfl⟩, ?_, ?_⟩
    · rintro i d acc hd ⟨bs, rfl, rfl⟩
      obtain ⟨rfl, hi⟩ := rgD_get0 hd
      refine ⟨_, rfl, fun _ _ _ _ _ => ?_⟩
      walk_at "go"
      exact ⟨bs ++ [_], by rw [List.length_append]; rfl, (prsD_snoc _ _ _).symm⟩
    rintro acc ⟨pl, hpl, rfl⟩
    rw [rgD_length] at hpl
    walk_at "go"
    -- actors
    refine AE_lc (sc := defScope sFilm) (own := [("k", 5)]) (τ := .one 5) (blkOk_by (by decide +kernel)) (by decide) (fun _ _ _ _ _ => tg_one (by walk_at "ix") (by walk_at "loc")) ?_
    refine AI_range1 ?_
    walk_at "go"
    rename_i na ha0 ha1
    refine ⟨rfl, (by rw [rgD_length]; omega), fun i acc => ∃ bs : List Bool, bs.length = i ∧ acc = prsD "a" bs, ⟨[], rfl, rfl⟩, ?_, ?_⟩
    · rintro i d acc hd ⟨bs, rfl, rfl⟩
      obtain ⟨rfl, hi⟩ := rgD_get0 hd
      refine ⟨_, rfl, fun _ _ _ _ _ => ?_⟩
      walk_at "go"
      exact ⟨bs ++ [_], by rw [List.length_append]; rfl, (prsD_snoc _ _ _).symm⟩
    rintro acc ⟨al, hal, rfl⟩
    rw [rgD_length] at hal
    have hpD := prsD_length "p" pl
    have haD := prsD_length "a" al
    walk_at "go"
    -- scenes
    refine AS_forF (τ := .one 5) (tg_one (by walk_at "ix") (by walk_at "loc")) ?_
    refine AI_range1 ?_
    walk_at "go"
    rename_i ns hs0 hs1
    refine ⟨fun i E' => ∃ ss : List Scene, ss.length = i ∧ (∀ s ∈ ss, s.Ok pl.length al.length) ∧ E' = [SD.drw, SD.dat (.int most), SD.dat (.tuple (prsD "p" pl)), SD.dat (.tuple (prsD "a" al)), SD.own (scsD ss), SD.na, SD.na, SD.na, SD.na, SD.na, SD.na, SD.na], ⟨_, Fgt.refl _, [], rfl, fun s h => (nomatch h), rfl⟩, ?_, ?_⟩
    · rintro i d E' hd ⟨ss, rfl, hss, rfl⟩
      obtain ⟨rfl, hi⟩ := rgD_get0 hd
      refine ⟨_, rfl, ?_⟩
      walk_at "go"
      -- the cast
      refine AE_lc (sc := defScope sFilm) (own := [("actor", 10)]) (τ := .one 10) (blkOk_by (by decide +kernel)) (by decide) (fun _ _ _ _ _ => tg_one (by walk_at "ix") (by walk_at "loc")) ?_
      refine AI_range1 ?_
      walk_at "go"
      refine ⟨rfl, (by rw [rgD_length, prsD_length]; omega), fun i acc => ∃ cs : List Int, cs.length ≤ i ∧ (∀ c ∈ cs, 0 ≤ c ∧ c < al.length) ∧ acc = cs.map .int, ⟨[], Nat.le_refl _, fun c h => (nomatch h), rfl⟩, ?_, ?_⟩
      · rintro i d acc hd ⟨cs, hcs, hc, rfl⟩
        obtain ⟨rfl, hi⟩ := rgD_get0 hd
        rw [prsD_length] at hi
        refine ⟨_, rfl, fun _ _ _ _ _ => ?_⟩
        walk_at "go"
        refine ite2 (fun _ => ?_) (fun _ => ⟨cs, Nat.le_succ_of_le hcs, hc, rfl⟩)
        intro _ _ _ _ _
        walk_at "go"
        refine ⟨cs ++ [(i : Int)], by rw [List.length_append]; exact Nat.succ_le_succ hcs, fun c h => ?_, by rw [List.map_append]; rfl⟩
        rcases List.mem_append.mp h with h | h
        · exact hc c h
        · rw [List.mem_singleton.mp h]
          omega
      rintro acc ⟨cs, hcs, hc, rfl⟩
      rw [rgD_length, prsD_length] at hcs
      walk_at "go"
      -- the light
      refine ⟨⟨(fun h => nomatch h), Nat.le_of_ble_eq_true rfl⟩, fun d hd => ?_⟩
      obtain ⟨light, rfl, hlight⟩ : ∃ l : Str, d = .str l ∧ l ∈ (["day", "any", "night"] : List Str) := by
        rcases List.mem_cons.mp hd with rfl | hd
        · exact ⟨_, rfl, by decide⟩
        · rcases List.mem_cons.mp hd with rfl | hd
          · exact ⟨_, rfl, by decide⟩
          · rcases List.mem_cons.mp hd with rfl | hd
            · exact ⟨_, rfl, by decide⟩
            · rcases List.mem_cons.mp hd with rfl | hd
              · exact ⟨_, rfl, by decide⟩
              · exact nomatch hd
      walk_at "go"
      rename_i pla hp2 hp3 mn hm2 hm3 dr hd2 hd3
      refine ⟨by rw [scsD_length]; omega, ?_⟩
      walk_at "go"
      refine ⟨[SD.drw, SD.dat (.int most), SD.dat (.tuple (prsD "p" pl)), SD.dat (.tuple (prsD "a" al)), SD.own (scsD ss ++ [Scene.data ⟨pla, light, 5 + 5 * mn, decide (dr = 0), cs⟩ ss.length]), SD.na, SD.na, SD.na, SD.na, SD.na, SD.na, SD.na], by walk_at "fgt", ss ++ [⟨pla, light, 5 + 5 * mn, decide (dr = 0), cs⟩], by rw [List.length_append]; rfl, fun s h => ?_, by rw [scsD_snoc]⟩
      rcases List.mem_append.mp h with h | h
      · exact hss s h
      · rw [List.mem_singleton.mp h]
        exact ⟨hp2, by show pla < (pl.length : Int); omega, hlight, by show (5 : Int) ≤ 5 + 5 * mn; omega, by show 5 + 5 * mn ≤ (200 : Int); omega, hc, by show cs.length ≤ 3; omega⟩
    · rintro E2 ⟨ss, hl, hss, rfl⟩
      rw [rgD_length] at hl
      have hsD := scsD_length ss
      walk_at "go"
      -- orders
      refine AS_forF (τ := .one 8) (tg_one (by walk_at "ix") (by walk_at "loc")) ?_
      refine AI_range1 ?_
      walk_at "go"
      refine ⟨fun i E' => ∃ os : List (Int × Int), os.length ≤ 2000 * i ∧ (∀ o ∈ os, 0 ≤ o.1 ∧ o.1 < o.2 ∧ o.2 < ss.length) ∧ E' = [SD.drw, SD.dat (.int most), SD.dat (.tuple (prsD "p" pl)), SD.dat (.tuple (prsD "a" al)), SD.own (scsD ss), SD.na, SD.na, SD.own (os.map prI), SD.na, SD.na, SD.na, SD.na], ⟨_, by walk_at "fgt", [], Nat.le_refl _, fun s h => (nomatch h), rfl⟩, ?_, ?_⟩
      · rintro i d E' hd ⟨os, hol, hos, rfl⟩
        obtain ⟨rfl, hi⟩ := rgD_get0 hd
        refine ⟨_, rfl, ?_⟩
        walk_at "go"
        refine AE_lc (sc := defScope sFilm) (own := [("second", 11)]) (τ := .one 11) (blkOk_by (by decide +kernel)) (by decide) (fun _ _ _ _ _ => tg_one (by walk_at "ix") (by walk_at "loc")) ?_
        refine AI_range2 ?_
        walk_at "go"
        refine ⟨⟨by omega, by omega, by omega, by omega⟩, rfl, (by rw [rgD_length]; omega), fun n acc => ∃ ps : List (Int × Int), ps.length ≤ n ∧ (∀ o ∈ ps, 0 ≤ o.1 ∧ o.1 < o.2 ∧ o.2 < ss.length) ∧ acc = ps.map prI, ⟨[], Nat.le_refl _, fun c h => (nomatch h), rfl⟩, ?_, ?_⟩
        · rintro n d acc hd ⟨ps, hpl, hps, rfl⟩
          obtain ⟨rfl, hn⟩ := rgD_get hd
          refine ⟨_, rfl, fun _ _ _ _ _ => ?_⟩
          walk_at "go"
          refine ite2 (fun _ => ?_) (fun _ => ⟨ps, Nat.le_succ_of_le hpl, hps, rfl⟩)
          intro _ _ _ _ _
          walk_at "go"
          refine ⟨ps ++ [((i : Int), (i : Int) + 1 + (n : Int))], by rw [List.length_append]; exact Nat.succ_le_succ hpl, fun o h => ?_, by rw [List.map_append]; rfl⟩
          rcases List.mem_append.mp h with h | h
          · exact hps o h
          · rw [List.mem_singleton.mp h]
            show 0 ≤ (i : Int) ∧ (i : Int) < (i : Int) + 1 + (n : Int) ∧ (i : Int) + 1 + (n : Int) < ss.length
            omega
        rintro acc ⟨ps, hpl, hps, rfl⟩
        rw [rgD_length] at hpl
        refine ⟨_, _, rfl, rfl, by rw [List.length_map, List.length_map]; omega, ?_⟩
        walk_at "go"
        refine ⟨[SD.drw, SD.dat (.int most), SD.dat (.tuple (prsD "p" pl)), SD.dat (.tuple (prsD "a" al)), SD.own (scsD ss), SD.na, SD.na, SD.own (os.map prI ++ ps.map prI), SD.na, SD.na, SD.na, SD.na], by walk_at "fgt", os ++ ps, by rw [List.length_append]; omega, fun o h => ?_, by rw [List.map_append]⟩
        rcases List.mem_append.mp h with h | h
        · exact hos o h
        · exact hps o h
      · rintro E2 ⟨os, hol, hos, rfl⟩
        walk_at "go"
        rename_i mv hv0 hv1 rd hr0 hr1 ml hl0 hl1
        exact ⟨rfl, q ⟨pl, al, ss, os, mv, rd, 5 + ml⟩ ⟨by show 0 < pl.length; omega, by show pl.length ≤ 3; omega, by show 0 < al.length; omega, by show al.length ≤ 3; omega, by show 0 < ss.length; omega, by show (ss.length : Int) ≤ most; omega, hss, hos, ⟨hv0, hv1⟩, ⟨hr0, hr1⟩, by show 5 ≤ 5 + ml ∧ 5 + ml < 65; omega⟩⟩
end




abbrev sList : Stmt := topS 14
abbrev sSheet : Stmt := topS 15
theorem scList : FnScope ["d", "film", "rest", "row", "k"] ["d", "film"] (defScope sList) := ⟨rfl, rfl, rfl, by decide +kernel, rfl, by decide +kernel, by decide +kernel⟩
theorem scSheet : FnScope ["d", "film", "dry"] ["d", "film"] (defScope sSheet) := ⟨rfl, rfl, rfl, by decide +kernel, rfl, by decide +kernel, by decide +kernel⟩
section
variable {P : Program} {w : World} {K : PySem.W.Frag} {mg : Str → Option Value} {base : Heap}
theorem map_eraseIdx (ns : List Int) (k : Nat) : (ns.map PyData.int).eraseIdx k = (ns.eraseIdx k).map PyData.int := by
  induction ns generalizing k with
  | nil => rfl
  | cons n ns ih =>
    cases k with
    | zero => rfl
    | succ k => rw [List.map_cons, List.eraseIdx_cons_succ, List.eraseIdx_cons_succ, List.map_cons, ih]
theorem rg_ints (n : Nat) : rgD 0 n = ((List.range n).map fun (i : Nat) => (i : Int)).map PyData.int := by
  unfold rgD
  rw [List.map_map, Int.sub_zero, Int.toNat_natCast]
  apply List.map_congr_left
  intro i _
  show PyData.int (0 + (i : Int)) = PyData.int (i : Int)
  rw [Int.zero_add]
set_option maxHeartbeats 4000000 in
theorem ok_list {f : Addr} {fd : FuncData} (F : Fun K "_law_list" "_law_list" sList f fd) (bi : Bi mg) (cT : C8.Cal P w K mg base 1 "_law_take" (mkSp K ATake) []) : FnOk P w K mg base CX0 2 f fd ["d", "film"] (mkSp K AList) := by
  refine fn_ok F scList bi (fun Ds post h => ?_) (fun cdv A' outer s H E Ds post h => ?_)
  · obtain ⟨f, most, rfl, _⟩ := h
    exact ⟨rfl, fun sd h => by simp at h; rcases h with rfl | rfl <;> rfl⟩
  · obtain ⟨f, most, rfl, ⟨ok, hm⟩, q⟩ := h
    have hsD := scsD_length f.scenes
    have hs0 := ok.s0
    have hs1 := ok.s1
    conv in (defBody _) => whnf
    show ASs _ _ _ _ [SD.drw, SD.dat _, SD.na, SD.na, SD.na] _ _ _ _
    walk_at "go"
    have hz : (rgD 0 ((scsD f.scenes).length : Int)).length = f.scenes.length := by rw [rgD_length]; omega
    refine AS_forF (τ := .one 4) (tg_one (by walk_at "ix") (by walk_at "loc")) ?_
    refine AI_range1 ?_
    walk_at "go"
    rename_i m hm0 hm1
    refine ⟨fun i E' => ∃ (rest row : List Int), rest.length ≤ f.scenes.length ∧ (∀ x ∈ rest, 0 ≤ x ∧ x < f.scenes.length) ∧ row.length ≤ i ∧ (∀ x ∈ row, x = -1 ∨ (0 ≤ x ∧ x < f.scenes.length)) ∧ E' = [SD.drw, SD.dat f.data, SD.own (rest.map .int), SD.own (row.map .int), SD.na], ⟨[SD.drw, SD.dat f.data, SD.own (rgD 0 ((scsD f.scenes).length : Int)), SD.own [], SD.na], by walk_at "fgt", (List.range f.scenes.length).map (fun (i : Nat) => (i : Int)), [], by rw [List.length_map, List.length_range]; exact Nat.le_refl _, fun x hx => ?_, Nat.le_refl _, fun x hx => (nomatch hx), by rw [hsD, rg_ints]; rfl⟩, ?_, ?_⟩
    · obtain ⟨i, hi, rfl⟩ := List.mem_map.mp hx
      have := List.mem_range.mp hi
      omega
    · rintro i d E' hd ⟨rest, row, h1, h2, h3, h4, rfl⟩
      obtain ⟨rfl, hi⟩ := rgD_get0 hd
      refine ⟨_, rfl, ?_⟩
      walk_at "go"
      refine ite2 (fun _ => ?_) (fun _ => ?_)
      · walk_at "go"
        refine ⟨by rw [List.length_map]; omega, ?_⟩
        walk_at "go"
        refine ⟨[SD.drw, SD.dat f.data, SD.own (rest.map .int), SD.own (row.map .int ++ [.int (0 - 1)]), SD.na], by walk_at "fgt", rest, row ++ [-1], h1, h2, by rw [List.length_append]; exact Nat.succ_le_succ h3, fun x hx => ?_, by rw [List.map_append]; rfl⟩
        rcases List.mem_append.mp hx with hx | hx
        · exact h4 x hx
        · exact .inl (List.mem_singleton.mp hx)
      · walk_at "go"
        refine ite2 (fun c2 => ?_) (fun _ => ?_)
        · have c2 : (0 : Int) < ((rest.map PyData.int).length : Nat) := of_decide_eq_true c2
          have hlm : (rest.map PyData.int).length = rest.length := List.length_map _
          -- what is taken out is put to the row
          have fin : ∀ (n : Nat), n < rest.length → ∃ (x : Int), (rest.map PyData.int)[n]? = some (.int x) ∧ 0 ≤ x ∧ x < f.scenes.length ∧ ∃ E5, Fgt [SD.drw, SD.dat f.data, SD.own ((rest.map PyData.int).eraseIdx n), SD.own (row.map .int ++ [.int x]), SD.dat (.int (i : Int))] E5 ∧ ∃ (rest row' : List Int), rest.length ≤ f.scenes.length ∧ (∀ x ∈ rest, 0 ≤ x ∧ x < f.scenes.length) ∧ row'.length ≤ i + 1 ∧ (∀ x ∈ row', x = -1 ∨ (0 ≤ x ∧ x < f.scenes.length)) ∧ E5 = [SD.drw, SD.dat f.data, SD.own (rest.map .int), SD.own (row'.map .int), SD.na] := fun n hn => by
            have hx := h2 rest[n] (List.getElem_mem hn)
            refine ⟨rest[n], by rw [List.getElem?_map, List.getElem?_eq_getElem hn]; rfl, hx.1, hx.2, _, .keep (.keep (.keep (.keep (.drop .nil)))), rest.eraseIdx n, row ++ [rest[n]], ?_, fun x hx => h2 x (List.mem_of_mem_eraseIdx hx), ?_, fun x hx => ?_, ?_⟩
            · rw [List.length_eraseIdx_of_lt hn]; omega
            · rw [List.length_append]; exact Nat.succ_le_succ h3
            · rcases List.mem_append.mp hx with hx | hx
              · exact h4 x hx
              · rw [List.mem_singleton.mp hx]
                exact .inr (h2 _ (List.getElem_mem hn))
            · rw [map_eraseIdx, List.map_append]; rfl
          walk_at "go"
          refine ite2 (fun _ => ?_) (fun _ => ?_)
          · obtain ⟨x, hx, _, _, hE⟩ := fin 0 (by omega)
            walk_at "go"
            refine ⟨0, _, _, rfl, rfl, hx, by decide, ?_⟩
            walk_at "go"
            refine ⟨by rw [List.length_map]; omega, ?_⟩
            walk_at "go"
            exact hE
          · walk_at "go"
            rename_i r hr0 hr1
            obtain ⟨x, hx, _, _, hE⟩ := fin r.toNat (by omega)
            refine ⟨r.toNat, _, _, by rw [Int.toNat_of_nonneg hr0], rfl, hx, by omega, ?_⟩
            walk_at "go"
            refine ⟨by rw [List.length_map]; omega, ?_⟩
            walk_at "go"
            exact hE
        · walk_at "go"
          exact ⟨[SD.drw, SD.dat f.data, SD.own (rest.map .int), SD.own (row.map .int), SD.na], by walk_at "fgt", rest, row, h1, h2, Nat.le_succ_of_le h3, h4, rfl⟩
    · rintro E2 ⟨rest, row, h1, h2, h3, h4, rfl⟩
      rw [rgD_length] at h3
      walk_at "go"
      exact q row ⟨by omega, h4⟩
set_option maxHeartbeats 4000000 in
theorem ok_sheet {f : Addr} {fd : FuncData} (F : Fun K "_law_sheet" "_law_sheet" sSheet f fd) (bi : Bi mg) (cT : C8.Cal P w K mg base 1 "_law_take" (mkSp K ATake) []) (cL : C8.Cal P w K mg base 2 "_law_list" (mkSp K AList) []) : FnOk P w K mg base CX0 3 f fd ["d", "film"] (mkSp K ASheet) := by
  refine fn_ok F scSheet bi (fun Ds post h => ?_) (fun cdv A' outer s H E Ds post h => ?_)
  · obtain ⟨f, most, rfl, _⟩ := h
    exact ⟨rfl, fun sd h => by simp at h; rcases h with rfl | rfl <;> rfl⟩
  · obtain ⟨f, most, rfl, ok, q⟩ := h
    conv in (defBody _) => whnf
    show ASs _ _ _ _ [SD.drw, SD.dat _, SD.na] _ _ _ _
    walk_at "go"
    refine ⟨f, most, rfl, ok, fun dry hd => ⟨rfl, ?_⟩⟩
    walk_at "go"
    rename_i c hc0 hc1 b hb0 hb1
    refine ite2 (fun _ => ?_) (fun _ => ?_)
    · walk_at "go"
      exact ⟨rfl, q ⟨360 + 30 * c, dry, dry⟩ ⟨by show 0 ≤ 360 + 30 * c; omega, by show 360 + 30 * c ≤ 720; omega, hd, hd⟩⟩
    · walk_at "go"
      refine ⟨f, most, rfl, ok, fun rain hr => ⟨rfl, ?_⟩⟩
      walk_at "go"
      exact ⟨rfl, q ⟨360 + 30 * c, dry, rain⟩ ⟨by show 0 ≤ 360 + 30 * c; omega, by show 360 + 30 * c ≤ 720; omega, hd, hr⟩⟩
end

abbrev sLHours : Stmt := topS 16
theorem scLHours : FnScope ["film", "sheet", "shot", "news", "clock", "place", "rows", "fallen", "item", "scene"] ["film", "sheet", "shot", "news"] (defScope sLHours) := ⟨rfl, rfl, rfl, by decide +kernel, rfl, by decide +kernel, by decide +kernel⟩
section
variable {P : Program} {w : World} {K : PySem.W.Frag} {mg : Str → Option Value} {base : Heap}
theorem foldl_snoc {α β : Type} (f : β → α → β) (b : β) {xs : List α} {i : Nat} {x : α} (h : xs[i]? = some x) : (xs.take (i + 1)).foldl f b = f ((xs.take i).foldl f b) x := by
  rw [List.take_add_one, h, List.foldl_append]
  rfl
theorem hs_small (f : Film) (shot : List Int) (ill : Int) (t : Hst) : ∀ xs : List Int, (xs.foldl (hStep f shot ill) t).fallen.length ≤ t.fallen.length + xs.length ∧ (xs.foldl (hStep f shot ill) t).rows.length ≤ t.rows.length + xs.length
  | [] => ⟨Nat.le_refl _, Nat.le_refl _⟩
  | x :: xs => by
    have h1 := hStep_fallen f shot ill t x
    have h2 := hs_small f shot ill (hStep f shot ill t x) xs
    rw [List.foldl_cons, List.length_cons]
    omega
set_option maxHeartbeats 8000000 in
theorem ok_lhours {f : Addr} {fd : FuncData} (F : Fun K "_law_hours" "_law_hours" sLHours f fd) (bi : Bi mg) : FnOk P w K mg base CX0 1 f fd ["film", "sheet", "shot", "news"] (mkSp K AHours) := by
  refine fn_ok F scLHours bi (fun Ds post h => ?_) (fun cdv A' outer s H E Ds post h => ?_)
  · obtain ⟨f, most, s, shot, nw, rfl, _⟩ := h
    exact ⟨rfl, fun sd h => by simp at h; rcases h with rfl | rfl | rfl | rfl <;> rfl⟩
  · obtain ⟨f, most, s, shot, ⟨rain, ill, late⟩, rfl, ⟨ok, hm, hs⟩, q⟩ := h
    have hrow : RowOk (s.row rain) f.scenes.length := by
      cases rain
      · exact hs.dry
      · exact hs.rain
    have hs1 := ok.s1
    have hlen := hrow.1
    -- what holds behind i items
    have step : ∀ (i : Nat) (t : Hst), t = ((s.row rain).take i).foldl (hStep f shot ill) (hStart s ⟨rain, ill, late⟩) → i ≤ (s.row rain).length → t.fallen.length ≤ 61 ∧ t.rows.length ≤ 61 := fun i t e hi => by
      have h := hs_small f shot ill (hStart s ⟨rain, ill, late⟩) ((s.row rain).take i)
      rw [← e, List.length_take] at h
      have z1 : (hStart s ⟨rain, ill, late⟩).fallen.length = 0 := rfl
      have z2 : (hStart s ⟨rain, ill, late⟩).rows.length = 0 := rfl
      omega
    conv in (defBody _) => whnf
    show ASs _ _ _ _ [SD.dat _, SD.dat _, SD.dat _, SD.dat _, SD.na, SD.na, SD.na, SD.na, SD.na, SD.na] _ _ _ _
    walk_at "go"
    refine AS_forF (τ := .one 8) (tg_one (by walk_at "ix") (by walk_at "loc")) ?_
    refine AI_tup ?_
    have hsel : atI [PyData.int s.call, .tuple (s.dry.map .int), .tuple (s.rain.map .int)] (1 + if decide (wS rain = "rain") = true then 1 else 0) = some (.tuple ((s.row rain).map .int)) := by
      cases rain <;> rfl
    walk_at "go"
    refine ⟨fun i E' => ∃ t : Hst, t = ((s.row rain).take i).foldl (hStep f shot ill) (hStart s ⟨rain, ill, late⟩) ∧ E' = [SD.dat f.data, SD.dat s.data, SD.dat (.tuple (shot.map .int)), SD.dat (News.data ⟨rain, ill, late⟩), SD.dat (.int t.clock), SD.dat (plD t.place), SD.own (t.rows.map r3D), SD.own (t.fallen.map .int), SD.na, SD.na], ⟨_, Fgt.refl _, _, rfl, rfl⟩, ?_, ?_⟩
    · rintro i d E' hd ⟨t, ht, rfl⟩
      obtain ⟨x, hx, rfl⟩ : ∃ x, (s.row rain)[i]? = some x ∧ d = .int x := by
        rw [List.getElem?_map] at hd
        cases e : (s.row rain)[i]? with
        | none => rw [e] at hd; cases hd
        | some x => rw [e] at hd; exact ⟨x, rfl, (Option.some.inj hd).symm⟩
      have hi : i < (s.row rain).length := (List.getElem?_eq_some_iff.mp hx).1
      have hxr := hrow.2 x (List.mem_of_getElem? hx)
      have hbound := step i t ht (by omega)
      have hnext := foldl_snoc (hStep f shot ill) (hStart s ⟨rain, ill, late⟩) hx
      rw [← ht] at hnext
      -- the turn's end
      have fin : ∀ E4 : List SD, Fgt E4 [SD.dat f.data, SD.dat s.data, SD.dat (.tuple (shot.map .int)), SD.dat (News.data ⟨rain, ill, late⟩), SD.dat (.int (hStep f shot ill t x).clock), SD.dat (plD (hStep f shot ill t x).place), SD.own ((hStep f shot ill t x).rows.map r3D), SD.own ((hStep f shot ill t x).fallen.map .int), SD.na, SD.na] → ∃ E5, Fgt E4 E5 ∧ ∃ t : Hst, t = ((s.row rain).take (i + 1)).foldl (hStep f shot ill) (hStart s ⟨rain, ill, late⟩) ∧ E5 = [SD.dat f.data, SD.dat s.data, SD.dat (.tuple (shot.map .int)), SD.dat (News.data ⟨rain, ill, late⟩), SD.dat (.int t.clock), SD.dat (plD t.place), SD.own (t.rows.map r3D), SD.own (t.fallen.map .int), SD.na, SD.na] := fun E4 h => ⟨_, h, _, hnext.symm, rfl⟩
      refine ⟨_, rfl, ?_⟩
      walk_at "go"
      refine ite2 (fun c1 => ?_) (fun c1 => ?_)
      · have c1 : x = -1 := of_decide_eq_true c1
        walk_at "go"
        refine ⟨by rw [List.length_map]; omega, ?_⟩
        walk_at "go"
        refine fin _ ?_
        unfold hStep
        rw [if_pos c1, List.map_append]
        walk_at "fgt"
      · have c1 : ¬ x = -1 := of_decide_eq_false (Bool.eq_false_iff.mpr c1)
        have hsc := Film.scAt (f := f) (x := x) (by omega) (by omega)
        have hsc1 := hsc.1
        walk_at "go"
        refine ite2 (fun c2 => ?_) (fun c2 => ?_)
        · have c2 : x ∉ shot := by simpa using c2
          walk_at "go"
          refine ite2 (fun c3 => ?_) (fun c3 => ?_)
          · have c3 : ill ∈ (f.sc x).cast := of_decide_eq_true c3
            walk_at "go"
            refine ⟨by rw [List.length_map]; omega, ?_⟩
            walk_at "go"
            refine fin _ ?_
            unfold hStep
            rw [if_neg c1, if_neg c2, if_pos c3, List.map_append]
            walk_at "fgt"
          · have c3 : ill ∉ (f.sc x).cast := of_decide_eq_false (Bool.eq_false_iff.mpr c3)
            have e : hStep f shot ill t x = ⟨hMoved f (f.sc x) t + (f.sc x).mins, some (f.sc x).place, t.rows ++ [(x, hMoved f (f.sc x) t, hMoved f (f.sc x) t + (f.sc x).mins)], t.fallen⟩ := by
              unfold hStep
              rw [if_neg c1, if_neg c2, if_neg c3]
            rw [e, List.map_append] at fin
            cases hp : t.place with
            | none =>
              have em : hMoved f (f.sc x) t = t.clock := by unfold hMoved; rw [hp]
              rw [em] at fin
              walk_at "go"
              refine ⟨by rw [List.length_map]; omega, ?_⟩
              walk_at "go"
              exact fin _ (by walk_at "fgt")
            | some p =>
              walk_at "go"
              refine ite2 (fun c4 => ?_) (fun c4 => ?_)
              · have em : hMoved f (f.sc x) t = t.clock + f.move := by
                  unfold hMoved
                  rw [hp]
                  exact if_neg (by simpa using c4)
                rw [em] at fin
                walk_at "go"
                refine ⟨by rw [List.length_map]; omega, ?_⟩
                walk_at "go"
                exact fin _ (by walk_at "fgt")
              · have em : hMoved f (f.sc x) t = t.clock := by
                  unfold hMoved
                  rw [hp]
                  exact if_pos (by simpa using c4)
                rw [em] at fin
                walk_at "go"
                refine ⟨by rw [List.length_map]; omega, ?_⟩
                walk_at "go"
                exact fin _ (by walk_at "fgt")
        · have c2 : x ∈ shot := by simpa using c2
          walk_at "go"
          refine fin _ ?_
          unfold hStep
          rw [if_neg c1, if_pos c2]
          walk_at "fgt"
    · rintro E2 ⟨t, ht, rfl⟩
      have hbound := step _ t ht (by rw [List.length_map]; exact Nat.le_refl _)
      rw [List.length_map, List.take_length] at ht
      walk_at "go"
      intro ms h1 h2
      have em : ms = sortI t.fallen := PySem.W.ksm_same (h1.trans (sortI_perm _).symm) h2 (sortI_le _)
      subst em
      subst ht
      walk_at "go"
      exact ⟨rfl, q⟩
end



structure Cal where
  lights : List (Int × Int)
  aw : List (List Int)
  pw : List (List Int)
def Cal.data (c : Cal) : PyData := .tuple [.tuple (c.lights.map prI), .tuple (c.aw.map tI), .tuple (c.pw.map tI)]
structure Cal.Ok (c : Cal) (days : Int) : Prop where
  len : (c.lights.length : Int) = days
  lit : ∀ l ∈ c.lights, 0 ≤ l.1 ∧ l.1 ≤ l.2
def AWin : ASpec := fun Ds post => ∃ many days : Int, Ds = [.drw, .dat (.int many), .dat (.int days)] ∧ (0 < many ∧ many ≤ 60 ∧ 0 < days ∧ days ≤ 60) ∧ ∀ nss : List (List Int), post (.dat (.tuple (nss.map tI)))
def ACal : ASpec := fun Ds post => ∃ (f : Film) (most days : Int), Ds = [.drw, .dat f.data, .dat (.int days)] ∧ (f.Ok most ∧ most ≤ 50 ∧ 0 < days ∧ days ≤ 60) ∧ ∀ c : Cal, c.Ok days → post (.dat c.data)
abbrev sWin : Stmt := topS 12
abbrev sCal : Stmt := topS 13
theorem scWin : FnScope ["d", "many", "days", "rows", "k", "first"] ["d", "many", "days"] (defScope sWin) := ⟨rfl, rfl, rfl, by decide +kernel, rfl, by decide +kernel, by decide +kernel⟩
theorem scCal : FnScope ["d", "film", "days", "lights", "k"] ["d", "film", "days"] (defScope sCal) := ⟨rfl, rfl, rfl, by decide +kernel, rfl, by decide +kernel, by decide +kernel⟩
section
variable {P : Program} {w : World} {K : PySem.W.Frag} {mg : Str → Option Value} {base : Heap}
set_option maxHeartbeats 8000000 in
theorem ok_win {f : Addr} {fd : FuncData} (F : Fun K "_law_windows" "_law_windows" sWin f fd) (bi : Bi mg) (cT : C8.Cal P w K mg base 1 "_law_take" (mkSp K ATake) []) : FnOk P w K mg base CX0 2 f fd ["d", "many", "days"] (mkSp K AWin) := by
  refine fn_ok F scWin bi (fun Ds post h => ?_) (fun cdv A' outer s H E Ds post h => ?_)
  · obtain ⟨many, days, rfl, _⟩ := h
    exact ⟨rfl, fun sd h => by simp at h; rcases h with rfl | rfl | rfl <;> rfl⟩
  · obtain ⟨many, days, rfl, ⟨m0, m1, d0, d1⟩, q⟩ := h
    conv in (defBody _) => whnf
    show ASs _ _ _ _ [SD.drw, SD.dat _, SD.dat _, SD.na, SD.na, SD.na] _ _ _ _
    walk_at "go"
    refine AS_forF (τ := .one 4) (tg_one (by walk_at "ix") (by walk_at "loc")) ?_
    refine AI_range1 ?_
    walk_at "go"
    rename_i n hn0 hn1
    refine ⟨fun i E' => ∃ nss : List (List Int), nss.length ≤ i ∧ (∀ ns ∈ nss, ns.length = 3 ∧ TS.Bd 64 ns) ∧ E' = [SD.drw, SD.dat (.int many), SD.dat (.int days), SD.own (nss.map tI), SD.na, SD.na], ⟨_, Fgt.refl _, [], Nat.zero_le _, fun ns h => (nomatch h), rfl⟩, ?_, ?_⟩
    · rintro i d E' hd ⟨nss, hl, hB, rfl⟩
      obtain ⟨rfl, hi⟩ := rgD_get0 hd
      refine ⟨_, rfl, ?_⟩
      walk_at "go"
      rename_i x hx0 hx1 y hy0 hy1 z hz0 hz1
      refine ⟨by rw [List.length_map]; omega, ?_⟩
      walk_at "go"
      refine ⟨[SD.drw, SD.dat (.int many), SD.dat (.int days), SD.own ((nss ++ [[y, x, x + z]]).map tI), SD.na, SD.na], by (rw [List.map_append]; walk_at "fgt"), nss ++ [[y, x, x + z]], by rw [List.length_append]; exact Nat.succ_le_succ hl, fun ns hns => ?_, rfl⟩
      rcases List.mem_append.mp hns with h | h
      · exact hB ns h
      · rw [List.mem_singleton.mp h]
        refine ⟨rfl, fun m hm => ?_⟩
        simp at hm
        omega
    · rintro E2 ⟨nss, hl, hB, rfl⟩
      rw [rgD_length] at hl
      walk_at "go"
      exact ⟨nss, 3, 64, rfl, by omega, by decide, hB, fun mss => ⟨rfl, q mss⟩⟩
set_option maxHeartbeats 8000000 in
theorem ok_cal {f : Addr} {fd : FuncData} (F : Fun K "_law_calendar" "_law_calendar" sCal f fd) (bi : Bi mg) (cT : C8.Cal P w K mg base 1 "_law_take" (mkSp K ATake) []) (cW : C8.Cal P w K mg base 2 "_law_windows" (mkSp K AWin) []) : FnOk P w K mg base CX0 3 f fd ["d", "film", "days"] (mkSp K ACal) := by
  refine fn_ok F scCal bi (fun Ds post h => ?_) (fun cdv A' outer s H E Ds post h => ?_)
  · obtain ⟨f, most, days, rfl, _⟩ := h
    exact ⟨rfl, fun sd h => by simp at h; rcases h with rfl | rfl | rfl <;> rfl⟩
  · obtain ⟨f, most, days, rfl, ⟨ok, hm, d0, d1⟩, q⟩ := h
    have hpD := prsD_length "p" f.places
    have haD := prsD_length "a" f.actors
    have hp0 := ok.p0
    have hp1 := ok.p1
    have ha0 := ok.a0
    have ha1 := ok.a1
    conv in (defBody _) => whnf
    show ASs _ _ _ _ [SD.drw, SD.dat _, SD.dat _, SD.na, SD.na] _ _ _ _
    walk_at "go"
    refine AE_lc (sc := defScope sCal) (own := [("k", 4)]) (τ := .one 4) (blkOk_by (by decide +kernel)) (by decide) (fun _ _ _ _ _ => tg_one (by walk_at "ix") (by walk_at "loc")) ?_
    refine AI_range1 ?_
    walk_at "go"
    refine ⟨rfl, (by rw [rgD_length]; omega), fun i acc => ∃ ls : List (Int × Int), ls.length = i ∧ (∀ l ∈ ls, 0 ≤ l.1 ∧ l.1 ≤ l.2) ∧ acc = ls.map prI, ⟨[], rfl, fun l h => (nomatch h), rfl⟩, ?_, ?_⟩
    · rintro i d acc hd ⟨ls, rfl, hls, rfl⟩
      refine ⟨_, rfl, fun _ _ _ _ _ => ?_⟩
      walk_at "go"
      rename_i x hx0 hx1 y hy0 hy1
      refine ⟨ls ++ [(300 + x, 1000 + y)], by rw [List.length_append]; rfl, fun l hl => ?_, by rw [List.map_append]; rfl⟩
      rcases List.mem_append.mp hl with h | h
      · exact hls l h
      · rw [List.mem_singleton.mp h]
        show 0 ≤ 300 + x ∧ 300 + x ≤ 1000 + y
        omega
    rintro acc ⟨ls, hl, hls, rfl⟩
    rw [rgD_length] at hl
    walk_at "go"
    refine ⟨_, days, rfl, ⟨by omega, by omega, d0, d1⟩, fun aw => ⟨rfl, ?_⟩⟩
    walk_at "go"
    refine ⟨_, days, rfl, ⟨by omega, by omega, d0, d1⟩, fun pw => ⟨rfl, ?_⟩⟩
    walk_at "go"
    exact ⟨rfl, q ⟨ls, aw, pw⟩ ⟨by show (ls.length : Int) = days; omega, hls⟩⟩
end


def rowsD (rows : List Rw) : PyData := .tuple (rows.map r3D)
def beD (r : Rw) : PyData := .tuple [.int r.2.1, .int r.2.2]
def ADark : ASpec := fun Ds post => ∃ l d b e : Int, Ds = [.dat (.int l), .dat (.int d), .dat (.int b), .dat (.int e)] ∧ post (.dat (.int (e - b - max 0 (min e d - max b l))))
def ALong : ASpec := fun Ds post => ∃ (rows : List Rw) (n c w : Int), Ds = [.dat (.tuple (rows.map r3D)), .dat (.int c), .dat (.int w)] ∧ RowsOk n rows ∧ post (.dat (.int (stretch rows c w)))
def AFig : ASpec := fun Ds post => ∃ (f : Film) (most : Int) (c : Cal) (day : Int) (rows : List Rw) (actor b0 b1 light dark : Int), Ds = [.dat f.data, .dat c.data, .dat (.int day), .dat (.tuple (rows.map r3D)), .dat (.int actor), .dat (.tuple [.int b0, .int b1])] ∧
  (f.Ok most ∧ RowsOk f.scenes.length rows ∧ (0 ≤ day ∧ c.lights[day.toNat]? = some (light, dark)) ∧ (0 ≤ light ∧ light ≤ dark) ∧ (b0 = -1 ∨ 0 ≤ b0)) ∧ post (.dat (figD (figs f light dark rows actor b0 b1)))
theorem filter_snoc {p : Rw → Bool} {rows : List Rw} {i : Nat} {r : Rw} (h : rows[i]? = some r) : (rows.take (i + 1)).filter p = (rows.take i).filter p ++ if p r = true then [r] else [] := by
  rw [List.take_add_one, h, List.filter_append]
  congr 1
  show List.filter p [r] = _
  rw [List.filter_cons]
  rfl
theorem own_step {f : Film} {actor : Int} {rows : List Rw} {i : Nat} {r : Rw} (h : rows[i]? = some r) : ownR f actor (rows.take (i + 1)) = ownR f actor (rows.take i) ++ if mine f actor r = true then [r] else [] := filter_snoc h
theorem atI_first {g : Rw → PyData} (r : Rw) (rs : List Rw) : atI ((r :: rs).map g) 0 = some (g r) := atI_nat (j := 0) rfl
theorem take_step {α : Type} {g : Rw → α} {xs : List Rw} {i : Nat} {r : Rw} (h : xs[i]? = some r) : ((xs.take (i + 1)).map g) = (xs.take i).map g ++ [g r] := by
  rw [List.take_add_one, h, List.map_append]
  rfl
theorem mine_no {f : Film} {actor : Int} {r : Rw} (h : ¬ 0 ≤ r.1) : mine f actor r = false := by
  unfold mine
  rw [decide_eq_false h, Bool.false_and]
theorem mine_not {f : Film} {actor : Int} {r : Rw} (h : ¬ actor ∈ (f.sc r.1).cast) : mine f actor r = false := by
  unfold mine
  rw [decide_eq_false h, Bool.and_false]
theorem mine_yes {f : Film} {actor : Int} {r : Rw} (h : 0 ≤ r.1) (h2 : actor ∈ (f.sc r.1).cast) : mine f actor r = true := by
  unfold mine
  rw [decide_eq_true h, decide_eq_true h2]
  rfl
theorem row_at {rows : List Rw} {g : Rw → PyData} {i : Nat} {d : PyData} (h : (rows.map g)[i]? = some d) : ∃ r, rows[i]? = some r ∧ d = g r ∧ r ∈ rows := by
  rw [List.getElem?_map] at h
  cases e : rows[i]? with
  | none => rw [e] at h; cases h
  | some r => rw [e] at h; exact ⟨r, rfl, (Option.some.inj h).symm, List.mem_of_getElem? e⟩
theorem atI_last {g : Rw → PyData} (r : Rw) (rs : List Rw) : atI ((r :: rs).map g) (-1) = some (g (lastR r rs)) := by
  unfold atI ixN
  rw [List.length_map, List.length_cons, if_neg (by decide)]
  have e : ((-1 : Int) + ((rs.length + 1 : Nat) : Int)).toNat = rs.length := by omega
  have h : ∀ (rs : List Rw) (r : Rw), ((r :: rs).map g)[rs.length]? = some (g (lastR r rs)) := fun rs => by
    induction rs with
    | nil => exact fun r => rfl
    | cons s rs ih => exact fun r => ih s
  rw [if_pos (by omega)]
  show ((r :: rs).map g)[((-1 : Int) + ((rs.length + 1 : Nat) : Int)).toNat]? = _
  rw [e]
  exact h rs r
theorem lights_at {ls : List (Int × Int)} {day light dark : Int} (h0 : 0 ≤ day) (h : ls[day.toNat]? = some (light, dark)) : atI (ls.map prI) day = some (.tuple [.int light, .int dark]) := by
  have h2 : (ls.map prI)[day.toNat]? = some (prI (light, dark)) := by rw [List.getElem?_map, h]; rfl
  have := atI_nat h2
  rw [show ((day.toNat : Nat) : Int) = day by omega] at this
  exact this
abbrev sDark : Stmt := topS 4
abbrev sLong : Stmt := topS 5
abbrev sFig : Stmt := topS 6
theorem scDark : FnScope ["light", "dark", "begin", "end"] ["light", "dark", "begin", "end"] (defScope sDark) := ⟨rfl, rfl, rfl, by decide +kernel, rfl, by decide +kernel, by decide +kernel⟩
theorem scLong : FnScope ["rows", "call", "wrap", "longest", "start", "item", "begin", "end"] ["rows", "call", "wrap"] (defScope sLong) := ⟨rfl, rfl, rfl, by decide +kernel, rfl, by decide +kernel, by decide +kernel⟩
theorem scFig : FnScope ["film", "calendar", "day", "rows", "actor", "before", "own", "call", "wrap", "light", "dark", "is_on", "rest", "item", "begin", "end"] ["film", "calendar", "day", "rows", "actor", "before"] (defScope sFig) := ⟨rfl, rfl, rfl, by decide +kernel, rfl, by decide +kernel, by decide +kernel⟩
section
theorem AE_val {X : Cx} {N : List Str} {j : Nat} {E : List SD} {e : Expr} {k : EK} {d : PyData} (h : AE X N j e E fun r E1 => r = .dat d ∧ E1 = E) (hk : k (.dat d) E) : AE X N j e E k := h.imp fun r E1 ⟨e1, e2⟩ => by rw [e1, e2]; exact hk
variable {P : Program} {w : World} {K : PySem.W.Frag} {mg : Str → Option Value} {base : Heap} {tM tD tN : Tok}
theorem ok_dark {f : Addr} {fd : FuncData} (F : Fun K "dark_minutes" "dark_minutes" sDark f fd) (bi : Bi mg) : FnOk P w K mg base CX0 1 f fd ["light", "dark", "begin", "end"] (mkSp K ADark) := by
  refine fn_ok F scDark bi (fun Ds post h => ?_) (fun cdv A' outer s H E Ds post h => ?_)
  · obtain ⟨l, d, b, e, rfl, _⟩ := h
    exact ⟨rfl, fun sd h => by simp at h; rcases h with rfl | rfl | rfl | rfl <;> rfl⟩
  · obtain ⟨l, d, b, e, rfl, q⟩ := h
    conv in (defBody _) => whnf
    show ASs _ _ _ _ [SD.dat _, SD.dat _, SD.dat _, SD.dat _] _ _ _ _
    walk_at "go"
    exact ⟨rfl, q⟩
set_option maxHeartbeats 8000000 in
theorem ok_long {f : Addr} {fd : FuncData} (F : Fun K "longest_stretch" "longest_stretch" sLong f fd) (bi : Bi mg) (mM : mg "MEAL" = some (.int (-1) tM)) : FnOk P w K mg base CX0 1 f fd ["rows", "call", "wrap"] (mkSp K ALong) := by
  refine fn_ok F scLong bi (fun Ds post h => ?_) (fun cdv A' outer s H E Ds post h => ?_)
  · obtain ⟨rows, n, c, w, rfl, _⟩ := h
    exact ⟨rfl, fun sd h => by simp at h; rcases h with rfl | rfl | rfl <;> rfl⟩
  · obtain ⟨rows, n, c, w, rfl, ok, q⟩ := h
    conv in (defBody _) => whnf
    show ASs _ _ _ _ [SD.dat _, SD.dat _, SD.dat _, SD.na, SD.na, SD.na, SD.na, SD.na] _ _ _ _
    walk_at "go"
    refine AS_forF (τ := .many [5, 6, 7]) (tg_many (tgs_cons (by walk_at "ix") (by walk_at "loc") (tgs_cons (by walk_at "ix") (by walk_at "loc") (tgs_cons (by walk_at "ix") (by walk_at "loc") tgs_nil)))) ?_
    refine AI_tup ?_
    walk_at "go"
    refine ⟨fun i E' => ∃ t : Int × Int, t = (meals c w (rows.take i)).foldl lsStep (0, c) ∧ E' = [SD.dat (.tuple (rows.map r3D)), SD.dat (.int c), SD.dat (.int w), SD.dat (.int t.1), SD.dat (.int t.2), SD.na, SD.na, SD.na], ⟨_, Fgt.refl _, _, rfl, rfl⟩, ?_, ?_⟩
    · rintro i d E' hd ⟨t, ht, rfl⟩
      obtain ⟨r, hr, rfl, hm⟩ := row_at hd
      have hit := ok.item r hm
      have hnext := filter_snoc (p := isMeal c w) hr
      refine ⟨_, rfl, ?_⟩
      have no : isMeal c w r = false → ∀ t2 : Int × Int, t2 = t → t2 = (meals c w (rows.take (i + 1))).foldl lsStep (0, c) := fun hf t2 e => by
        rw [hf, if_neg Bool.false_ne_true, List.append_nil] at hnext
        unfold meals at ht ⊢
        rw [hnext, e]
        exact ht
      walk_at "go"
      refine ite2 (fun c1 => ?_) (fun c1 => ?_)
      · have c1 : r.1 = -1 := of_decide_eq_true c1
        walk_at "go"
        refine ite2 (fun c2 => ?_) (fun c2 => ?_)
        · have c2 : c ≤ r.2.1 := of_decide_eq_true c2
          walk_at "go"
          refine ite2 (fun c3 => ?_) (fun c3 => ?_)
          · have c3 : r.2.2 ≤ w := of_decide_eq_true c3
            walk_at "go"
            refine ⟨[SD.dat (.tuple (rows.map r3D)), SD.dat (.int c), SD.dat (.int w), SD.dat (.int (max t.1 (r.2.1 - t.2))), SD.dat (.int r.2.2), SD.na, SD.na, SD.na], by walk_at "fgt", (max t.1 (r.2.1 - t.2), r.2.2), ?_, rfl⟩
            have e : isMeal c w r = true := by
              unfold isMeal
              rw [decide_eq_true (by omega), decide_eq_true c2, decide_eq_true c3]
              rfl
            rw [e, if_pos rfl] at hnext
            unfold meals at ht ⊢
            rw [hnext, List.foldl_append, ← ht]
            rfl
          · have c3 : ¬ r.2.2 ≤ w := of_decide_eq_false (Bool.eq_false_iff.mpr c3)
            walk_at "go"
            refine ⟨[SD.dat (.tuple (rows.map r3D)), SD.dat (.int c), SD.dat (.int w), SD.dat (.int t.1), SD.dat (.int t.2), SD.na, SD.na, SD.na], by walk_at "fgt", t, no ?_ t rfl, rfl⟩
            unfold isMeal
            rw [decide_eq_false c3, Bool.and_false]
        · have c2 : ¬ c ≤ r.2.1 := of_decide_eq_false (Bool.eq_false_iff.mpr c2)
          walk_at "go"
          refine ⟨[SD.dat (.tuple (rows.map r3D)), SD.dat (.int c), SD.dat (.int w), SD.dat (.int t.1), SD.dat (.int t.2), SD.na, SD.na, SD.na], by walk_at "fgt", t, no ?_ t rfl, rfl⟩
          unfold isMeal
          rw [decide_eq_false c2, Bool.and_false]
          rfl
      · have c1 : ¬ r.1 = -1 := of_decide_eq_false (Bool.eq_false_iff.mpr c1)
        walk_at "go"
        refine ⟨[SD.dat (.tuple (rows.map r3D)), SD.dat (.int c), SD.dat (.int w), SD.dat (.int t.1), SD.dat (.int t.2), SD.na, SD.na, SD.na], by walk_at "fgt", t, no ?_ t rfl, rfl⟩
        unfold isMeal
        rw [decide_eq_false (by omega)]
        rfl
    · rintro E2 ⟨t, ht, rfl⟩
      rw [List.length_map, List.take_length] at ht
      walk_at "go"
      have e : stretch rows c w = max t.1 (w - t.2) := by
        unfold stretch
        rw [← ht]
        rfl
      rw [e] at q
      exact ⟨rfl, q⟩
set_option maxHeartbeats 8000000 in
theorem ok_fig {f : Addr} {fd : FuncData} (F : Fun K "figures_of" "figures_of" sFig f fd) (bi : Bi mg) (mM : mg "MEAL" = some (.int (-1) tM)) (mD : mg "DAY" = some (.int 1440 tD)) (mN : mg "NO_REST" = some (.int 9999 tN)) (cD : C8.Cal P w K mg base 1 "dark_minutes" (mkSp K ADark) []) (cL : C8.Cal P w K mg base 1 "longest_stretch" (mkSp K ALong) []) : FnOk P w K mg base CX0 2 f fd ["film", "calendar", "day", "rows", "actor", "before"] (mkSp K AFig) := by
  refine fn_ok F scFig bi (fun Ds post h => ?_) (fun cdv A' outer s H E Ds post h => ?_)
  · obtain ⟨f, most, c, day, rows, actor, b0, b1, light, dark, rfl, _⟩ := h
    exact ⟨rfl, fun sd h => by simp at h; rcases h with rfl | rfl | rfl | rfl | rfl | rfl <;> rfl⟩
  · obtain ⟨f, most, c, day, rows, actor, b0, b1, light, dark, rfl, ⟨ok, rok, ⟨hd0, hday⟩, ⟨hl0, hld⟩, hb⟩, q⟩ := h
    have hsD := scsD_length f.scenes
    have hlit := lights_at hd0 hday
    have hfew := rok.few
    conv in (defBody _) => whnf
    show ASs _ _ _ _ [SD.dat _, SD.dat _, SD.dat _, SD.dat _, SD.dat _, SD.dat _, SD.na, SD.na, SD.na, SD.na, SD.na, SD.na, SD.na, SD.na, SD.na, SD.na] _ _ _ _
    walk_at "go"
    refine AS_setLc (i := 6) (sc := defScope sFig) (own := [("item", 13), ("begin", 14), ("end", 15)]) (τ := .many [13, 14, 15]) (by walk_at "ix") (by rfl) (by rfl) (blkOk_by (by decide +kernel)) (by decide) (fun _ _ _ _ _ => tg_many (tgs_cons (by walk_at "ix") (by walk_at "loc") (tgs_cons (by walk_at "ix") (by walk_at "loc") (tgs_cons (by walk_at "ix") (by walk_at "loc") tgs_nil)))) ?_
    refine AI_tup ?_
    walk_at "go"
    refine ⟨(by rw [List.length_map]; omega), fun i acc => acc = (ownR f actor (rows.take i)).map beD, rfl, ?_, ?_⟩
    · rintro i d acc hd rfl
      obtain ⟨r, hr, rfl, hm⟩ := row_at hd
      have hnext := own_step (f := f) (actor := actor) hr
      refine ⟨_, rfl, fun _ _ _ _ _ => ?_⟩
      rcases rok.item r hm with h1 | ⟨h1, h2⟩
      · walk_at "go"
        refine ite2 (fun c1 => absurd c1 (by rw [h1]; decide)) (fun _ => ?_)
        refine ⟨rfl, iteF ?_⟩
        show _ = _
        rw [hnext, mine_no (by omega), if_neg Bool.false_ne_true, List.append_nil]
      · have hsc1 := (Film.scAt (f := f) h1 h2).1
        walk_at "go"
        refine ite2 (fun c1 => ?_) (fun c1 => absurd c1 (by simp; omega))
        walk_at "go"
        refine ite2 (fun c2 => ?_) (fun c2 => ?_)
        · have c2 : actor ∈ (f.sc r.1).cast := of_decide_eq_true c2
          intro _ _ _ _ _
          walk_at "go"
          show _ = _
          rw [hnext, mine_yes h1 c2, if_pos rfl, List.map_append]
          rfl
        · have c2 : ¬ actor ∈ (f.sc r.1).cast := of_decide_eq_false (Bool.eq_false_iff.mpr c2)
          show _ = _
          rw [hnext, mine_not c2, if_neg Bool.false_ne_true, List.append_nil]
    rintro acc rfl
    rw [List.length_map, List.take_length]
    refine ⟨_, _, rfl, rfl, Stores.rel _, ?_⟩
    walk_at "go"
    refine AT_list ?_
    walk_at "go"
    have hok := rok.filter (mine f actor)
    have hok : RowsOk f.scenes.length (ownR f actor rows) := hok
    unfold figs at q
    cases ho : ownR f actor rows with
    | nil =>
      rw [ho] at q
      refine iteT ?_
      walk_at "go"
      exact ⟨rfl, q⟩
    | cons r rs =>
      rw [ho] at q hok
      have hlast := atI_last (g := beD) r rs
      have hfirst2 : atI ((r :: rs).map beD) 0 = some (.tuple [.int r.2.1, .int r.2.2]) := atI_first r rs
      have hlast2 : atI ((r :: rs).map beD) (-1) = some (.tuple [.int (lastR r rs).2.1, .int (lastR r rs).2.2]) := hlast
      refine iteF ?_
      walk_at "go"
      refine AS_setT (τ := .many [9, 10]) (tg_many (tgs_cons (by walk_at "ix") (by walk_at "loc") (tgs_cons (by walk_at "ix") (by walk_at "loc") tgs_nil))) ?_
      walk_at "go"
      have hrl : (r :: rs).length ≤ 100 := hok.few
      refine AE_val (d := .int (if b0 = -1 then 9999 else max 0 (callOf f r + 1440 - b0))) (AE_ifexp ?_) ?_
      · refine AT_val ?_
        walk_at "go"
        by_cases hb0 : b0 = -1
        · refine ite2 (fun c => absurd c (by rw [hb0]; decide)) (fun _ => ?_)
          walk_at "go"
          exact ⟨by rw [if_pos hb0], rfl⟩
        · refine ite2 (fun _ => ?_) (fun c => absurd (c) (by simp; exact hb0))
          walk_at "go"
          exact ⟨by rw [if_neg hb0]; rfl, rfl⟩
      walk_at "go"
      -- the minutes worked
      refine AE_lc (sc := defScope sFig) (own := [("begin", 14), ("end", 15)]) (τ := .many [14, 15]) (blkOk_by (by decide +kernel)) (by decide) (fun _ _ _ _ _ => tg_many (tgs_cons (by walk_at "ix") (by walk_at "loc") (tgs_cons (by walk_at "ix") (by walk_at "loc") tgs_nil))) ?_
      refine AI_list ?_
      walk_at "go"
      refine ⟨rfl, (by rw [List.length_map]; omega), fun i acc => acc = (((r :: rs).take i).map fun r => r.2.2 - r.2.1).map .int, rfl, ?_, ?_⟩
      · rintro i d acc hd rfl
        obtain ⟨x, hx, rfl, hm⟩ := row_at hd
        refine ⟨_, rfl, fun _ _ _ _ _ => ?_⟩
        walk_at "go"
        show _ = _
        rw [take_step hx, List.map_append]
        rfl
      rintro acc rfl
      rw [List.length_map, List.take_length]
      walk_at "go"
      refine AE_val (d := .int (if b0 = -1 then 1 else b1 + 1)) (AE_ifexp ?_) ?_
      · refine AT_val ?_
        walk_at "go"
        by_cases hb0 : b0 = -1
        · refine ite2 (fun c => absurd c (by rw [hb0]; decide)) (fun _ => ?_)
          walk_at "go"
          exact ⟨by rw [if_pos hb0], rfl⟩
        · refine ite2 (fun _ => ?_) (fun c => absurd (c) (by simp; exact hb0))
          walk_at "go"
          exact ⟨by rw [if_neg hb0], rfl⟩
      walk_at "go"
      -- the minutes in the dark
      refine AE_lc (sc := defScope sFig) (own := [("begin", 14), ("end", 15)]) (τ := .many [14, 15]) (blkOk_by (by decide +kernel)) (by decide) (fun _ _ _ _ _ => tg_many (tgs_cons (by walk_at "ix") (by walk_at "loc") (tgs_cons (by walk_at "ix") (by walk_at "loc") tgs_nil))) ?_
      refine AI_list ?_
      walk_at "go"
      refine ⟨rfl, (by rw [List.length_map]; omega), fun i acc => acc = (((r :: rs).take i).map fun r => nightOf light dark r.2.1 r.2.2).map .int, rfl, ?_, ?_⟩
      · rintro i d acc hd rfl
        obtain ⟨x, hx, rfl, hm⟩ := row_at hd
        have hsp := (hok.span x hm).2.1
        refine ⟨_, rfl, fun _ _ _ _ _ => ?_⟩
        walk_at "go"
        refine ⟨light, dark, x.2.1, x.2.2, rfl, rfl, ?_⟩
        walk_at "go"
        show _ = _
        rw [take_step hx, List.map_append, dark_eq hld hsp]
        rfl
      rintro acc rfl
      rw [List.length_map, List.take_length]
      walk_at "go"
      refine ⟨rows, _, _, _, rfl, rok, rfl, ?_⟩
      walk_at "go"
      rw [List.length_map]
      exact ⟨rfl, q⟩
end


abbrev sLFig : Stmt := topS 17
theorem scLFig : FnScope ["film", "calendar", "day", "rows", "actor", "before", "own", "call", "wrap", "light", "dark", "night", "item", "begin", "end", "parts", "stretch", "worked", "rest", "work", "row", "k"] ["film", "calendar", "day", "rows", "actor", "before"] (defScope sLFig) := ⟨rfl, rfl, rfl, by decide +kernel, rfl, by decide +kernel, by decide +kernel⟩
theorem sum_step {g : Rw → Int} {xs : List Rw} {i : Nat} {r : Rw} (h : xs[i]? = some r) : ((xs.take (i + 1)).map g).sum = ((xs.take i).map g).sum + g r := by
  rw [take_step h, List.sum_append]
  simp
def ends (rows : List Rw) : List Int := rows.flatMap fun r => [r.2.1, r.2.2]
theorem ends_length : ∀ rows : List Rw, (ends rows).length = 2 * rows.length
  | [] => rfl
  | r :: rows => by
    show (ends rows).length + 1 + 1 = 2 * (rows.length + 1)
    rw [ends_length rows]
    omega
theorem atI_int {xs : List Int} {i : Nat} {x : Int} {z : Int} (h : xs[i]? = some x) (e : z = (i : Int)) : atI (xs.map PyData.int) z = some (.int x) := by
  subst e
  exact atI_nat (by rw [List.getElem?_map, h]; rfl)
theorem rgD2_length (n : Nat) : (rgD2 n).length = n := by
  unfold rgD2
  rw [List.length_map, List.length_range]
theorem rgD2_get {n i : Nat} {d : PyData} (h : (rgD2 n)[i]? = some d) : d = .int (2 * (i : Int)) ∧ i < n := by
  have hi : i < n := by
    have := (List.getElem?_eq_some_iff.mp h).1
    rw [rgD2_length] at this
    exact this
  unfold rgD2 at h
  rw [List.getElem?_map, List.getElem?_range hi] at h
  exact ⟨(Option.some.inj h).symm, hi⟩
section
variable {P : Program} {w : World} {K : PySem.W.Frag} {mg : Str → Option Value} {base : Heap}
set_option maxHeartbeats 8000000 in
theorem ok_lfig {f : Addr} {fd : FuncData} (F : Fun K "_law_figures" "_law_figures" sLFig f fd) (bi : Bi mg) : FnOk P w K mg base CX0 1 f fd ["film", "calendar", "day", "rows", "actor", "before"] (mkSp K AFig) := by
  refine fn_ok F scLFig bi (fun Ds post h => ?_) (fun cdv A' outer s H E Ds post h => ?_)
  · obtain ⟨f, most, c, day, rows, actor, b0, b1, light, dark, rfl, _⟩ := h
    exact ⟨rfl, fun sd h => by simp at h; rcases h with rfl | rfl | rfl | rfl | rfl | rfl <;> rfl⟩
  · obtain ⟨f, most, c, day, rows, actor, b0, b1, light, dark, rfl, ⟨ok, rok, ⟨hd0, hday⟩, ⟨hl0, hld⟩, hb⟩, q⟩ := h
    have hsD := scsD_length f.scenes
    have hlit := lights_at hd0 hday
    have hfew := rok.few
    conv in (defBody _) => whnf
    show ASs _ _ _ _ [SD.dat _, SD.dat _, SD.dat _, SD.dat _, SD.dat _, SD.dat _, SD.na, SD.na, SD.na, SD.na, SD.na, SD.na, SD.na, SD.na, SD.na, SD.na, SD.na, SD.na, SD.na, SD.na, SD.na, SD.na] _ _ _ _
    walk_at "go"
    refine AS_setLc (i := 6) (sc := defScope sLFig) (own := [("row", 20)]) (τ := .one 20) (by walk_at "ix") (by rfl) (by rfl) (blkOk_by (by decide +kernel)) (by decide) (fun _ _ _ _ _ => tg_one (by walk_at "ix") (by walk_at "loc")) ?_
    refine AI_tup ?_
    walk_at "go"
    refine ⟨(by rw [List.length_map]; omega), fun i acc => acc = (ownR f actor (rows.take i)).map r3D, rfl, ?_, ?_⟩
    · rintro i d acc hd rfl
      obtain ⟨r, hr, rfl, hm⟩ := row_at hd
      have hnext := own_step (f := f) (actor := actor) hr
      refine ⟨_, rfl, fun _ _ _ _ _ => ?_⟩
      rcases rok.item r hm with h1 | ⟨h1, h2⟩
      · walk_at "go"
        refine ite2 (fun c1 => absurd c1 (by rw [h1]; decide)) (fun _ => ?_)
        refine ⟨rfl, iteF ?_⟩
        show _ = _
        rw [hnext, mine_no (by omega), if_neg Bool.false_ne_true, List.append_nil]
      · have hsc1 := (Film.scAt (f := f) h1 h2).1
        walk_at "go"
        refine ite2 (fun c1 => ?_) (fun c1 => absurd c1 (by simp; omega))
        walk_at "go"
        refine ite2 (fun c2 => ?_) (fun c2 => ?_)
        · have c2 : actor ∈ (f.sc r.1).cast := of_decide_eq_true c2
          intro _ _ _ _ _
          walk_at "go"
          show _ = _
          rw [hnext, mine_yes h1 c2, if_pos rfl, List.map_append]
          rfl
        · have c2 : ¬ actor ∈ (f.sc r.1).cast := of_decide_eq_false (Bool.eq_false_iff.mpr c2)
          show _ = _
          rw [hnext, mine_not c2, if_neg Bool.false_ne_true, List.append_nil]
    rintro acc rfl
    rw [List.length_map, List.take_length]
    refine ⟨_, _, rfl, rfl, Stores.rel _, ?_⟩
    walk_at "go"
    have hok : RowsOk f.scenes.length (ownR f actor rows) := rok.filter (mine f actor)
    unfold figs at q
    cases ho : ownR f actor rows with
    | nil =>
      rw [ho] at q
      refine iteT ?_
      walk_at "go"
      exact ⟨rfl, q⟩
    | cons r rs =>
      rw [ho] at q hok
      have hfirst2 : atI ((r :: rs).map r3D) 0 = some (.tuple [.int r.1, .int r.2.1, .int r.2.2]) := atI_first r rs
      have hlast2 : atI ((r :: rs).map r3D) (-1) = some (.tuple [.int (lastR r rs).1, .int (lastR r rs).2.1, .int (lastR r rs).2.2]) := atI_last r rs
      have hrl : (r :: rs).length ≤ 100 := hok.few
      have hch := chn_own (f := f) hok rfl ok.rd.1
      have hme := chn_meals rok (Chn.le hch.1)
      refine ite2 (fun c0 => absurd (of_decide_eq_true c0) (by rw [List.length_map, List.length_cons]; omega)) (fun _ => ?_)
      walk_at "go"
      refine AS_setT (τ := .many [9, 10]) (tg_many (tgs_cons (by walk_at "ix") (by walk_at "loc") (tgs_cons (by walk_at "ix") (by walk_at "loc") tgs_nil))) ?_
      walk_at "go"
      -- the night
      refine AS_forF (τ := .many [12, 13, 14]) (tg_many (tgs_cons (by walk_at "ix") (by walk_at "loc") (tgs_cons (by walk_at "ix") (by walk_at "loc") (tgs_cons (by walk_at "ix") (by walk_at "loc") tgs_nil)))) ?_
      refine AI_list ?_
      walk_at "go"
      refine ⟨fun i E' => E' = [SD.dat f.data, SD.dat c.data, SD.dat (.int day), SD.dat (.tuple (rows.map r3D)), SD.dat (.int actor), SD.dat (.tuple [.int b0, .int b1]), SD.dat (.list ((r :: rs).map r3D)), SD.dat (.int (callOf f r)), SD.dat (.int (lastR r rs).2.2), SD.dat (.int light), SD.dat (.int dark), SD.dat (.int (((r :: rs).take i).map fun r => nightOf light dark r.2.1 r.2.2).sum), SD.na, SD.na, SD.na, SD.na, SD.na, SD.na, SD.na, SD.na, SD.na, SD.na], ⟨_, Fgt.refl _, rfl⟩, ?_, ?_⟩
      · rintro i d E' hd rfl
        obtain ⟨x, hx, rfl, hm⟩ := row_at hd
        refine ⟨_, rfl, ?_⟩
        walk_at "go"
        refine ⟨_, ?_, rfl⟩
        rw [sum_step hx, show ∀ z : Int, z + nightOf light dark x.2.1 x.2.2 = z + max 0 (min x.2.2 light - x.2.1) + max 0 (x.2.2 - max x.2.1 dark) from fun z => by unfold nightOf; omega]
        walk_at "fgt"
      rintro E2 rfl
      rw [List.length_map, List.take_length]
      walk_at "go"
      -- the parts
      refine AS_forF (τ := .many [12, 13, 14]) (tg_many (tgs_cons (by walk_at "ix") (by walk_at "loc") (tgs_cons (by walk_at "ix") (by walk_at "loc") (tgs_cons (by walk_at "ix") (by walk_at "loc") tgs_nil)))) ?_
      refine AI_tup ?_
      walk_at "go"
      refine ⟨fun i E' => E' = [SD.dat f.data, SD.dat c.data, SD.dat (.int day), SD.dat (.tuple (rows.map r3D)), SD.dat (.int actor), SD.dat (.tuple [.int b0, .int b1]), SD.dat (.list ((r :: rs).map r3D)), SD.dat (.int (callOf f r)), SD.dat (.int (lastR r rs).2.2), SD.dat (.int light), SD.dat (.int dark), SD.dat (.int ((r :: rs).map fun r => nightOf light dark r.2.1 r.2.2).sum), SD.na, SD.na, SD.na, SD.own ((callOf f r :: ends (meals (callOf f r) (lastR r rs).2.2 (rows.take i))).map .int), SD.na, SD.na, SD.na, SD.na, SD.na, SD.na], ⟨_, Fgt.refl _, rfl⟩, ?_, ?_⟩
      · rintro i d E' hd rfl
        obtain ⟨x, hx, rfl, hm⟩ := row_at hd
        have hnext : meals (callOf f r) (lastR r rs).2.2 (rows.take (i + 1)) = meals (callOf f r) (lastR r rs).2.2 (rows.take i) ++ if isMeal (callOf f r) (lastR r rs).2.2 x = true then [x] else [] := filter_snoc hx
        have hml : (meals (callOf f r) (lastR r rs).2.2 (rows.take i)).length ≤ 100 := Nat.le_trans (List.length_filter_le _ _) (by rw [List.length_take]; omega)
        have hel := ends_length (meals (callOf f r) (lastR r rs).2.2 (rows.take i))
        have no : isMeal (callOf f r) (lastR r rs).2.2 x = false → meals (callOf f r) (lastR r rs).2.2 (rows.take (i + 1)) = meals (callOf f r) (lastR r rs).2.2 (rows.take i) := fun e => by
          rw [hnext, e, if_neg Bool.false_ne_true, List.append_nil]
        refine ⟨_, rfl, ?_⟩
        walk_at "go"
        refine ite2 (fun c1 => ?_) (fun c1 => ?_)
        · have c1 : x.1 < 0 := of_decide_eq_true c1
          walk_at "go"
          refine ite2 (fun c2 => ?_) (fun c2 => ?_)
          · have c2 : callOf f r ≤ x.2.1 := of_decide_eq_true c2
            walk_at "go"
            refine ite2 (fun c3 => ?_) (fun c3 => ?_)
            · have c3 : x.2.2 ≤ (lastR r rs).2.2 := of_decide_eq_true c3
              walk_at "go"
              refine ⟨by (rw [List.length_map, List.length_cons]; show _ + 2 ≤ 16777216; omega), ?_⟩
              walk_at "go"
              refine ⟨_, ?_, rfl⟩
              have e : isMeal (callOf f r) (lastR r rs).2.2 x = true := by
                unfold isMeal
                rw [decide_eq_true c1, decide_eq_true c2, decide_eq_true c3]
                rfl
              rw [e, if_pos rfl] at hnext
              rw [hnext, show (callOf f r :: ends (meals (callOf f r) (lastR r rs).2.2 (rows.take i) ++ [x])).map PyData.int = (callOf f r :: ends (meals (callOf f r) (lastR r rs).2.2 (rows.take i))).map PyData.int ++ [.int x.2.1, .int x.2.2] from by
                unfold ends
                rw [List.flatMap_append, List.map_cons, List.map_append]
                rfl]
              walk_at "fgt"
            · have c3 : ¬ x.2.2 ≤ (lastR r rs).2.2 := of_decide_eq_false (Bool.eq_false_iff.mpr c3)
              walk_at "go"
              refine ⟨_, ?_, rfl⟩
              rw [no (by unfold isMeal; rw [decide_eq_false c3, Bool.and_false])]
              walk_at "fgt"
          · have c2 : ¬ callOf f r ≤ x.2.1 := of_decide_eq_false (Bool.eq_false_iff.mpr c2)
            walk_at "go"
            refine ⟨_, ?_, rfl⟩
            rw [no (by unfold isMeal; rw [decide_eq_false c2, Bool.and_false]; rfl)]
            walk_at "fgt"
        · have c1 : ¬ x.1 < 0 := of_decide_eq_false (Bool.eq_false_iff.mpr c1)
          walk_at "go"
          refine ⟨_, ?_, rfl⟩
          rw [no (by unfold isMeal; rw [decide_eq_false c1]; rfl)]
          walk_at "fgt"
      rintro E2 rfl
      rw [List.length_map, List.take_length]
      have hml : (meals (callOf f r) (lastR r rs).2.2 rows).length ≤ 100 := Nat.le_trans (List.length_filter_le _ _) (by omega)
      have hel := ends_length (meals (callOf f r) (lastR r rs).2.2 rows)
      have hpl := pts_length (lastR r rs).2.2 (meals (callOf f r) (lastR r rs).2.2 rows) (callOf f r)
      walk_at "go"
      refine ⟨by (rw [List.length_map, List.length_cons]; omega), ?_⟩
      rw [show (callOf f r :: ends (meals (callOf f r) (lastR r rs).2.2 rows)).map PyData.int ++ [PyData.int (lastR r rs).2.2] = (pts (callOf f r) (lastR r rs).2.2 (meals (callOf f r) (lastR r rs).2.2 rows)).map .int from by
        rw [pts_eq, List.map_append]
        rfl]
      walk_at "go"
      refine AE_lc (sc := defScope sLFig) (own := [("k", 21)]) (τ := .one 21) (blkOk_by (by decide +kernel)) (by decide) (fun _ _ _ _ _ => tg_one (by walk_at "ix") (by walk_at "loc")) ?_
      refine AI_range02 ?_
      walk_at "go"
      have hgl := gaps_length (lastR r rs).2.2 (meals (callOf f r) (lastR r rs).2.2 rows) (callOf f r)
      refine ⟨(meals (callOf f r) (lastR r rs).2.2 rows).length + 1, rfl, ?_, rfl, by omega, ?_⟩
      · rw [List.length_map, hpl, show ((2 * ((meals (callOf f r) (lastR r rs).2.2 rows).length + 1) : Nat) : Int) = 2 * (((meals (callOf f r) (lastR r rs).2.2 rows).length + 1 : Nat) : Int) from by omega]
      refine ⟨rfl, (by rw [rgD2_length]; omega), fun i acc => acc = ((gaps (callOf f r) (lastR r rs).2.2 (meals (callOf f r) (lastR r rs).2.2 rows)).take i).map .int, rfl, ?_, ?_⟩
      · rintro i d acc hd rfl
        obtain ⟨rfl, hi⟩ := rgD2_get hd
        obtain ⟨x, y, e1, e2, e3⟩ := gaps_at (lastR r rs).2.2 (meals (callOf f r) (lastR r rs).2.2 rows) (callOf f r) i hi
        have a1 := atI_int (z := 2 * (i : Int) + 1) e2 (by omega)
        have a2 := atI_int (z := 2 * (i : Int)) e1 (by omega)
        refine ⟨_, rfl, fun _ _ _ _ _ => ?_⟩
        walk_at "go"
        show _ = _
        rw [List.take_add_one, e3, List.map_append]
        rfl
      rintro acc rfl
      rw [rgD2_length, ← hgl, List.take_length]
      refine ⟨(gaps (callOf f r) (lastR r rs).2.2 (meals (callOf f r) (lastR r rs).2.2 rows)), rfl, (fun e => by rw [e] at hgl; cases hgl), fun m hm1 hm2 => ?_⟩
      have hst := stretch_gaps hme hm1 hm2
      subst hst
      walk_at "go"
      refine AE_val (d := .int (if b0 = -1 then 9999 else max 0 (callOf f r + 1440 - b0))) (AE_ifexp ?_) ?_
      · refine AT_val ?_
        walk_at "go"
        by_cases hb0 : b0 = -1
        · refine ite2 (fun c => absurd c (by rw [hb0]; decide)) (fun _ => ?_)
          walk_at "go"
          exact ⟨by rw [if_pos hb0], rfl⟩
        · refine ite2 (fun _ => ?_) (fun c => absurd c (by simp; omega))
          walk_at "go"
          exact ⟨by rw [if_neg hb0], rfl⟩
      walk_at "go"
      refine AE_lc (sc := defScope sLFig) (own := [("row", 20)]) (τ := .one 20) (blkOk_by (by decide +kernel)) (by decide) (fun _ _ _ _ _ => tg_one (by walk_at "ix") (by walk_at "loc")) ?_
      refine AI_list ?_
      walk_at "go"
      refine ⟨rfl, (by rw [List.length_map]; omega), fun i acc => acc = (((r :: rs).take i).map fun r => r.2.2 - r.2.1).map .int, rfl, ?_, ?_⟩
      · rintro i d acc hd rfl
        obtain ⟨x, hx, rfl, hm⟩ := row_at hd
        refine ⟨_, rfl, fun _ _ _ _ _ => ?_⟩
        walk_at "go"
        show _ = _
        rw [take_step hx, List.map_append]
        rfl
      rintro acc rfl
      rw [List.length_map, List.take_length]
      walk_at "go"
      refine AE_val (d := .int (if b0 = -1 then 0 else b1)) (AE_ifexp ?_) ?_
      · refine AT_val ?_
        walk_at "go"
        by_cases hb0 : b0 = -1
        · refine ite2 (fun c => absurd c (by rw [hb0]; decide)) (fun _ => ?_)
          walk_at "go"
          exact ⟨by rw [if_pos hb0], rfl⟩
        · refine ite2 (fun _ => ?_) (fun c => absurd c (by simp; omega))
          walk_at "go"
          exact ⟨by rw [if_neg hb0], rfl⟩
      walk_at "go"
      rw [List.length_map, show (1 + if b0 = -1 then 0 else b1) = (if b0 = -1 then 1 else b1 + 1) from by split <;> omega]
      exact ⟨rfl, q⟩
end


abbrev sMin : Stmt := topS 18
theorem scMin : FnScope ["film", "calendar", "day", "rows", "actor", "before", "own", "light", "dark", "call", "wrap", "work", "night", "minute", "longest", "run", "meals", "rest", "row", "item", "begin", "end"] ["film", "calendar", "day", "rows", "actor", "before"] (defScope sMin) := ⟨rfl, rfl, rfl, by decide +kernel, rfl, by decide +kernel, by decide +kernel⟩
theorem within_of {m : Int} {x : Rw} (h : x.2.1 ≤ m) : within m x = decide (m < x.2.2) := by
  unfold within
  rw [decide_eq_true h, Bool.true_and]
theorem within_not {m : Int} {x : Rw} (h : ¬ x.2.1 ≤ m) : within m x = false := by
  unfold within
  rw [decide_eq_false h, Bool.false_and]
theorem cnt_up {lo : Int} {p : Int → Bool} {i : Nat} (h : p (lo + i) = true) : cnt lo p (i + 1) = cnt lo p i + 1 := by
  show cnt lo p i + (if p (lo + i) = true then 1 else 0) = _
  rw [if_pos h]
theorem cnt_same {lo : Int} {p : Int → Bool} {i : Nat} (h : p (lo + i) = false) : cnt lo p (i + 1) = cnt lo p i := by
  show cnt lo p i + (if p (lo + i) = true then 1 else 0) = _
  rw [h, if_neg Bool.false_ne_true, Int.add_zero]
theorem runs_up {t : Int × Int} {lo : Int} {p : Int → Bool} {i : Nat} (h : p (lo + i) = true) : runs t lo p (i + 1) = (max (runs t lo p i).1 0, 0) := by
  show (max (runs t lo p i).1 (if p (lo + i) then 0 else (runs t lo p i).2 + 1), if p (lo + i) then 0 else (runs t lo p i).2 + 1) = _
  rw [if_pos h]
theorem runs_on {t : Int × Int} {lo : Int} {p : Int → Bool} {i : Nat} (h : p (lo + i) = false) : runs t lo p (i + 1) = (max (runs t lo p i).1 ((runs t lo p i).2 + 1), (runs t lo p i).2 + 1) := by
  show (max (runs t lo p i).1 (if p (lo + i) then 0 else (runs t lo p i).2 + 1), if p (lo + i) then 0 else (runs t lo p i).2 + 1) = _
  rw [h, if_neg Bool.false_ne_true]
section
variable {P : Program} {w : World} {K : PySem.W.Frag} {mg : Str → Option Value} {base : Heap}
set_option maxHeartbeats 8000000 in
theorem ok_lmin {f : Addr} {fd : FuncData} (F : Fun K "_law_minutes" "_law_minutes" sMin f fd) (bi : Bi mg) : FnOk P w K mg base CX0 1 f fd ["film", "calendar", "day", "rows", "actor", "before"] (mkSp K AFig) := by
  refine fn_ok F scMin bi (fun Ds post h => ?_) (fun cdv A' outer s H E Ds post h => ?_)
  · obtain ⟨f, most, c, day, rows, actor, b0, b1, light, dark, rfl, _⟩ := h
    exact ⟨rfl, fun sd h => by simp at h; rcases h with rfl | rfl | rfl | rfl | rfl | rfl <;> rfl⟩
  · obtain ⟨f, most, c, day, rows, actor, b0, b1, light, dark, rfl, ⟨ok, rok, ⟨hd0, hday⟩, ⟨hl0, hld⟩, hb⟩, q⟩ := h
    have hsD := scsD_length f.scenes
    have hlit := lights_at hd0 hday
    have hfew := rok.few
    conv in (defBody _) => whnf
    show ASs _ _ _ _ [SD.dat _, SD.dat _, SD.dat _, SD.dat _, SD.dat _, SD.dat _, SD.na, SD.na, SD.na, SD.na, SD.na, SD.na, SD.na, SD.na, SD.na, SD.na, SD.na, SD.na, SD.na, SD.na, SD.na, SD.na] _ _ _ _
    walk_at "go"
    refine AS_setLc (i := 6) (sc := defScope sMin) (own := [("row", 18)]) (τ := .one 18) (by walk_at "ix") (by rfl) (by rfl) (blkOk_by (by decide +kernel)) (by decide) (fun _ _ _ _ _ => tg_one (by walk_at "ix") (by walk_at "loc")) ?_
    refine AI_tup ?_
    walk_at "go"
    refine ⟨(by rw [List.length_map]; omega), fun i acc => acc = (ownR f actor (rows.take i)).map r3D, rfl, ?_, ?_⟩
    · rintro i d acc hd rfl
      obtain ⟨r, hr, rfl, hm⟩ := row_at hd
      have hnext := own_step (f := f) (actor := actor) hr
      refine ⟨_, rfl, fun _ _ _ _ _ => ?_⟩
      rcases rok.item r hm with h1 | ⟨h1, h2⟩
      · walk_at "go"
        refine ite2 (fun c1 => absurd c1 (by rw [h1]; decide)) (fun _ => ?_)
        refine ⟨rfl, iteF ?_⟩
        show _ = _
        rw [hnext, mine_no (by omega), if_neg Bool.false_ne_true, List.append_nil]
      · have hsc1 := (Film.scAt (f := f) h1 h2).1
        walk_at "go"
        refine ite2 (fun c1 => ?_) (fun c1 => absurd c1 (by simp; omega))
        walk_at "go"
        refine ite2 (fun c2 => ?_) (fun c2 => ?_)
        · have c2 : actor ∈ (f.sc r.1).cast := of_decide_eq_true c2
          intro _ _ _ _ _
          walk_at "go"
          show _ = _
          rw [hnext, mine_yes h1 c2, if_pos rfl, List.map_append]
          rfl
        · have c2 : ¬ actor ∈ (f.sc r.1).cast := of_decide_eq_false (Bool.eq_false_iff.mpr c2)
          show _ = _
          rw [hnext, mine_not c2, if_neg Bool.false_ne_true, List.append_nil]
    rintro acc rfl
    rw [List.length_map, List.take_length]
    refine ⟨_, _, rfl, rfl, Stores.rel _, ?_⟩
    walk_at "go"
    have hok : RowsOk f.scenes.length (ownR f actor rows) := rok.filter (mine f actor)
    unfold figs at q
    cases ho : ownR f actor rows with
    | nil =>
      rw [ho] at q
      refine iteT ?_
      walk_at "go"
      exact ⟨rfl, q⟩
    | cons r rs =>
      rw [ho] at q hok
      have hrl : (r :: rs).length ≤ 100 := hok.few
      have hch := chn_own (f := f) hok rfl ok.rd.1
      have hle := Chn.le hch.1
      have hme := chn_meals rok hle
      have hc0 := hch.2.1
      have hw0 := hch.2.2.1
      have hasc : ∀ x ∈ r :: rs, x.2.1 < x.2.2 := fun x hx => (hok.span x hx).2.1
      refine ite2 (fun c0 => absurd (of_decide_eq_true c0) (by rw [List.length_map, List.length_cons]; omega)) (fun _ => ?_)
      walk_at "go"
      refine AS_setT (τ := .many [7, 8]) (tg_many (tgs_cons (by walk_at "ix") (by walk_at "loc") (tgs_cons (by walk_at "ix") (by walk_at "loc") tgs_nil))) ?_
      walk_at "go"
      refine AE_lc (sc := defScope sMin) (own := [("row", 18)]) (τ := .one 18) (blkOk_by (by decide +kernel)) (by decide) (fun _ _ _ _ _ => tg_one (by walk_at "ix") (by walk_at "loc")) ?_
      refine AI_list ?_
      walk_at "go"
      refine ⟨rfl, (by rw [List.length_map]; omega), fun i acc => acc = (((r :: rs).take i).map fun r => r.2.1).map .int, rfl, ?_, ?_⟩
      · rintro i d acc hd rfl
        obtain ⟨x, hx, rfl, hm⟩ := row_at hd
        refine ⟨_, rfl, fun _ _ _ _ _ => ?_⟩
        walk_at "go"
        show _ = _
        rw [take_step hx, List.map_append]
        rfl
      rintro acc rfl
      rw [List.length_map, List.take_length]
      refine ⟨(r :: rs).map fun r => r.2.1, rfl, (fun e => by cases e), fun m hm1 hm2 => ?_⟩
      obtain rfl : m = r.2.1 := by
        obtain ⟨x, hx, rfl⟩ := List.mem_map.mp hm1
        have h1 := first_le hok.asc hasc x hx
        have h2 := hm2 r.2.1 (List.mem_map_of_mem List.mem_cons_self)
        show x.2.1 = r.2.1
        have h2 : x.2.1 ≤ r.2.1 := h2
        omega
      walk_at "go"
      refine AE_lc (sc := defScope sMin) (own := [("row", 18)]) (τ := .one 18) (blkOk_by (by decide +kernel)) (by decide) (fun _ _ _ _ _ => tg_one (by walk_at "ix") (by walk_at "loc")) ?_
      refine AI_list ?_
      walk_at "go"
      refine ⟨rfl, (by rw [List.length_map]; omega), fun i acc => acc = (((r :: rs).take i).map fun r => r.2.2).map .int, rfl, ?_, ?_⟩
      · rintro i d acc hd rfl
        obtain ⟨x, hx, rfl, hm⟩ := row_at hd
        refine ⟨_, rfl, fun _ _ _ _ _ => ?_⟩
        walk_at "go"
        show _ = _
        rw [take_step hx, List.map_append]
        rfl
      rintro acc rfl
      rw [List.length_map, List.take_length]
      refine ⟨(r :: rs).map fun r => r.2.2, rfl, (fun e => by cases e), fun m hm1 hm2 => ?_⟩
      obtain rfl : m = (lastR r rs).2.2 := by
        obtain ⟨x, hx, rfl⟩ := List.mem_map.mp hm1
        have h1 := last_le hok.asc hasc x hx
        have h2 := hm2 (lastR r rs).2.2 (List.mem_map_of_mem (lastR_mem r rs))
        show x.2.2 = (lastR r rs).2.2
        have h2 : (lastR r rs).2.2 ≤ x.2.2 := h2
        omega
      walk_at "go"
      -- the minutes worked
      refine AS_forF (τ := .one 13) (tg_one (by walk_at "ix") (by walk_at "loc")) ?_
      refine AI_range2 ?_
      walk_at "go"
      refine ⟨(by show (callOf f r) < 2 ^ 62 ∧ -(2 ^ 62) ≤ (callOf f r) ∧ (lastR r rs).2.2 < 2 ^ 62 ∧ -(2 ^ 62) ≤ (lastR r rs).2.2; omega), ?_⟩
      refine ⟨fun i E' => E' = [SD.dat f.data, SD.dat c.data, SD.dat (.int day), SD.dat (.tuple (rows.map r3D)), SD.dat (.int actor), SD.dat (.tuple [.int b0, .int b1]), SD.dat (.list ((r :: rs).map r3D)), SD.dat (.int light), SD.dat (.int dark), SD.dat (.int (callOf f r)), SD.dat (.int (lastR r rs).2.2), SD.dat (.int (cnt (callOf f r) (fun m => (r :: rs).any (within m)) i)), SD.dat (.int (cnt (callOf f r) (fun m => (r :: rs).any (within m) && (decide (m < light) || decide (dark ≤ m))) i)), SD.na, SD.na, SD.na, SD.na, SD.na, SD.na, SD.na, SD.na, SD.na], ⟨_, Fgt.refl _, rfl⟩, ?_, ?_⟩
      · rintro i d E' hd rfl
        obtain ⟨rfl, hi⟩ := rgD_get hd
        refine ⟨_, rfl, ?_⟩
        walk_at "go"
        refine AT_val ?_
        walk_at "go"
        refine AE_lc (sc := defScope sMin) (own := [("item", 19), ("begin", 20), ("end", 21)]) (τ := .many [19, 20, 21]) (blkOk_by (by decide +kernel)) (by decide) (fun _ _ _ _ _ => tg_many (tgs_cons (by walk_at "ix") (by walk_at "loc") (tgs_cons (by walk_at "ix") (by walk_at "loc") (tgs_cons (by walk_at "ix") (by walk_at "loc") tgs_nil)))) ?_
        refine AI_list ?_
        walk_at "go"
        refine ⟨rfl, (by rw [List.length_map]; omega), fun k acc => acc = (((r :: rs).take k).map (within ((callOf f r) + i))).map .bool, rfl, ?_, ?_⟩
        · rintro k d acc hd rfl
          obtain ⟨x, hx, rfl, hm⟩ := row_at hd
          refine ⟨_, rfl, fun _ _ _ _ _ => ?_⟩
          walk_at "go"
          refine ite2 (fun c1 => ?_) (fun c1 => ?_)
          · have c1 : x.2.1 ≤ (callOf f r) + i := of_decide_eq_true c1
            walk_at "go"
            show _ = _
            rw [take_step hx, List.map_append, within_of c1]
            rfl
          · have c1 : ¬ x.2.1 ≤ (callOf f r) + i := of_decide_eq_false (Bool.eq_false_iff.mpr c1)
            walk_at "go"
            show _ = _
            rw [take_step hx, List.map_append, within_not c1]
            rfl
        rintro acc rfl
        rw [List.length_map, List.take_length]
        refine ⟨(r :: rs).map (within ((callOf f r) + i)), rfl, ?_⟩
        rw [List.any_map]
        refine ⟨_, rfl, ?_⟩
        refine ite2 (fun cP => ?_) (fun cP => ?_)
        · have cP : (r :: rs).any (within ((callOf f r) + i)) = true := cP
          have hw : cnt (callOf f r) (fun m => (r :: rs).any (within m)) (i + 1) = cnt (callOf f r) (fun m => (r :: rs).any (within m)) i + 1 := cnt_up cP
          walk_at "go"
          refine ite2 (fun cN => ?_) (fun cN => ?_)
          · have cN : decide ((callOf f r) + i < light) = true := cN
            have hn : cnt (callOf f r) (fun m => (r :: rs).any (within m) && (decide (m < light) || decide (dark ≤ m))) (i + 1) = cnt (callOf f r) (fun m => (r :: rs).any (within m) && (decide (m < light) || decide (dark ≤ m))) i + 1 := cnt_up (by rw [cP, cN]; rfl)
            walk_at "go"
            refine ⟨_, ?_, rfl⟩
            rw [hw, hn]
            walk_at "fgt"
          · have cN : decide ((callOf f r) + i < light) = false := Bool.eq_false_iff.mpr cN
            walk_at "go"
            have hn : cnt (callOf f r) (fun m => (r :: rs).any (within m) && (decide (m < light) || decide (dark ≤ m))) (i + 1) = cnt (callOf f r) (fun m => (r :: rs).any (within m) && (decide (m < light) || decide (dark ≤ m))) i + if decide (dark ≤ (callOf f r) + i) = true then 1 else 0 := by
              cases hh : decide (dark ≤ (callOf f r) + i) with
              | true => rw [cnt_up (by rw [cP, cN, hh]; rfl), if_pos rfl]
              | false => rw [cnt_same (by rw [cP, cN, hh]; rfl), if_neg Bool.false_ne_true, Int.add_zero]
            refine ⟨_, ?_, rfl⟩
            rw [hw, hn]
            walk_at "fgt"
        · have cP : (r :: rs).any (within ((callOf f r) + i)) = false := Bool.eq_false_iff.mpr cP
          have hw : cnt (callOf f r) (fun m => (r :: rs).any (within m)) (i + 1) = cnt (callOf f r) (fun m => (r :: rs).any (within m)) i := cnt_same cP
          have hn : cnt (callOf f r) (fun m => (r :: rs).any (within m) && (decide (m < light) || decide (dark ≤ m))) (i + 1) = cnt (callOf f r) (fun m => (r :: rs).any (within m) && (decide (m < light) || decide (dark ≤ m))) i := cnt_same (by rw [cP]; rfl)
          walk_at "go"
          refine ⟨_, ?_, rfl⟩
          rw [hw, hn]
          walk_at "fgt"
      rintro E2 rfl
      rw [rgD_length, show max 0 (r.2.1 - f.ready) = callOf f r from rfl, work_of hch.1, night_of hld hch.1]
      walk_at "go"
      -- the meals
      refine AS_setLc (i := 16) (sc := defScope sMin) (own := [("row", 18)]) (τ := .one 18) (by walk_at "ix") (by rfl) (by rfl) (blkOk_by (by decide +kernel)) (by decide) (fun _ _ _ _ _ => tg_one (by walk_at "ix") (by walk_at "loc")) ?_
      refine AI_tup ?_
      walk_at "go"
      refine ⟨(by rw [List.length_map]; omega), fun i acc => acc = (meals (callOf f r) (lastR r rs).2.2 (rows.take i)).map r3D, rfl, ?_, ?_⟩
      · rintro i d acc hd rfl
        obtain ⟨x, hx, rfl, hm⟩ := row_at hd
        have hnext : meals (callOf f r) (lastR r rs).2.2 (rows.take (i + 1)) = meals (callOf f r) (lastR r rs).2.2 (rows.take i) ++ if isMeal (callOf f r) (lastR r rs).2.2 x = true then [x] else [] := filter_snoc hx
        have no : isMeal (callOf f r) (lastR r rs).2.2 x = false → meals (callOf f r) (lastR r rs).2.2 (rows.take (i + 1)) = meals (callOf f r) (lastR r rs).2.2 (rows.take i) := fun e => by
          rw [hnext, e, if_neg Bool.false_ne_true, List.append_nil]
        refine ⟨_, rfl, fun _ _ _ _ _ => ?_⟩
        walk_at "go"
        refine ite2 (fun c1 => ?_) (fun c1 => ?_)
        · have c1 : x.1 < 0 := of_decide_eq_true c1
          walk_at "go"
          refine ite2 (fun c2 => ?_) (fun c2 => ?_)
          · have c2 : (callOf f r) ≤ x.2.1 := of_decide_eq_true c2
            walk_at "go"
            refine ite2 (fun c3 => ?_) (fun c3 => ?_)
            · have c3 : x.2.2 ≤ (lastR r rs).2.2 := of_decide_eq_true c3
              intro _ _ _ _ _
              walk_at "go"
              have e : isMeal (callOf f r) (lastR r rs).2.2 x = true := by
                unfold isMeal
                rw [decide_eq_true c1, decide_eq_true c2, decide_eq_true c3]
                rfl
              show _ = _
              rw [hnext, e, if_pos rfl, List.map_append]
              rfl
            · have c3 : ¬ x.2.2 ≤ (lastR r rs).2.2 := of_decide_eq_false (Bool.eq_false_iff.mpr c3)
              show _ = _
              rw [no (by unfold isMeal; rw [decide_eq_false c3, Bool.and_false])]
          · have c2 : ¬ (callOf f r) ≤ x.2.1 := of_decide_eq_false (Bool.eq_false_iff.mpr c2)
            refine ⟨rfl, iteF ?_⟩
            show _ = _
            rw [no (by unfold isMeal; rw [decide_eq_false c2, Bool.and_false]; rfl)]
        · have c1 : ¬ x.1 < 0 := of_decide_eq_false (Bool.eq_false_iff.mpr c1)
          refine ⟨rfl, iteF ?_⟩
          show _ = _
          rw [no (by unfold isMeal; rw [decide_eq_false c1]; rfl)]
      rintro acc rfl
      rw [List.length_map, List.take_length]
      refine ⟨_, _, rfl, rfl, Stores.rel _, ?_⟩
      have hml : (meals (callOf f r) (lastR r rs).2.2 rows).length ≤ 100 := Nat.le_trans (List.length_filter_le _ _) (by omega)
      walk_at "go"
      -- the runs between
      refine AS_forF (τ := .one 13) (tg_one (by walk_at "ix") (by walk_at "loc")) ?_
      refine AI_range2 ?_
      walk_at "go"
      refine ⟨(by show (callOf f r) < 2 ^ 62 ∧ -(2 ^ 62) ≤ (callOf f r) ∧ (lastR r rs).2.2 < 2 ^ 62 ∧ -(2 ^ 62) ≤ (lastR r rs).2.2; omega), ?_⟩
      refine ⟨fun i E' => E' = [SD.dat f.data, SD.dat c.data, SD.dat (.int day), SD.dat (.tuple (rows.map r3D)), SD.dat (.int actor), SD.dat (.tuple [.int b0, .int b1]), SD.dat (.list ((r :: rs).map r3D)), SD.dat (.int light), SD.dat (.int dark), SD.dat (.int (callOf f r)), SD.dat (.int (lastR r rs).2.2), SD.dat (.int (((r :: rs).map fun r => r.2.2 - r.2.1).sum)), SD.dat (.int (((r :: rs).map fun r => nightOf light dark r.2.1 r.2.2).sum)), SD.na, SD.dat (.int (runs (0, 0) (callOf f r) (fun m => (meals (callOf f r) (lastR r rs).2.2 rows).any (within m)) i).1), SD.dat (.int (runs (0, 0) (callOf f r) (fun m => (meals (callOf f r) (lastR r rs).2.2 rows).any (within m)) i).2), SD.dat (.list ((meals (callOf f r) (lastR r rs).2.2 rows).map r3D)), SD.na, SD.na, SD.na, SD.na, SD.na], ⟨_, Fgt.refl _, rfl⟩, ?_, ?_⟩
      · rintro i d E' hd rfl
        obtain ⟨rfl, hi⟩ := rgD_get hd
        refine ⟨_, rfl, ?_⟩
        walk_at "go"
        refine AT_val ?_
        walk_at "go"
        refine AE_lc (sc := defScope sMin) (own := [("item", 19), ("begin", 20), ("end", 21)]) (τ := .many [19, 20, 21]) (blkOk_by (by decide +kernel)) (by decide) (fun _ _ _ _ _ => tg_many (tgs_cons (by walk_at "ix") (by walk_at "loc") (tgs_cons (by walk_at "ix") (by walk_at "loc") (tgs_cons (by walk_at "ix") (by walk_at "loc") tgs_nil)))) ?_
        refine AI_list ?_
        walk_at "go"
        refine ⟨rfl, (by rw [List.length_map]; omega), fun k acc => acc = (((meals (callOf f r) (lastR r rs).2.2 rows).take k).map (within ((callOf f r) + i))).map .bool, rfl, ?_, ?_⟩
        · rintro k d acc hd rfl
          obtain ⟨x, hx, rfl, hm⟩ := row_at hd
          refine ⟨_, rfl, fun _ _ _ _ _ => ?_⟩
          walk_at "go"
          refine ite2 (fun c1 => ?_) (fun c1 => ?_)
          · have c1 : x.2.1 ≤ (callOf f r) + i := of_decide_eq_true c1
            walk_at "go"
            show _ = _
            rw [take_step hx, List.map_append, within_of c1]
            rfl
          · have c1 : ¬ x.2.1 ≤ (callOf f r) + i := of_decide_eq_false (Bool.eq_false_iff.mpr c1)
            walk_at "go"
            show _ = _
            rw [take_step hx, List.map_append, within_not c1]
            rfl
        rintro acc rfl
        rw [List.length_map, List.take_length]
        refine ⟨(meals (callOf f r) (lastR r rs).2.2 rows).map (within ((callOf f r) + i)), rfl, ?_⟩
        rw [List.any_map]
        refine ⟨_, rfl, ?_⟩
        refine ite2 (fun cP => ?_) (fun cP => ?_)
        · have cP : (meals (callOf f r) (lastR r rs).2.2 rows).any (within ((callOf f r) + i)) = true := cP
          have hr := runs_up (t := (0, 0)) (lo := (callOf f r)) (p := (fun m => (meals (callOf f r) (lastR r rs).2.2 rows).any (within m))) (i := i) cP
          walk_at "go"
          refine ⟨_, ?_, rfl⟩
          rw [hr]
          walk_at "fgt"
        · have cP : (meals (callOf f r) (lastR r rs).2.2 rows).any (within ((callOf f r) + i)) = false := Bool.eq_false_iff.mpr cP
          have hr := runs_on (t := (0, 0)) (lo := (callOf f r)) (p := (fun m => (meals (callOf f r) (lastR r rs).2.2 rows).any (within m))) (i := i) cP
          walk_at "go"
          refine ⟨_, ?_, rfl⟩
          rw [hr]
          walk_at "fgt"
      rintro E2 rfl
      rw [rgD_length, stretch_runs hme]
      walk_at "go"
      refine ite2 (fun c1 => ?_) (fun c1 => ?_)
      · have c1 : b0 < 0 := of_decide_eq_true c1
        have hb0 : b0 = -1 := by omega
        have q : post (.dat (figD (some (figsOf f light dark rows b0 b1 r rs)))) := q
        unfold figsOf at q
        rw [if_pos hb0, if_pos hb0] at q
        walk_at "go"
        refine ite2 (fun c2 => absurd (of_decide_eq_true c2) (by omega)) (fun _ => ?_)
        walk_at "go"
        rw [List.length_map]
        exact ⟨rfl, q⟩
      · have c1 : ¬ b0 < 0 := of_decide_eq_false (Bool.eq_false_iff.mpr c1)
        have hb0 : ¬ b0 = -1 := by omega
        have q : post (.dat (figD (some (figsOf f light dark rows b0 b1 r rs)))) := q
        unfold figsOf at q
        rw [if_neg hb0, if_neg hb0] at q
        walk_at "go"
        refine ite2 (fun _ => ?_) (fun c2 => absurd c2 (by simp; omega))
        walk_at "go"
        rw [List.length_map]
        exact ⟨rfl, q⟩
end


/-! ### data that may be compared -/
def Sh (n : Nat) (d : PyData) : Prop := d.canLay0 = true ∧ d.depth ≤ n
theorem Sh.int {n : Nat} {i : Int} : Sh n (.int i) := ⟨rfl, Nat.zero_le _⟩
theorem Sh.none {n : Nat} : Sh n .none := ⟨rfl, Nat.zero_le _⟩
theorem Sh.all {n : Nat} : ∀ {ds : List PyData}, (∀ x ∈ ds, Sh n x) → PyData.canLayAll0 ds = true ∧ PyData.depthAll ds ≤ n
  | [], _ => ⟨by rw [PyData.canLayAll0], by rw [PyData.depthAll]; exact Nat.zero_le _⟩
  | d :: ds, h => by
    have h1 := h d List.mem_cons_self
    have h2 := Sh.all (ds := ds) fun x hx => h x (List.mem_cons_of_mem _ hx)
    refine ⟨by rw [PyData.canLayAll0, h1.1, h2.1]; rfl, ?_⟩
    rw [PyData.depthAll]
    exact Nat.max_le.mpr ⟨h1.2, h2.2⟩
theorem Sh.tup {n : Nat} {ds : List PyData} (h : ∀ x ∈ ds, Sh n x) : Sh (n + 1) (.tuple ds) := by
  obtain ⟨h1, h2⟩ := Sh.all h
  refine ⟨by rw [PyData.canLay0]; exact h1, ?_⟩
  rw [PyData.depth]
  omega
theorem Sh.tups {α : Type} {n : Nat} {xs : List α} {g : α → PyData} (h : ∀ x, Sh n (g x)) : Sh (n + 1) (.tuple (xs.map g)) := Sh.tup fun d hd => by
  obtain ⟨x, _, rfl⟩ := List.mem_map.mp hd
  exact h x
theorem Sh.ok {n : Nat} {d : PyData} (h : Sh n d) (hn : n ≤ 64) : SeqAt.shaped d = true := by
  unfold SeqAt.shaped
  rw [h.1, decide_eq_true (Nat.le_trans h.2 hn)]
  rfl
theorem Sh.same {n : Nat} {d : PyData} (h : Sh n d) : PyData.eqv d d = true := SeqAt.eqv_refl d h.1
theorem sh_fig : ∀ o : Option (List Int), Sh 1 (figD o)
  | none => Sh.none
  | some ns => Sh.tups fun _ => Sh.int
/-! ### the law -/
abbrev sLaw : Stmt := topS 19
def spLaw (K : PySem.W.Frag) : Sp := fun vs H Q _ => ∃ (a : Addr) (ns : List Int), vs = [.ref a] ∧ SqL K H a (ns.map V.int) ∧ ns.length ≤ 63 ∧ ∀ H', Q (.bl true) H'
def lawN : List Str := ["script", "d", "film", "calendar", "turn", "sheet", "news", "rows", "actor", "before", "day", "due"]
theorem scLaw : FnScope ["script", "d", "film", "calendar", "turn", "sheet", "news", "rows", "actor", "before", "day", "due"] ["script"] (defScope sLaw) := ⟨rfl, rfl, rfl, by decide +kernel, rfl, by decide +kernel, by decide +kernel⟩
/-- the state behind the source's making -/
theorem law_state {K : PySem.W.Frag} {H : Hp} {a p c : Addr} {ns : List Int} {i b s : Int} (n : Nat) (D : DrawAt H p c ns i b s) : Res K (Cx0.now (fun x => x = c) ([some (.ref a), some (.ref p)] ++ List.replicate n none) H ([SD.na, SD.drw] ++ List.replicate n SD.na)) (fun x => x = c) ([some (.ref a), some (.ref p)] ++ List.replicate n none) H ([SD.na, SD.drw] ++ List.replicate n SD.na) := by
  have own : ∀ (i : Nat) (q : Addr), Owned [some (V.ref a), some (V.ref p)] [SD.na, SD.drw] i q → i = 1 ∧ q = p := fun i q ⟨e, sd, h, o⟩ => by
    match i with
    | 0 => cases h; cases o
    | 1 => cases e; exact ⟨rfl, rfl⟩
    | i + 2 => simp at e
  have R : Res K (Cx0.now (fun x => x = c) [some (.ref a), some (.ref p)] H [SD.na, SD.drw]) (fun x => x = c) [some (.ref a), some (.ref p)] H [SD.na, SD.drw] := by
    refine ⟨rfl, fun i sd h => ?_, fun i j q o o' => by rw [(own i q o).1, (own j q o').1], fun i q o e => D.ne (by rw [← e, (own i q o).2]), fun _ _ h _ => h, fun _ o h => ⟨o, h⟩, fun i q o => .inl ⟨i, o⟩, fun _ h => h, fun _ h => .inl h, fun q e => ⟨ns.map V.int, by rw [e]; exact D.cells⟩, fun i q h => of_drwAt h⟩
    match i with
    | 0 => cases h; exact trivial
    | 1 =>
      cases h
      exact ⟨p, _, [.list (ns.map .int), .int _, .int _, .int _], rfl, D.at_, .cons (.lst rfl D.cells (DtAll.of_ints ns)) (.cons (.int _) (.cons (.int _) (.cons (.int _) .nil))), ns, _, _, _, rfl, D.i0, D.b0, D.s0, D.s1⟩
    | i + 2 => simp at h
  exact (R.pad n).now

theorem row2 {f : Film} {sh : Sheet} (h : sh.Ok f.scenes.length) {c : Int} (h0 : 0 ≤ c) (h1 : c < 60) : Sheet.Ok ⟨c, [-1] ++ sh.dry.take 10 ++ [-1], [-1, -1] ++ sh.rain.take 9⟩ f.scenes.length := by
  have go : ∀ (x : Int) (row : List Int) (n : Nat), RowOk row f.scenes.length → x ∈ row.take n → x = -1 ∨ (0 ≤ x ∧ x < f.scenes.length) := fun x row n hr hx => hr.2 x (List.mem_of_mem_take hx)
  refine ⟨h0, by show c ≤ 720; omega, ⟨?_, fun x hx => ?_⟩, ⟨?_, fun x hx => ?_⟩⟩
  · show ([-1] ++ sh.dry.take 10 ++ [-1] : List Int).length ≤ 60
    simp only [List.length_append, List.length_take, List.length_cons, List.length_nil]
    omega
  · have hx : x ∈ [-1] ++ sh.dry.take 10 ++ [-1] := hx
    rcases List.mem_append.mp hx with hx | hx
    · rcases List.mem_append.mp hx with hx | hx
      · exact .inl (List.mem_singleton.mp hx)
      · exact go x _ _ h.dry hx
    · exact .inl (List.mem_singleton.mp hx)
  · show ([-1, -1] ++ sh.rain.take 9 : List Int).length ≤ 60
    simp only [List.length_append, List.length_take, List.length_cons, List.length_nil]
    omega
  · have hx : x ∈ [-1, -1] ++ sh.rain.take 9 := hx
    rcases List.mem_append.mp hx with hx | hx
    · rcases List.mem_cons.mp hx with hx | hx
      · exact .inl hx
      · exact .inl (List.mem_singleton.mp hx)
    · exact go x _ _ h.rain hx
section
variable {P : Program} {w : World} {K : PySem.W.Frag} {mg : Str → Option Value} {base : Heap}
set_option maxHeartbeats 8000000 in
theorem ok_law {fa fB : Addr} {fd fdB : FuncData} (F : Fun K "law" "law" sLaw fa fd) (bi : Bi mg) (GB : FnOk P w K mg base CX0 1 fB fdB ["script"] (spBegin K)) (gB : mg "_law_begin" = some (.ref fB)) (kB : PySem.W.keepIn K (.ref fB) = true) (bB : Binds K fdB ["script"] [])
    (cT : C8.Cal P w K mg base 1 "_law_take" (mkSp K ATake) []) (cP : C8.Cal P w K mg base 2 "_law_pick" (mkSp K APick) []) (cF : C8.Cal P w K mg base 3 "_law_film" (mkSp K AFilm) []) (cC : C8.Cal P w K mg base 3 "_law_calendar" (mkSp K ACal) []) (cS : C8.Cal P w K mg base 3 "_law_sheet" (mkSp K ASheet) []) (cL : C8.Cal P w K mg base 1 "_law_hours" (mkSp K AHours) [])
    (c1 : C8.Cal P w K mg base 2 "figures_of" (mkSp K AFig) []) (c2 : C8.Cal P w K mg base 1 "_law_figures" (mkSp K AFig) []) (c3 : C8.Cal P w K mg base 1 "_law_minutes" (mkSp K AFig) []) : FnOk P w K mg base CX0 4 fa fd ["script"] (spLaw K) := by
  refine F.ok scLaw (fun vs H Q E h => ?_) (fun cdv A' outer s H vs Q E hr h => ?_)
  · obtain ⟨a, ns, rfl, _⟩ := h
    rfl
  · obtain ⟨a, ns, rfl, hS, hlen, q⟩ := h
    have hx : Okx (cxOf CX0 P w K mg base ["script", "d", "film", "calendar", "turn", "sheet", "news", "rows", "actor", "before", "day", "due"] "law" (defScope sLaw) fa cdv A' outer s H E).nox ["script", "d", "film", "calendar", "turn", "sheet", "news", "rows", "actor", "before", "day", "due"] 3 := ⟨rfl, scLaw.nd, rfl, hr, PassesOwn.never, bi⟩
    refine ⟨_, pss_cons (ps_set (i := 1) scLaw.nd rfl (.inl rfl) (pe_call GB (hr.mono (by decide)) (by rfl) gB kB bB .nil pass0 (pa_cons (pv 0) pa_nil))) pss_s, ?_⟩
    refine ⟨_, rfl, a, ns, rfl, hS, fun H' p c sd same hp hc D => ?_⟩
    refine (show ASs _ _ 3 _ [SD.na, SD.drw, SD.na, SD.na, SD.na, SD.na, SD.na, SD.na, SD.na, SD.na, SD.na, SD.na] (fun _ => False) (fun r _ => r = .dat (.bool true)) (fun _ => False) (fun _ => False) from ?_) hx _ _ _ _ _ (law_state (K := K) (a := a) 10 D) ⟨fun _ _ _ _ z => z.elim, fun v r E2 S2 σ2 H2 hr R2 T2 => ?_, fun _ _ _ _ z => z.elim, fun _ _ _ _ z => z.elim⟩
    · walk_at "go"
      refine ⟨8, rfl, by decide, fun f ok => ⟨rfl, ?_⟩⟩
      walk_at "go"
      refine ⟨f, 8, 2, rfl, ⟨ok, by decide, by decide, by decide⟩, fun cal hcal => ⟨rfl, ?_⟩⟩
      walk_at "go"
      have hpD := prsD_length "p" f.places
      have haD := prsD_length "a" f.actors
      have hsD := scsD_length f.scenes
      have ha0 := ok.a0
      have ha1 := ok.a1
      have hs0 := ok.s0
      have hs1 := ok.s1
      have hcl := hcal.len
      refine AS_forF (τ := .one 4) (tg_one (by walk_at "ix") (by walk_at "loc")) ?_
      refine AI_range1 ?_
      walk_at "go"
      refine ⟨fun i E' => E' = [SD.na, SD.drw, SD.dat f.data, SD.dat cal.data, SD.na, SD.na, SD.na, SD.na, SD.na, SD.na, SD.na, SD.na], ⟨_, by walk_at "fgt", rfl⟩, ?_, ?_⟩
      · rintro i d E' hd rfl
        obtain ⟨rfl, hi⟩ := rgD_get0 hd
        refine ⟨_, rfl, ?_⟩
        walk_at "go"
        refine ⟨f, 8, rfl, ⟨ok, by decide⟩, fun sh hsh => ⟨rfl, ?_⟩⟩
        refine ⟨_, _, rfl, rfl, Stores.dat _, ?_⟩
        refine ASs_cons ?_
        refine AS_join (fun E1 => ∃ sh : Sheet, sh.Ok f.scenes.length ∧ E1 = [SD.na, SD.drw, SD.dat f.data, SD.dat cal.data, SD.na, SD.dat sh.data, SD.na, SD.na, SD.na, SD.na, SD.na, SD.na]) ?_ ?_
        · walk_at "go"
          refine ite2 (fun c0 => ?_) (fun c0 => ?_)
          · walk_at "go"
            rename_i b hb0 hb1 cc hcA hcB
            refine ⟨[SD.na, SD.drw, SD.dat f.data, SD.dat cal.data, SD.na, SD.dat (Sheet.data ⟨cc, [-1] ++ sh.dry.take 10 ++ [-1], [-1, -1] ++ sh.rain.take 9⟩), SD.na, SD.na, SD.na, SD.na, SD.na, SD.na], ?_, _, row2 hsh hcA hcB, rfl⟩
            rw [show Sheet.data ⟨cc, [-1] ++ sh.dry.take 10 ++ [-1], [-1, -1] ++ sh.rain.take 9⟩ = PyData.tuple [PyData.int cc, PyData.tuple ([PyData.int (0 - 1)] ++ List.take (Int.toNat 10) (List.map PyData.int sh.dry) ++ [PyData.int (0 - 1)]), PyData.tuple ([PyData.int (0 - 1), PyData.int (0 - 1)] ++ List.take (Int.toNat 9) (List.map PyData.int sh.rain))] from by
              unfold Sheet.data
              simp only [List.map_append, List.map_take]
              rfl]
            walk_at "fgt"
          · walk_at "go"
            exact ⟨_, by walk_at "fgt", sh, hsh, rfl⟩
        rintro E2 ⟨sh2, hsh2, rfl⟩
        walk_at "go"
        -- the weather
        refine ⟨⟨(fun h => nomatch h), by decide⟩, fun d hd => ?_⟩
        obtain ⟨rain, rfl⟩ : ∃ b : Bool, d = .str (wS b) := by
          rcases List.mem_cons.mp hd with rfl | hd
          · exact ⟨false, rfl⟩
          · rcases List.mem_cons.mp hd with rfl | hd
            · exact ⟨true, rfl⟩
            · exact nomatch hd
        walk_at "go"
        -- late
        refine ⟨⟨(fun h => nomatch h), by decide⟩, fun d hd => ?_⟩
        obtain ⟨late, rfl, hlate⟩ : ∃ b : Int, d = .int b ∧ 0 ≤ b ∧ b ≤ 1000 := by
          rcases List.mem_cons.mp hd with rfl | hd
          · exact ⟨_, rfl, by decide⟩
          · rcases List.mem_cons.mp hd with rfl | hd
            · exact ⟨_, rfl, by decide⟩
            · exact nomatch hd
        walk_at "go"
        refine ⟨f, 8, sh2, [], ⟨rain, -1, late⟩, rfl, ⟨ok, by decide, hsh2⟩, rfl, ?_⟩
        have rok := hours_ok ok hsh2 [] ⟨rain, -1, late⟩ hlate
        walk_at "go"
        generalize (hEnd f sh2 [] ⟨rain, -1, late⟩).rows = rows at rok ⊢
        refine AS_forF (τ := .one 8) (tg_one (by walk_at "ix") (by walk_at "loc")) ?_
        refine AI_range1 ?_
        walk_at "go"
        refine ⟨fun i E' => E' = [SD.na, SD.drw, SD.dat f.data, SD.dat cal.data, SD.na, SD.na, SD.na, SD.dat (.tuple (rows.map r3D)), SD.na, SD.na, SD.na, SD.na], ⟨_, by walk_at "fgt", rfl⟩, ?_, ?_⟩
        · rintro a d E' hd rfl
          obtain ⟨rfl, ha⟩ := rgD_get0 hd
          refine ⟨_, rfl, ?_⟩
          walk_at "go"
          refine ⟨⟨(fun h => nomatch h), by decide⟩, fun d hd => ?_⟩
          obtain ⟨b0, b1, rfl, hb⟩ : ∃ b0 b1 : Int, d = .tuple [.int b0, .int b1] ∧ (b0 = -1 ∨ 0 ≤ b0) := by
            rcases List.mem_cons.mp hd with rfl | hd
            · exact ⟨_, _, rfl, .inl rfl⟩
            · rcases List.mem_cons.mp hd with rfl | hd
              · exact ⟨_, _, rfl, .inr (by decide)⟩
              · rcases List.mem_cons.mp hd with rfl | hd
                · exact ⟨_, _, rfl, .inr (by decide)⟩
                · rcases List.mem_cons.mp hd with rfl | hd
                  · exact ⟨_, _, rfl, .inr (by decide)⟩
                  · exact nomatch hd
          walk_at "go"
          rename_i day hd0 hd1
          have hdl : day.toNat < cal.lights.length := by omega
          obtain ⟨light, dark, hday, hlit⟩ : ∃ light dark, cal.lights[day.toNat]? = some (light, dark) ∧ (0 ≤ light ∧ light ≤ dark) :=
            ⟨_, _, List.getElem?_eq_getElem hdl, hcal.lit _ (List.getElem_mem hdl)⟩
          refine ⟨f, 8, cal, day, rows, a, b0, b1, light, dark, rfl, ⟨ok, rok, ⟨hd0, hday⟩, hlit, hb⟩, rfl, ?_⟩
          walk_at "go"
          refine ⟨f, 8, cal, day, rows, a, b0, b1, light, dark, rfl, ⟨ok, rok, ⟨hd0, hday⟩, hlit, hb⟩, rfl, ?_⟩
          walk_at "go"
          refine AO_neD ((sh_fig _).ok (by decide)) ((sh_fig _).ok (by decide)) ?_
          rw [(sh_fig _).same]
          walk_at "go"
          refine ⟨f, 8, cal, day, rows, a, b0, b1, light, dark, rfl, ⟨ok, rok, ⟨hd0, hday⟩, hlit, hb⟩, rfl, ?_⟩
          refine AO_neD ((sh_fig _).ok (by decide)) ((sh_fig _).ok (by decide)) ?_
          rw [(sh_fig _).same]
          walk_at "go"
          exact ⟨_, by walk_at "fgt", rfl⟩
        · rintro E2 rfl
          walk_at "go"
          exact ⟨_, by walk_at "fgt", rfl⟩
      · rintro E2 rfl
        walk_at "go"
        rfl
    · subst hr
      cases T2
      exact q H2
end

theorem all_mk {l : PySem.W.OpenLaw} {w : World} {K : PySem.W.Frag} {h : Heap} {mg : Str → Option Value} {fa : Addr} (X : K.In h) (G : h.Ns mainGlobals mg) (hfa : mg "law" = some (.ref fa)) {f_darkxminutes f_longestxstretch f_figuresxof f_xlawxbegin f_xlawxtake f_xlawxpick f_xlawxfilm f_xlawxwindows f_xlawxcalendar f_xlawxlist f_xlawxsheet f_xlawxhours f_xlawxfigures f_xlawxminutes f_law  : Addr} {od_darkxminutes an_darkxminutes od_longestxstretch an_longestxstretch od_figuresxof an_figuresxof od_xlawxbegin an_xlawxbegin od_xlawxtake an_xlawxtake od_xlawxpick an_xlawxpick od_xlawxfilm an_xlawxfilm od_xlawxwindows an_xlawxwindows od_xlawxcalendar an_xlawxcalendar od_xlawxlist an_xlawxlist od_xlawxsheet an_xlawxsheet od_xlawxhours an_xlawxhours od_xlawxfigures an_xlawxfigures od_xlawxminutes an_xlawxminutes od_law an_law : Option Addr} {sl_darkxminutes sl_longestxstretch sl_figuresxof sl_xlawxbegin sl_xlawxtake sl_xlawxpick sl_xlawxfilm sl_xlawxwindows sl_xlawxcalendar sl_xlawxlist sl_xlawxsheet sl_xlawxhours sl_xlawxfigures sl_xlawxminutes sl_law : Array (Option Value)} {oc_darkxminutes kV_darkxminutes dc_darkxminutes pm_darkxminutes cd_darkxminutes ct_darkxminutes oc_longestxstretch kV_longestxstretch dc_longestxstretch pm_longestxstretch cd_longestxstretch ct_longestxstretch oc_figuresxof kV_figuresxof dc_figuresxof pm_figuresxof cd_figuresxof ct_figuresxof oc_xlawxbegin kV_xlawxbegin dc_xlawxbegin pm_xlawxbegin cd_xlawxbegin ct_xlawxbegin oc_xlawxtake kV_xlawxtake dc_xlawxtake pm_xlawxtake cd_xlawxtake ct_xlawxtake oc_xlawxpick kV_xlawxpick dc_xlawxpick pm_xlawxpick cd_xlawxpick ct_xlawxpick oc_xlawxfilm kV_xlawxfilm dc_xlawxfilm pm_xlawxfilm cd_xlawxfilm ct_xlawxfilm oc_xlawxwindows kV_xlawxwindows dc_xlawxwindows pm_xlawxwindows cd_xlawxwindows ct_xlawxwindows oc_xlawxcalendar kV_xlawxcalendar dc_xlawxcalendar pm_xlawxcalendar cd_xlawxcalendar ct_xlawxcalendar oc_xlawxlist kV_xlawxlist dc_xlawxlist pm_xlawxlist cd_xlawxlist ct_xlawxlist oc_xlawxsheet kV_xlawxsheet dc_xlawxsheet pm_xlawxsheet cd_xlawxsheet ct_xlawxsheet oc_xlawxhours kV_xlawxhours dc_xlawxhours pm_xlawxhours cd_xlawxhours ct_xlawxhours oc_xlawxfigures kV_xlawxfigures dc_xlawxfigures pm_xlawxfigures cd_xlawxfigures ct_xlawxfigures oc_xlawxminutes kV_xlawxminutes dc_xlawxminutes pm_xlawxminutes cd_xlawxminutes ct_xlawxminutes oc_law kV_law dc_law pm_law cd_law ct_law : Value} {tk_MEAL tk_DAY tk_NO_REST : Tok}
    (a_darkxminutes : PySem.W.nsIn K mainGlobals "dark_minutes" = some (some (.ref f_darkxminutes)))
    (l_darkxminutes : K.lookup f_darkxminutes = some ⟨oc_darkxminutes, od_darkxminutes, .func (PySem.W.fnOf "dark_minutes" "dark_minutes" (defArgs sDark) (defBody sDark) (defScope sDark) .none kV_darkxminutes dc_darkxminutes pm_darkxminutes an_darkxminutes cd_darkxminutes ct_darkxminutes), sl_darkxminutes⟩) (c_darkxminutes : PySem.W.codeIn K cd_darkxminutes "dark_minutes" = true) (k_darkxminutes : PySem.W.keepIn K (.ref f_darkxminutes) = true)
    (a_longestxstretch : PySem.W.nsIn K mainGlobals "longest_stretch" = some (some (.ref f_longestxstretch)))
    (l_longestxstretch : K.lookup f_longestxstretch = some ⟨oc_longestxstretch, od_longestxstretch, .func (PySem.W.fnOf "longest_stretch" "longest_stretch" (defArgs sLong) (defBody sLong) (defScope sLong) .none kV_longestxstretch dc_longestxstretch pm_longestxstretch an_longestxstretch cd_longestxstretch ct_longestxstretch), sl_longestxstretch⟩) (c_longestxstretch : PySem.W.codeIn K cd_longestxstretch "longest_stretch" = true) (k_longestxstretch : PySem.W.keepIn K (.ref f_longestxstretch) = true)
    (a_figuresxof : PySem.W.nsIn K mainGlobals "figures_of" = some (some (.ref f_figuresxof)))
    (l_figuresxof : K.lookup f_figuresxof = some ⟨oc_figuresxof, od_figuresxof, .func (PySem.W.fnOf "figures_of" "figures_of" (defArgs sFig) (defBody sFig) (defScope sFig) .none kV_figuresxof dc_figuresxof pm_figuresxof an_figuresxof cd_figuresxof ct_figuresxof), sl_figuresxof⟩) (c_figuresxof : PySem.W.codeIn K cd_figuresxof "figures_of" = true) (k_figuresxof : PySem.W.keepIn K (.ref f_figuresxof) = true)
    (a_xlawxbegin : PySem.W.nsIn K mainGlobals "_law_begin" = some (some (.ref f_xlawxbegin)))
    (l_xlawxbegin : K.lookup f_xlawxbegin = some ⟨oc_xlawxbegin, od_xlawxbegin, .func (PySem.W.fnOf "_law_begin" "_law_begin" (defArgs sBegin) (defBody sBegin) (defScope sBegin) .none kV_xlawxbegin dc_xlawxbegin pm_xlawxbegin an_xlawxbegin cd_xlawxbegin ct_xlawxbegin), sl_xlawxbegin⟩) (c_xlawxbegin : PySem.W.codeIn K cd_xlawxbegin "_law_begin" = true) (k_xlawxbegin : PySem.W.keepIn K (.ref f_xlawxbegin) = true)
    (a_xlawxtake : PySem.W.nsIn K mainGlobals "_law_take" = some (some (.ref f_xlawxtake)))
    (l_xlawxtake : K.lookup f_xlawxtake = some ⟨oc_xlawxtake, od_xlawxtake, .func (PySem.W.fnOf "_law_take" "_law_take" (defArgs sTake) (defBody sTake) (defScope sTake) .none kV_xlawxtake dc_xlawxtake pm_xlawxtake an_xlawxtake cd_xlawxtake ct_xlawxtake), sl_xlawxtake⟩) (c_xlawxtake : PySem.W.codeIn K cd_xlawxtake "_law_take" = true) (k_xlawxtake : PySem.W.keepIn K (.ref f_xlawxtake) = true)
    (a_xlawxpick : PySem.W.nsIn K mainGlobals "_law_pick" = some (some (.ref f_xlawxpick)))
    (l_xlawxpick : K.lookup f_xlawxpick = some ⟨oc_xlawxpick, od_xlawxpick, .func (PySem.W.fnOf "_law_pick" "_law_pick" (defArgs sPick) (defBody sPick) (defScope sPick) .none kV_xlawxpick dc_xlawxpick pm_xlawxpick an_xlawxpick cd_xlawxpick ct_xlawxpick), sl_xlawxpick⟩) (c_xlawxpick : PySem.W.codeIn K cd_xlawxpick "_law_pick" = true) (k_xlawxpick : PySem.W.keepIn K (.ref f_xlawxpick) = true)
    (a_xlawxfilm : PySem.W.nsIn K mainGlobals "_law_film" = some (some (.ref f_xlawxfilm)))
    (l_xlawxfilm : K.lookup f_xlawxfilm = some ⟨oc_xlawxfilm, od_xlawxfilm, .func (PySem.W.fnOf "_law_film" "_law_film" (defArgs sFilm) (defBody sFilm) (defScope sFilm) .none kV_xlawxfilm dc_xlawxfilm pm_xlawxfilm an_xlawxfilm cd_xlawxfilm ct_xlawxfilm), sl_xlawxfilm⟩) (c_xlawxfilm : PySem.W.codeIn K cd_xlawxfilm "_law_film" = true) (k_xlawxfilm : PySem.W.keepIn K (.ref f_xlawxfilm) = true)
    (a_xlawxwindows : PySem.W.nsIn K mainGlobals "_law_windows" = some (some (.ref f_xlawxwindows)))
    (l_xlawxwindows : K.lookup f_xlawxwindows = some ⟨oc_xlawxwindows, od_xlawxwindows, .func (PySem.W.fnOf "_law_windows" "_law_windows" (defArgs sWin) (defBody sWin) (defScope sWin) .none kV_xlawxwindows dc_xlawxwindows pm_xlawxwindows an_xlawxwindows cd_xlawxwindows ct_xlawxwindows), sl_xlawxwindows⟩) (c_xlawxwindows : PySem.W.codeIn K cd_xlawxwindows "_law_windows" = true) (k_xlawxwindows : PySem.W.keepIn K (.ref f_xlawxwindows) = true)
    (a_xlawxcalendar : PySem.W.nsIn K mainGlobals "_law_calendar" = some (some (.ref f_xlawxcalendar)))
    (l_xlawxcalendar : K.lookup f_xlawxcalendar = some ⟨oc_xlawxcalendar, od_xlawxcalendar, .func (PySem.W.fnOf "_law_calendar" "_law_calendar" (defArgs sCal) (defBody sCal) (defScope sCal) .none kV_xlawxcalendar dc_xlawxcalendar pm_xlawxcalendar an_xlawxcalendar cd_xlawxcalendar ct_xlawxcalendar), sl_xlawxcalendar⟩) (c_xlawxcalendar : PySem.W.codeIn K cd_xlawxcalendar "_law_calendar" = true) (k_xlawxcalendar : PySem.W.keepIn K (.ref f_xlawxcalendar) = true)
    (a_xlawxlist : PySem.W.nsIn K mainGlobals "_law_list" = some (some (.ref f_xlawxlist)))
    (l_xlawxlist : K.lookup f_xlawxlist = some ⟨oc_xlawxlist, od_xlawxlist, .func (PySem.W.fnOf "_law_list" "_law_list" (defArgs sList) (defBody sList) (defScope sList) .none kV_xlawxlist dc_xlawxlist pm_xlawxlist an_xlawxlist cd_xlawxlist ct_xlawxlist), sl_xlawxlist⟩) (c_xlawxlist : PySem.W.codeIn K cd_xlawxlist "_law_list" = true) (k_xlawxlist : PySem.W.keepIn K (.ref f_xlawxlist) = true)
    (a_xlawxsheet : PySem.W.nsIn K mainGlobals "_law_sheet" = some (some (.ref f_xlawxsheet)))
    (l_xlawxsheet : K.lookup f_xlawxsheet = some ⟨oc_xlawxsheet, od_xlawxsheet, .func (PySem.W.fnOf "_law_sheet" "_law_sheet" (defArgs sSheet) (defBody sSheet) (defScope sSheet) .none kV_xlawxsheet dc_xlawxsheet pm_xlawxsheet an_xlawxsheet cd_xlawxsheet ct_xlawxsheet), sl_xlawxsheet⟩) (c_xlawxsheet : PySem.W.codeIn K cd_xlawxsheet "_law_sheet" = true) (k_xlawxsheet : PySem.W.keepIn K (.ref f_xlawxsheet) = true)
    (a_xlawxhours : PySem.W.nsIn K mainGlobals "_law_hours" = some (some (.ref f_xlawxhours)))
    (l_xlawxhours : K.lookup f_xlawxhours = some ⟨oc_xlawxhours, od_xlawxhours, .func (PySem.W.fnOf "_law_hours" "_law_hours" (defArgs sLHours) (defBody sLHours) (defScope sLHours) .none kV_xlawxhours dc_xlawxhours pm_xlawxhours an_xlawxhours cd_xlawxhours ct_xlawxhours), sl_xlawxhours⟩) (c_xlawxhours : PySem.W.codeIn K cd_xlawxhours "_law_hours" = true) (k_xlawxhours : PySem.W.keepIn K (.ref f_xlawxhours) = true)
    (a_xlawxfigures : PySem.W.nsIn K mainGlobals "_law_figures" = some (some (.ref f_xlawxfigures)))
    (l_xlawxfigures : K.lookup f_xlawxfigures = some ⟨oc_xlawxfigures, od_xlawxfigures, .func (PySem.W.fnOf "_law_figures" "_law_figures" (defArgs sLFig) (defBody sLFig) (defScope sLFig) .none kV_xlawxfigures dc_xlawxfigures pm_xlawxfigures an_xlawxfigures cd_xlawxfigures ct_xlawxfigures), sl_xlawxfigures⟩) (c_xlawxfigures : PySem.W.codeIn K cd_xlawxfigures "_law_figures" = true) (k_xlawxfigures : PySem.W.keepIn K (.ref f_xlawxfigures) = true)
    (a_xlawxminutes : PySem.W.nsIn K mainGlobals "_law_minutes" = some (some (.ref f_xlawxminutes)))
    (l_xlawxminutes : K.lookup f_xlawxminutes = some ⟨oc_xlawxminutes, od_xlawxminutes, .func (PySem.W.fnOf "_law_minutes" "_law_minutes" (defArgs sMin) (defBody sMin) (defScope sMin) .none kV_xlawxminutes dc_xlawxminutes pm_xlawxminutes an_xlawxminutes cd_xlawxminutes ct_xlawxminutes), sl_xlawxminutes⟩) (c_xlawxminutes : PySem.W.codeIn K cd_xlawxminutes "_law_minutes" = true) (k_xlawxminutes : PySem.W.keepIn K (.ref f_xlawxminutes) = true)
    (a_law : PySem.W.nsIn K mainGlobals "law" = some (some (.ref f_law)))
    (l_law : K.lookup f_law = some ⟨oc_law, od_law, .func (PySem.W.fnOf "law" "law" (defArgs sLaw) (defBody sLaw) (defScope sLaw) .none kV_law dc_law pm_law an_law cd_law ct_law), sl_law⟩) (c_law : PySem.W.codeIn K cd_law "law" = true) (k_law : PySem.W.keepIn K (.ref f_law) = true)
    (g_MEAL : PySem.W.nsIn K mainGlobals "MEAL" = some (some (.int (-1) tk_MEAL)))
    (g_DAY : PySem.W.nsIn K mainGlobals "DAY" = some (some (.int 1440 tk_DAY)))
    (g_NO_REST : PySem.W.nsIn K mainGlobals "NO_REST" = some (some (.int 9999 tk_NO_REST)))
    (z_len : PySem.W.nsIn K mainGlobals "len" = some none)
    (z_range : PySem.W.nsIn K mainGlobals "range" = some none)
    (z_tuple : PySem.W.nsIn K mainGlobals "tuple" = some none)
    (z_list : PySem.W.nsIn K mainGlobals "list" = some none)
    (z_sorted : PySem.W.nsIn K mainGlobals "sorted" = some none)
    (z_abs : PySem.W.nsIn K mainGlobals "abs" = some none)
    (z_int : PySem.W.nsIn K mainGlobals "int" = some none)
    (z_str : PySem.W.nsIn K mainGlobals "str" = some none)
    (z_max : PySem.W.nsIn K mainGlobals "max" = some none)
    (z_min : PySem.W.nsIn K mainGlobals "min" = some none)
    (z_sum : PySem.W.nsIn K mainGlobals "sum" = some none)
    (z_any : PySem.W.nsIn K mainGlobals "any" = some none)
    (z_all : PySem.W.nsIn K mainGlobals "all" = some none)
    (z_set : PySem.W.nsIn K mainGlobals "set" = some none)
    (z_enumerate : PySem.W.nsIn K mainGlobals "enumerate" = some none)
    (z_isinstance : PySem.W.nsIn K mainGlobals "isinstance" = some none) :
    ∃ fd : FuncData, (∀ (s : Shared) (v : Value), BindsTo s fd ⟨[v], []⟩ [("script", v)]) ∧ ∀ base : Heap, K.In base → base.Ns mainGlobals mg → FnOk l.prog w K mg base CX0 4 fa fd ["script"] (spLaw K) := by
  have e := hfa.symm.trans (PySem.W.mg_of X G a_law)
  cases e
  have F_darkxminutes := fun_mk (st := sDark) l_darkxminutes c_darkxminutes k_darkxminutes
  have b_darkxminutes := F_darkxminutes.binds (ps := ["light", "dark", "begin", "end"]) fun _ _ _ _ _ _ us hl => match us, hl with | [_, _, _, _], _ => rfl
  have m_darkxminutes := PySem.W.mg_of X G a_darkxminutes
  have F_longestxstretch := fun_mk (st := sLong) l_longestxstretch c_longestxstretch k_longestxstretch
  have b_longestxstretch := F_longestxstretch.binds (ps := ["rows", "call", "wrap"]) fun _ _ _ _ _ _ us hl => match us, hl with | [_, _, _], _ => rfl
  have m_longestxstretch := PySem.W.mg_of X G a_longestxstretch
  have F_figuresxof := fun_mk (st := sFig) l_figuresxof c_figuresxof k_figuresxof
  have b_figuresxof := F_figuresxof.binds (ps := ["film", "calendar", "day", "rows", "actor", "before"]) fun _ _ _ _ _ _ us hl => match us, hl with | [_, _, _, _, _, _], _ => rfl
  have m_figuresxof := PySem.W.mg_of X G a_figuresxof
  have F_xlawxbegin := fun_mk (st := sBegin) l_xlawxbegin c_xlawxbegin k_xlawxbegin
  have b_xlawxbegin := F_xlawxbegin.binds (ps := ["script"]) fun _ _ _ _ _ _ us hl => match us, hl with | [_], _ => rfl
  have m_xlawxbegin := PySem.W.mg_of X G a_xlawxbegin
  have F_xlawxtake := fun_mk (st := sTake) l_xlawxtake c_xlawxtake k_xlawxtake
  have b_xlawxtake := F_xlawxtake.binds (ps := ["d", "many"]) fun _ _ _ _ _ _ us hl => match us, hl with | [_, _], _ => rfl
  have m_xlawxtake := PySem.W.mg_of X G a_xlawxtake
  have F_xlawxpick := fun_mk (st := sPick) l_xlawxpick c_xlawxpick k_xlawxpick
  have b_xlawxpick := F_xlawxpick.binds (ps := ["d", "menu"]) fun _ _ _ _ _ _ us hl => match us, hl with | [_, _], _ => rfl
  have m_xlawxpick := PySem.W.mg_of X G a_xlawxpick
  have F_xlawxfilm := fun_mk (st := sFilm) l_xlawxfilm c_xlawxfilm k_xlawxfilm
  have b_xlawxfilm := F_xlawxfilm.binds (ps := ["d", "most"]) fun _ _ _ _ _ _ us hl => match us, hl with | [_, _], _ => rfl
  have m_xlawxfilm := PySem.W.mg_of X G a_xlawxfilm
  have F_xlawxwindows := fun_mk (st := sWin) l_xlawxwindows c_xlawxwindows k_xlawxwindows
  have b_xlawxwindows := F_xlawxwindows.binds (ps := ["d", "many", "days"]) fun _ _ _ _ _ _ us hl => match us, hl with | [_, _, _], _ => rfl
  have m_xlawxwindows := PySem.W.mg_of X G a_xlawxwindows
  have F_xlawxcalendar := fun_mk (st := sCal) l_xlawxcalendar c_xlawxcalendar k_xlawxcalendar
  have b_xlawxcalendar := F_xlawxcalendar.binds (ps := ["d", "film", "days"]) fun _ _ _ _ _ _ us hl => match us, hl with | [_, _, _], _ => rfl
  have m_xlawxcalendar := PySem.W.mg_of X G a_xlawxcalendar
  have F_xlawxlist := fun_mk (st := sList) l_xlawxlist c_xlawxlist k_xlawxlist
  have b_xlawxlist := F_xlawxlist.binds (ps := ["d", "film"]) fun _ _ _ _ _ _ us hl => match us, hl with | [_, _], _ => rfl
  have m_xlawxlist := PySem.W.mg_of X G a_xlawxlist
  have F_xlawxsheet := fun_mk (st := sSheet) l_xlawxsheet c_xlawxsheet k_xlawxsheet
  have b_xlawxsheet := F_xlawxsheet.binds (ps := ["d", "film"]) fun _ _ _ _ _ _ us hl => match us, hl with | [_, _], _ => rfl
  have m_xlawxsheet := PySem.W.mg_of X G a_xlawxsheet
  have F_xlawxhours := fun_mk (st := sLHours) l_xlawxhours c_xlawxhours k_xlawxhours
  have b_xlawxhours := F_xlawxhours.binds (ps := ["film", "sheet", "shot", "news"]) fun _ _ _ _ _ _ us hl => match us, hl with | [_, _, _, _], _ => rfl
  have m_xlawxhours := PySem.W.mg_of X G a_xlawxhours
  have F_xlawxfigures := fun_mk (st := sLFig) l_xlawxfigures c_xlawxfigures k_xlawxfigures
  have b_xlawxfigures := F_xlawxfigures.binds (ps := ["film", "calendar", "day", "rows", "actor", "before"]) fun _ _ _ _ _ _ us hl => match us, hl with | [_, _, _, _, _, _], _ => rfl
  have m_xlawxfigures := PySem.W.mg_of X G a_xlawxfigures
  have F_xlawxminutes := fun_mk (st := sMin) l_xlawxminutes c_xlawxminutes k_xlawxminutes
  have b_xlawxminutes := F_xlawxminutes.binds (ps := ["film", "calendar", "day", "rows", "actor", "before"]) fun _ _ _ _ _ _ us hl => match us, hl with | [_, _, _, _, _, _], _ => rfl
  have m_xlawxminutes := PySem.W.mg_of X G a_xlawxminutes
  have F_law := fun_mk (st := sLaw) l_law c_law k_law
  have b_law := F_law.binds (ps := ["script"]) fun _ _ _ _ _ _ us hl => match us, hl with | [_], _ => rfl
  have m_law := PySem.W.mg_of X G a_law
  have bi : Bi mg := ⟨PySem.W.mg_none_of X G z_len, PySem.W.mg_none_of X G z_range, PySem.W.mg_none_of X G z_tuple, PySem.W.mg_none_of X G z_list, PySem.W.mg_none_of X G z_sorted, PySem.W.mg_none_of X G z_abs, PySem.W.mg_none_of X G z_int, PySem.W.mg_none_of X G z_str, PySem.W.mg_none_of X G z_max, PySem.W.mg_none_of X G z_min, PySem.W.mg_none_of X G z_sum, PySem.W.mg_none_of X G z_any, PySem.W.mg_none_of X G z_all, PySem.W.mg_none_of X G z_set, PySem.W.mg_none_of X G z_enumerate, PySem.W.mg_none_of X G z_isinstance⟩
  refine ⟨PySem.W.fnOf "law" "law" (defArgs sLaw) (defBody sLaw) (defScope sLaw) .none kV_law dc_law pm_law an_law cd_law ct_law, fun s v => .of_eq rfl, fun base _ _ => ?_⟩
  have cT : C8.Cal l.prog w K mg base 1 "_law_take" (mkSp K ATake) [] := ⟨_, _, _, _, ok_take F_xlawxtake bi, m_xlawxtake, k_xlawxtake, b_xlawxtake, .nil⟩
  have cP : C8.Cal l.prog w K mg base 2 "_law_pick" (mkSp K APick) [] := ⟨_, _, _, _, ok_pick F_xlawxpick bi cT, m_xlawxpick, k_xlawxpick, b_xlawxpick, .nil⟩
  have cF : C8.Cal l.prog w K mg base 3 "_law_film" (mkSp K AFilm) [] := ⟨_, _, _, _, ok_film F_xlawxfilm bi cT cP, m_xlawxfilm, k_xlawxfilm, b_xlawxfilm, .nil⟩
  have cW : C8.Cal l.prog w K mg base 2 "_law_windows" (mkSp K AWin) [] := ⟨_, _, _, _, ok_win F_xlawxwindows bi cT, m_xlawxwindows, k_xlawxwindows, b_xlawxwindows, .nil⟩
  have cC : C8.Cal l.prog w K mg base 3 "_law_calendar" (mkSp K ACal) [] := ⟨_, _, _, _, ok_cal F_xlawxcalendar bi cT cW, m_xlawxcalendar, k_xlawxcalendar, b_xlawxcalendar, .nil⟩
  have cLi : C8.Cal l.prog w K mg base 2 "_law_list" (mkSp K AList) [] := ⟨_, _, _, _, ok_list F_xlawxlist bi cT, m_xlawxlist, k_xlawxlist, b_xlawxlist, .nil⟩
  have cS : C8.Cal l.prog w K mg base 3 "_law_sheet" (mkSp K ASheet) [] := ⟨_, _, _, _, ok_sheet F_xlawxsheet bi cT cLi, m_xlawxsheet, k_xlawxsheet, b_xlawxsheet, .nil⟩
  have cL : C8.Cal l.prog w K mg base 1 "_law_hours" (mkSp K AHours) [] := ⟨_, _, _, _, ok_lhours F_xlawxhours bi, m_xlawxhours, k_xlawxhours, b_xlawxhours, .nil⟩
  have mM := PySem.W.mg_of X G g_MEAL
  have mD := PySem.W.mg_of X G g_DAY
  have mN := PySem.W.mg_of X G g_NO_REST
  have cDk : C8.Cal l.prog w K mg base 1 "dark_minutes" (mkSp K ADark) [] := ⟨_, _, _, _, ok_dark F_darkxminutes bi, m_darkxminutes, k_darkxminutes, b_darkxminutes, .nil⟩
  have cLo : C8.Cal l.prog w K mg base 1 "longest_stretch" (mkSp K ALong) [] := ⟨_, _, _, _, ok_long F_longestxstretch bi mM, m_longestxstretch, k_longestxstretch, b_longestxstretch, .nil⟩
  have c1 : C8.Cal l.prog w K mg base 2 "figures_of" (mkSp K AFig) [] := ⟨_, _, _, _, ok_fig F_figuresxof bi mM mD mN cDk cLo, m_figuresxof, k_figuresxof, b_figuresxof, .nil⟩
  have c2 : C8.Cal l.prog w K mg base 1 "_law_figures" (mkSp K AFig) [] := ⟨_, _, _, _, ok_lfig F_xlawxfigures bi, m_xlawxfigures, k_xlawxfigures, b_xlawxfigures, .nil⟩
  have c3 : C8.Cal l.prog w K mg base 1 "_law_minutes" (mkSp K AFig) [] := ⟨_, _, _, _, ok_lmin F_xlawxminutes bi, m_xlawxminutes, k_xlawxminutes, b_xlawxminutes, .nil⟩
  exact ok_law F_law bi (ok_begin F_xlawxbegin bi) m_xlawxbegin k_xlawxbegin b_xlawxbegin cT cP cF cC cS cL c1 c2 c3
theorem walk {l : PySem.W.OpenLaw} {q : Program} {loose : List Str} {XP : (Str → Option Value) → Heap → Prop} {YP : World → Heap → Prop} {d : DefRec} {K : Params → PySem.W.Frag} (hn : l.most = some 63) (hdf : d.params.defaults = [])
    (hY : ∀ (w : World) (h : Heap), YP w h → (K w.params).In h)
    (F : ∀ (w : World) (mg : Str → Option Value) (fa : Addr) (h : Heap), (K w.params).In h → h.Ns mainGlobals mg → mg d.name = some (.ref fa) →
      ∃ fd : FuncData, (∀ (s : Shared) (u : Value), BindsTo s fd ⟨[u], []⟩ [("script", u)]) ∧ ∀ base : Heap, (K w.params).In base → base.Ns mainGlobals mg → FnOk l.prog w (K w.params) mg base CX0 4 fa fd ["script"] (spLaw (K w.params))) :
    PySem.W.WalkO q loose XP YP l.row.toRowW d [] (fun f vs => PySem.call f vs) :=
  L2.walk_of (n := 63) (k := 4) (x := "script") (CX := fun _ => CX0) (sp := fun w => spLaw (K w.params)) hn (by decide) hdf ⟨rfl, by decide, by decide⟩ hY F (fun _ _ a ns hl _ hS => ⟨a, ns, rfl, hS, hl, fun _ => rfl⟩) fun _ _ _ _ _ z => z
end Cs
open PySem PySem.W PyProof.Rows
set_option maxRecDepth 100000 in
set_option maxHeartbeats 0 in
theorem PySem.Challenge.cw_callsheets_k11_figures_of_days_holds : PySem.Challenge.rw_callsheets_k11_figures_of_days.Holds := by
  w_on; o_law; k_head; (case hw => w_witness2)
  k_fill
  refine Cs.walk (l := PySem.Challenge.rw_callsheets_k11_figures_of_days) rfl rfl (fun w h Y => PySem.W.kIn_of Y) ?F
  case F =>
    intro w mg fa h KX G hmg
    refine' Cs.all_mk KX G hmg ?a_darkxminutes ?l_darkxminutes ?c_darkxminutes ?k_darkxminutes ?a_longestxstretch ?l_longestxstretch ?c_longestxstretch ?k_longestxstretch ?a_figuresxof ?l_figuresxof ?c_figuresxof ?k_figuresxof ?a_xlawxbegin ?l_xlawxbegin ?c_xlawxbegin ?k_xlawxbegin ?a_xlawxtake ?l_xlawxtake ?c_xlawxtake ?k_xlawxtake ?a_xlawxpick ?l_xlawxpick ?c_xlawxpick ?k_xlawxpick ?a_xlawxfilm ?l_xlawxfilm ?c_xlawxfilm ?k_xlawxfilm ?a_xlawxwindows ?l_xlawxwindows ?c_xlawxwindows ?k_xlawxwindows ?a_xlawxcalendar ?l_xlawxcalendar ?c_xlawxcalendar ?k_xlawxcalendar ?a_xlawxlist ?l_xlawxlist ?c_xlawxlist ?k_xlawxlist ?a_xlawxsheet ?l_xlawxsheet ?c_xlawxsheet ?k_xlawxsheet ?a_xlawxhours ?l_xlawxhours ?c_xlawxhours ?k_xlawxhours ?a_xlawxfigures ?l_xlawxfigures ?c_xlawxfigures ?k_xlawxfigures ?a_xlawxminutes ?l_xlawxminutes ?c_xlawxminutes ?k_xlawxminutes ?a_law ?l_law ?c_law ?k_law ?g_MEAL ?g_DAY ?g_NO_REST ?z_len ?z_range ?z_tuple ?z_list ?z_sorted ?z_abs ?z_int ?z_str ?z_max ?z_min ?z_sum ?z_any ?z_all ?z_set ?z_enumerate ?z_isinstance
    (case a_darkxminutes => k_is)
    (case l_darkxminutes => k_is)
    (case c_darkxminutes => k_is)
    (case k_darkxminutes => k_is)
    (case a_longestxstretch => k_is)
    (case l_longestxstretch => k_is)
    (case c_longestxstretch => k_is)
    (case k_longestxstretch => k_is)
    (case a_figuresxof => k_is)
    (case l_figuresxof => k_is)
    (case c_figuresxof => k_is)
    (case k_figuresxof => k_is)
    (case a_xlawxbegin => k_is)
    (case l_xlawxbegin => k_is)
    (case c_xlawxbegin => k_is)
    (case k_xlawxbegin => k_is)
    (case a_xlawxtake => k_is)
    (case l_xlawxtake => k_is)
    (case c_xlawxtake => k_is)
    (case k_xlawxtake => k_is)
    (case a_xlawxpick => k_is)
    (case l_xlawxpick => k_is)
    (case c_xlawxpick => k_is)
    (case k_xlawxpick => k_is)
    (case a_xlawxfilm => k_is)
    (case l_xlawxfilm => k_is)
    (case c_xlawxfilm => k_is)
    (case k_xlawxfilm => k_is)
    (case a_xlawxwindows => k_is)
    (case l_xlawxwindows => k_is)
    (case c_xlawxwindows => k_is)
    (case k_xlawxwindows => k_is)
    (case a_xlawxcalendar => k_is)
    (case l_xlawxcalendar => k_is)
    (case c_xlawxcalendar => k_is)
    (case k_xlawxcalendar => k_is)
    (case a_xlawxlist => k_is)
    (case l_xlawxlist => k_is)
    (case c_xlawxlist => k_is)
    (case k_xlawxlist => k_is)
    (case a_xlawxsheet => k_is)
    (case l_xlawxsheet => k_is)
    (case c_xlawxsheet => k_is)
    (case k_xlawxsheet => k_is)
    (case a_xlawxhours => k_is)
    (case l_xlawxhours => k_is)
    (case c_xlawxhours => k_is)
    (case k_xlawxhours => k_is)
    (case a_xlawxfigures => k_is)
    (case l_xlawxfigures => k_is)
    (case c_xlawxfigures => k_is)
    (case k_xlawxfigures => k_is)
    (case a_xlawxminutes => k_is)
    (case l_xlawxminutes => k_is)
    (case c_xlawxminutes => k_is)
    (case k_xlawxminutes => k_is)
    (case a_law => k_is)
    (case l_law => k_is)
    (case c_law => k_is)
    (case k_law => k_is)
    (case g_MEAL => k_is)
    (case g_DAY => k_is)
    (case g_NO_REST => k_is)
    (case z_len => k_is)
    (case z_range => k_is)
    (case z_tuple => k_is)
    (case z_list => k_is)
    (case z_sorted => k_is)
    (case z_abs => k_is)
    (case z_int => k_is)
    (case z_str => k_is)
    (case z_max => k_is)
    (case z_min => k_is)
    (case z_sum => k_is)
    (case z_any => k_is)
    (case z_all => k_is)
    (case z_set => k_is)
    (case z_enumerate => k_is)
    (case z_isinstance => k_is)

