import PyProof.Rows.All
import Wide.All
import OpenK.AllK
import Wide.FinOn
import HandS.ForMost
import HandS.ForExc
import HandS.Wide
import HandS.TupAny
import HandS.Deep
import PyProof.Rows.RuleB_pow
import HandS.ExcCtx
import HandS.TryOnly
import HandS.DictComp
import HandS.Style
import HandS.NoneIn
import HandS.Property
import HandS.DictEq
import KE.KEqNest
import HandS.Defaults
import HandS.IsInst
import HandS.OwnEq
import HandS.Finally
import HandS.Iter
import HandS.EndBits
import PySem.Challenge.RW_tightranges_k35_values_behind_runs
set_option Elab.async false
set_option linter.all false
set_option maxRecDepth 100000
set_option maxHeartbeats 4000000
namespace TR
open PySem L2

/-- values as data: loc n is the n-th changeable thing of the store -/
inductive D where
  | non | bl (b : Bool) | int (i : Int) | str (x : Str)
  | tup (l : List D) | lst (l : List D)
  | ktup (l : List D) | klst (l : List D)
  | dct (ks : List Key) (l : List D)
  | obj (c : Nat) (l : List D)
  | loc (n : Nat)
  deriving Inhabited

/-- what may change -/
inductive Cell where
  | lst (l : List D) | dct (ks : List Key) (l : List D) | dtt (ks : List (List Key)) (l : List D)
  | obj (c : Nat) (ns : List Str) (l : List D) | dead
  deriving Inhabited

/-- where the own classes stand, and the names of an instance's fields in their order -/
structure Tab where
  cls : Nat → Addr
  fl : Nat → List Str

mutual
inductive Rep (K : PySem.W.Frag) (T : Tab) (m : List Addr) (F : Hp) : D → V → Prop
  | non : Rep K T m F .non .non
  | bl (b : Bool) : Rep K T m F (.bl b) (.bl b)
  | int (i : Int) : Rep K T m F (.int i) (.int i)
  | str (x : Str) : Rep K T m F (.str x) (.str x)
  | tup {a : Addr} {xs : List V} {ds : List D} : F a = some (.tup xs) → Reps K T m F ds xs → Rep K T m F (.tup ds) (.ref a)
  | ktup {a : Addr} {xs : List V} {ds : List D} : SqT K (fun _ => none) a xs → Reps K T m F ds xs → Rep K T m F (.ktup ds) (.ref a)
  | lst {a : Addr} {xs : List V} {ds : List D} : Rd F a (.lst xs) → Reps K T m F ds xs → Rep K T m F (.lst ds) (.ref a)
  | klst {a : Addr} {xs : List V} {ds : List D} : SqL K (fun _ => none) a xs → Reps K T m F ds xs → Rep K T m F (.klst ds) (.ref a)
  | dct {a : Addr} {ks : List Key} {xs : List V} {ds : List D} : F a = some (.dK (ks.zip xs)) → ks.length = xs.length → Reps K T m F ds xs → Rep K T m F (.dct ks ds) (.ref a)
  | obj {a dx : Addr} {c : Nat} {xs : List V} {ds : List D} : F a = some (.ins (T.cls c) dx ((T.fl c).zip xs)) → (T.fl c).length = xs.length → Reps K T m F ds xs → Rep K T m F (.obj c ds) (.ref a)
  | loc {n : Nat} {a : Addr} : m[n]? = some a → Rep K T m F (.loc n) (.ref a)
inductive Reps (K : PySem.W.Frag) (T : Tab) (m : List Addr) (F : Hp) : List D → List V → Prop
  | nil : Reps K T m F [] []
  | cons {d : D} {ds : List D} {v : V} {vs : List V} : Rep K T m F d v → Reps K T m F ds vs → Reps K T m F (d :: ds) (v :: vs)
end

def Le (F F' : Hp) : Prop := ∀ a o, F a = some o → F' a = some o
theorem Le.refl (F : Hp) : Le F F := fun _ _ h => h
theorem Le.trans {F F1 F2 : Hp} (a : Le F F1) (b : Le F1 F2) : Le F F2 := fun x o h => b x o (a x o h)
theorem Le.rd {F F' : Hp} (e : Le F F') {a : Addr} {u : HO} (h : Rd F a u) : Rd F' a u := by
  rcases h with h | ⟨o, h⟩
  · exact Or.inl (e a _ h)
  · exact Or.inr ⟨o, e a _ h⟩
theorem Le.sqL {K : PySem.W.Frag} {F F' : Hp} (e : Le F F') {a : Addr} {xs : List V} (h : SqL K F a xs) : SqL K F' a xs := by
  rcases h with h | h
  · exact Or.inl (e.rd h)
  · exact Or.inr h
theorem Le.sqT {K : PySem.W.Frag} {F F' : Hp} (e : Le F F') {a : Addr} {xs : List V} (h : SqT K F a xs) : SqT K F' a xs := by
  rcases h with h | h
  · exact Or.inl (e.rd h)
  · exact Or.inr h

theorem Le.zero (F : Hp) : Le (fun _ => none) F := fun _ _ h => by cases h
section
variable {K : PySem.W.Frag} {T : Tab} {m m' : List Addr} {F F' : Hp}
theorem pre_get {m m' : List Addr} (p : m <+: m') {n : Nat} {a : Addr} (h : m[n]? = some a) : m'[n]? = some a := by
  obtain ⟨t, rfl⟩ := p
  have hl : n < m.length := (List.getElem?_eq_some_iff.mp h).1
  rw [List.getElem?_append_left hl]
  exact h
mutual
theorem Rep.mono (p : m <+: m') (e : Le F F') : ∀ {d : D} {v : V}, Rep K T m F d v → Rep K T m' F' d v
  | _, _, .non => .non
  | _, _, .bl b => .bl b
  | _, _, .int i => .int i
  | _, _, .str x => .str x
  | _, _, .tup h r => .tup (e _ _ h) (Reps.mono p e r)
  | _, _, .ktup h r => .ktup h (Reps.mono p e r)
  | _, _, .lst h r => .lst (e.rd h) (Reps.mono p e r)
  | _, _, .klst h r => .klst h (Reps.mono p e r)
  | _, _, .dct h l r => .dct (e _ _ h) l (Reps.mono p e r)
  | _, _, .obj h l r => .obj (e _ _ h) l (Reps.mono p e r)
  | _, _, .loc h => .loc (pre_get p h)
theorem Reps.mono (p : m <+: m') (e : Le F F') : ∀ {ds : List D} {vs : List V}, Reps K T m F ds vs → Reps K T m' F' ds vs
  | _, _, .nil => .nil
  | _, _, .cons h r => .cons (Rep.mono p e h) (Reps.mono p e r)
end
theorem Reps.length : ∀ {ds : List D} {vs : List V}, Reps K T m F ds vs → ds.length = vs.length
  | _, _, .nil => rfl
  | _, _, .cons _ r => by rw [List.length_cons, List.length_cons, Reps.length r]
theorem Reps.append : ∀ {ds es : List D} {vs ws : List V}, Reps K T m F ds vs → Reps K T m F es ws → Reps K T m F (ds ++ es) (vs ++ ws)
  | _, _, _, _, .nil, s => s
  | _, _, _, _, .cons h r, s => .cons h (Reps.append r s)
theorem Reps.get : ∀ {ds : List D} {vs : List V} {i : Nat} {d : D}, Reps K T m F ds vs → ds[i]? = some d → ∃ v, vs[i]? = some v ∧ Rep K T m F d v
  | _, _, i, _, .nil, h => by simp at h
  | _, _, 0, _, .cons h r, e => by
    simp at e
    subst e
    exact ⟨_, rfl, h⟩
  | _, _, i + 1, _, .cons h r, e => Reps.get (i := i) r (by simpa using e)
theorem Reps.getV : ∀ {ds : List D} {vs : List V} {i : Nat} {v : V}, Reps K T m F ds vs → vs[i]? = some v → ∃ d, ds[i]? = some d ∧ Rep K T m F d v
  | _, _, i, _, .nil, h => by simp at h
  | _, _, 0, _, .cons h r, e => by
    simp at e
    subst e
    exact ⟨_, rfl, h⟩
  | _, _, i + 1, _, .cons h r, e => Reps.getV (i := i) r (by simpa using e)
theorem Reps.set {d : D} {v : V} (h : Rep K T m F d v) : ∀ {ds : List D} {vs : List V} (i : Nat), Reps K T m F ds vs → Reps K T m F (ds.set i d) (vs.set i v)
  | _, _, _, .nil => .nil
  | _, _, 0, .cons _ r => .cons h r
  | _, _, i + 1, .cons q r => .cons q (Reps.set h i r)
theorem Reps.take : ∀ {ds : List D} {vs : List V} (n : Nat), Reps K T m F ds vs → Reps K T m F (ds.take n) (vs.take n)
  | _, _, 0, _ => .nil
  | _, _, _ + 1, .nil => .nil
  | _, _, n + 1, .cons h r => .cons h (Reps.take n r)
theorem Reps.drop : ∀ {ds : List D} {vs : List V} (n : Nat), Reps K T m F ds vs → Reps K T m F (ds.drop n) (vs.drop n)
  | _, _, 0, r => r
  | _, _, _ + 1, .nil => .nil
  | _, _, n + 1, .cons _ r => Reps.drop n r
theorem Reps.reverse {ds : List D} {vs : List V} (h : Reps K T m F ds vs) : Reps K T m F ds.reverse vs.reverse := by
  induction ds generalizing vs with
  | nil => cases h; exact .nil
  | cons d ds ih =>
    cases h with
    | cons h r =>
      rw [List.reverse_cons, List.reverse_cons]
      exact (ih r).append (.cons h .nil)
theorem Reps.erase : ∀ {ds : List D} {vs : List V} (i : Nat), Reps K T m F ds vs → Reps K T m F (ds.eraseIdx i) (vs.eraseIdx i)
  | _, _, _, .nil => .nil
  | _, _, 0, .cons _ r => r
  | _, _, i + 1, .cons q r => .cons q (Reps.erase i r)
end

/-- a changeable thing as the heap has it -/
inductive CellOk (K : PySem.W.Frag) (T : Tab) (m : List Addr) (F H : Hp) (a : Addr) : Cell → Prop
  | lst {xs : List V} {ds : List D} : H a = some (.lst xs) → Reps K T m F ds xs → CellOk K T m F H a (.lst ds)
  | dct {ks : List Key} {xs : List V} {ds : List D} : H a = some (.dK (ks.zip xs)) → ks.length = xs.length → Reps K T m F ds xs → CellOk K T m F H a (.dct ks ds)
  | dtt {ks : List (List Key)} {xs : List V} {ds : List D} : H a = some (.dT (ks.zip xs)) → ks.length = xs.length → Reps K T m F ds xs → CellOk K T m F H a (.dtt ks ds)
  | obj {c : Nat} {dx : Addr} {ns : List Str} {xs : List V} {ds : List D} : H a = some (.ins (T.cls c) dx (ns.zip xs)) → ns.length = xs.length → Reps K T m F ds xs → CellOk K T m F H a (.obj c ns ds)
  | dead : CellOk K T m F H a .dead
theorem CellOk.mono {K : PySem.W.Frag} {T : Tab} {m m' : List Addr} {F F' H H' : Hp} {a : Addr} {c : Cell} (p : m <+: m') (e : Le F F') (h : ∀ o, H a = some o → H' a = some o) (x : CellOk K T m F H a c) : CellOk K T m' F' H' a c := by
  cases x with
  | lst q r => exact .lst (h _ q) (r.mono p e)
  | dct q l r => exact .dct (h _ q) l (r.mono p e)
  | dtt q l r => exact .dtt (h _ q) l (r.mono p e)
  | obj q l r => exact .obj (h _ q) l (r.mono p e)
  | dead => exact .dead

/-- the heap at a def's entry, the things that it knew there, what it knew to stand still -/
structure Gh where
  H0 : Hp
  m0 : List Addr
  F0 : Hp

/-- the store, the slots and the heap at one moment: m tells where the things are, F is what stands still -/
structure Rel (K : PySem.W.Frag) (T : Tab) (g : Gh) (m : List Addr) (F : Hp) (S : List Cell) (ρ : List (Option D)) (σ : St) (H : Hp) : Prop where
  len : m.length = S.length
  nd : m.Nodup
  le : Le F H
  ap : ∀ (n : Nat) a, m[n]? = some a → F a = none
  cell : ∀ (n : Nat) a c, m[n]? = some a → S[n]? = some c → CellOk K T m F H a c
  slen : ρ.length = σ.length
  sl : ∀ (i : Nat) d, ρ[i]? = some (some d) → ∃ v, σ[i]? = some (some v) ∧ Rep K T m F d v
  frame : ∀ a o, g.H0 a = some o → a ∉ g.m0 → H a = some o
  pre : g.m0 <+: m
  newF : ∀ a o, F a = some o → g.F0 a = some o ∨ g.H0 a = none
  newm : ∀ (n : Nat) a, m[n]? = some a → n < g.m0.length ∨ g.H0 a = none
  leF : Le g.F0 F
  there : ∀ (n : Nat) a, m[n]? = some a → ∃ o, H a = some o

section
variable {K : PySem.W.Frag} {T : Tab} {g : Gh} {m : List Addr} {F : Hp} {S : List Cell} {ρ : List (Option D)} {σ : St} {H : Hp}
theorem Le.new {F : Hp} {p : Addr} {o : HO} (h : F p = none) : Le F (upd F p o) := fun a u e => by
  rw [upd_ne (ne_of_none e h)]
  exact e
theorem Le.both {F H : Hp} {p : Addr} {o : HO} (h : Le F H) : Le (upd F p o) (upd H p o) := fun a u e => by
  by_cases q : a = p
  · subst q
    rw [upd_same] at e ⊢
    exact e
  · rw [upd_ne q] at e ⊢
    exact h a u e
theorem Le.none {F H : Hp} (h : Le F H) {p : Addr} (e : H p = none) : F p = none := by
  cases q : F p with
  | none => rfl
  | some o => rw [h p o q] at e; cases e
theorem Rel.out (R : Rel K T g m F S ρ σ H) {p : Addr} (e : H p = none) : p ∉ m := fun h => by
  obtain ⟨n, hn, q⟩ := List.mem_iff_getElem.mp h
  obtain ⟨o, z⟩ := R.there n p (by rw [List.getElem?_eq_getElem hn, q])
  rw [e] at z; cases z
theorem Rel.entry (R : Rel K T g m F S ρ σ H) {p : Addr} (e : H p = none) : g.H0 p = none := by
  cases q : g.H0 p with
  | none => rfl
  | some o =>
    have hm : p ∉ g.m0 := fun h => R.out e (R.pre.subset h)
    rw [R.frame p o q hm] at e; cases e
/-- a new thing that stands still -/
theorem Rel.grow {p : Addr} {o : HO} (R : Rel K T g m F S ρ σ H) (hp : H p = none) : Rel K T g m (upd F p o) S ρ σ (upd H p o) := by
  have le := Le.new (o := o) (R.le.none hp)
  have leH := Le.new (o := o) hp
  have hm := R.out hp
  refine ⟨R.len, R.nd, R.le.both, fun n a h => ?_, fun n a c h1 h2 => ?_, R.slen, fun i d h => ?_, fun a u h hn => leH _ _ (R.frame a u h hn), R.pre, fun a u h => ?_, R.newm, R.leF.trans le, fun n a h => ?_⟩
  · have hne : a ≠ p := fun q => hm (by rw [← q]; exact List.mem_of_getElem? h)
    rw [upd_ne hne]
    exact R.ap n a h
  · exact (R.cell n a c h1 h2).mono (List.prefix_refl m) le (fun o q => leH _ _ q)
  · obtain ⟨v, e, r⟩ := R.sl i d h
    exact ⟨v, e, r.mono (List.prefix_refl m) le⟩
  · by_cases q : a = p
    · subst q
      exact .inr (R.entry hp)
    · rw [upd_ne q] at h
      exact R.newF a u h
  · obtain ⟨u, q⟩ := R.there n a h
    exact ⟨u, leH _ _ q⟩
/-- the heap grew elsewhere -/
theorem Rel.wide {H' : Hp} (R : Rel K T g m F S ρ σ H) (e : Le H H') : Rel K T g m F S ρ σ H' :=
  ⟨R.len, R.nd, R.le.trans e, R.ap, fun n a c h1 h2 => (R.cell n a c h1 h2).mono (List.prefix_refl m) (Le.refl F) (fun o q => e _ _ q), R.slen, R.sl, fun a u h hn => e _ _ (R.frame a u h hn), R.pre, R.newF, R.newm, R.leF, fun n a h => let ⟨u, q⟩ := R.there n a h; ⟨u, e _ _ q⟩⟩
/-- a new thing that may change -/
theorem Rel.push {p : Addr} {o : HO} {c : Cell} (R : Rel K T g m F S ρ σ H) (hp : H p = none) (hc : CellOk K T (m ++ [p]) F (upd H p o) p c) : Rel K T g (m ++ [p]) F (S ++ [c]) ρ σ (upd H p o) := by
  have leH := Le.new (o := o) hp
  have hm := R.out hp
  have pr : m <+: m ++ [p] := List.prefix_append m [p]
  have at_ : ∀ (n : Nat) a, (m ++ [p])[n]? = some a → m[n]? = some a ∨ (n = m.length ∧ a = p) := fun n a h => by
    by_cases q : n < m.length
    · rw [List.getElem?_append_left q] at h
      exact .inl h
    · rw [List.getElem?_append_right (by omega)] at h
      have z : n - m.length = 0 := by
        cases y : n - m.length with
        | zero => rfl
        | succ k => rw [y] at h; simp at h
      rw [z] at h
      simp at h
      exact .inr ⟨by omega, h.symm⟩
  refine ⟨by simp [R.len], ?_, R.le.trans leH, fun n a h => ?_, fun n a c' h1 h2 => ?_, R.slen, fun i d h => ?_, fun a u h hn => leH _ _ (R.frame a u h hn), R.pre.trans pr, R.newF, fun n a h => ?_, R.leF, fun n a h => ?_⟩
  · rw [List.nodup_append]
    exact ⟨R.nd, by simp, fun a h b hb => by simp at hb; subst hb; exact fun q => hm (q ▸ h)⟩
  · rcases at_ n a h with h | ⟨_, rfl⟩
    · exact R.ap n a h
    · exact R.le.none hp
  · rcases at_ n a h1 with h | ⟨rfl, rfl⟩
    · have hl : n < S.length := by rw [← R.len]; exact (List.getElem?_eq_some_iff.mp h).1
      rw [List.getElem?_append_left hl] at h2
      exact (R.cell n a c' h h2).mono pr (Le.refl F) (fun o q => leH _ _ q)
    · rw [R.len] at h2
      simp at h2
      subst h2
      exact hc
  · obtain ⟨v, e, r⟩ := R.sl i d h
    exact ⟨v, e, r.mono pr (Le.refl F)⟩
  · rcases at_ n a h with h | ⟨_, rfl⟩
    · exact R.newm n a h
    · exact .inr (R.entry hp)
  · rcases at_ n a h with h | ⟨_, rfl⟩
    · obtain ⟨u, q⟩ := R.there n a h
      exact ⟨u, leH _ _ q⟩
    · exact ⟨o, upd_same⟩
/-- a thing changes -/
theorem Rel.put {n : Nat} {a : Addr} {o : HO} {c : Cell} (R : Rel K T g m F S ρ σ H) (h : m[n]? = some a) (hc : CellOk K T m F (upd H a o) a c) : Rel K T g m F (S.set n c) ρ σ (upd H a o) := by
  have inj : ∀ (k : Nat), m[k]? = some a → k = n := fun k hk => by
    obtain ⟨h1, e1⟩ := List.getElem?_eq_some_iff.mp hk
    obtain ⟨h2, e2⟩ := List.getElem?_eq_some_iff.mp h
    exact (List.getElem_inj R.nd).mp (e1.trans e2.symm)
  have other : ∀ b u, b ≠ a → H b = some u → upd H a o b = some u := fun b u q e => by rw [upd_ne q]; exact e
  have nF : F a = none := R.ap n a h
  have am : a ∈ m := List.mem_of_getElem? h
  refine ⟨by simp [R.len], R.nd, fun b u e => ?_, R.ap, fun k b c' h1 h2 => ?_, R.slen, R.sl, fun b u e hn => ?_, R.pre, R.newF, R.newm, R.leF, fun k b e => ?_⟩
  · exact other b u (ne_of_none e nF) (R.le b u e)
  · by_cases q : k = n
    · subst q
      rw [h] at h1; cases h1
      have hl : k < S.length := by rw [← R.len]; exact (List.getElem?_eq_some_iff.mp h).1
      rw [List.getElem?_set_self hl] at h2; cases h2
      exact hc
    · rw [List.getElem?_set_ne (Ne.symm q)] at h2
      have nb : b ≠ a := fun z => q (inj k (z ▸ h1))
      exact (R.cell k b c' h1 h2).mono (List.prefix_refl m) (Le.refl F) (fun u e => other b u nb e)
  · have q : b ≠ a := by
      rintro rfl
      rcases R.newm n b h with z | z
      · have h' := List.getElem?_eq_getElem (l := g.m0) (i := n) z
        have := pre_get R.pre h'
        rw [h] at this
        have e' : b = g.m0[n] := Option.some.inj this
        exact hn (e' ▸ List.getElem_mem z)
      · rw [z] at e; cases e
    exact other b u q (R.frame b u e hn)
  · by_cases q : b = a
    · subst q; exact ⟨o, upd_same⟩
    · obtain ⟨u, z⟩ := R.there k b e
      exact ⟨u, other b u q z⟩
/-- a slot is stored -/
theorem Rel.slot {i : Nat} {d : D} {v : V} (R : Rel K T g m F S ρ σ H) (r : Rep K T m F d v) : Rel K T g m F S (ρ.set i (some d)) (σ.set i (some v)) H := by
  refine ⟨R.len, R.nd, R.le, R.ap, R.cell, by simp [R.slen], fun j d' h => ?_, R.frame, R.pre, R.newF, R.newm, R.leF, R.there⟩
  by_cases q : i = j
  · subst q
    have hl : i < ρ.length := by
      have := (List.getElem?_eq_some_iff.mp h).1
      simpa using this
    rw [List.getElem?_set_self hl] at h
    cases h
    exact ⟨v, by rw [List.getElem?_set_self (by rw [← R.slen]; exact hl)], r⟩
  · rw [List.getElem?_set_ne q] at h
    obtain ⟨v', e, r'⟩ := R.sl j d' h
    exact ⟨v', by rw [List.getElem?_set_ne q]; exact e, r'⟩
/-- slots are forgotten -/
theorem Rel.forget {ρ' : List (Option D)} {σ' : St} (R : Rel K T g m F S ρ σ H) (hl : ρ'.length = σ'.length) (h : ∀ (i : Nat) d, ρ'[i]? = some (some d) → ρ[i]? = some (some d) ∧ ∀ v, σ[i]? = some (some v) → σ'[i]? = some (some v)) : Rel K T g m F S ρ' σ' H :=
  ⟨R.len, R.nd, R.le, R.ap, R.cell, hl, fun i d e => let ⟨h1, h2⟩ := h i d e; let ⟨v, z, r⟩ := R.sl i d h1; ⟨v, h2 v z, r⟩, R.frame, R.pre, R.newF, R.newm, R.leF, R.there⟩
end


inductive Res where
  | ok (d : D) (S : List Cell) | err (c : Nat) (d : D) (S : List Cell) | bad
  deriving Inhabited
abbrev Slots := List (Option D)
abbrev Ev := Slots → List Cell → Res
def Res.bind (r : Res) (k : D → List Cell → Res) : Res := match r with
  | .ok d S => k d S
  | .err c d S => .err c d S
  | .bad => .bad

/-- what a context is asked for -/
structure Wo where
  K : PySem.W.Frag
  T : Tab
  g : Gh

/-- what follows an expression's value -/
def Aft (o : Wo) (m : List Addr) (F : Hp) (ρ : Slots) (σ : St) (W : WX) (r : Res) (Q : VK) : Prop := match r with
  | .ok d S => ∀ m' F' v H', m <+: m' → Le F F' → Rel o.K o.T o.g m' F' S ρ σ H' → Rep o.K o.T m' F' d v → Q v H'
  | .err c d S => ∀ m' F' v H' dd, m <+: m' → Le F F' → Rel o.K o.T o.g m' F' S ρ σ H' → Rep o.K o.T m' F' d v → H' dd = some (.xd [(("value" : Str), v)]) → W (.ref (o.T.cls c)) (some dd) σ H'
  | .bad => False
def tE (o : Wo) (W : WX) (f : Ev) : TE := fun σ H Q => ∃ m F S ρ, Rel o.K o.T o.g m F S ρ σ H ∧ Aft o m F ρ σ W (f ρ S) Q

section
variable {o : Wo} {W : WX} {m m' : List Addr} {F F' : Hp} {ρ : Slots} {σ : St} {Q : VK} {H : Hp} {S : List Cell} {r : Res}
theorem Aft.from (p : m <+: m') (e : Le F F') (h : Aft o m F ρ σ W r Q) : Aft o m' F' ρ σ W r Q := by
  cases r with
  | ok d S => exact fun m2 F2 v H' p2 e2 => h m2 F2 v H' (p.trans p2) (e.trans e2)
  | err c d S => exact fun m2 F2 v H' dd p2 e2 => h m2 F2 v H' dd (p.trans p2) (e.trans e2)
  | bad => exact h
/-- a value, then more -/
theorem Aft.bind {k : D → List Cell → Res} (h : Aft o m F ρ σ W (r.bind k) Q) :
    Aft o m F ρ σ W r fun x H1 => ∃ m1 F1 S1 a, m <+: m1 ∧ Le F F1 ∧ Rel o.K o.T o.g m1 F1 S1 ρ σ H1 ∧ Rep o.K o.T m1 F1 a x ∧ Aft o m1 F1 ρ σ W (k a S1) Q := by
  cases r with
  | ok d S => exact fun m1 F1 v H1 p e R rep => ⟨m1, F1, S, d, p, e, R, rep, Aft.from p e h⟩
  | err c d S => exact h
  | bad => exact h
theorem Aft.map {Q' : VK} (h : Aft o m F ρ σ W r Q) (i : ∀ v H, Q v H → Q' v H) : Aft o m F ρ σ W r Q' := by
  cases r with
  | ok d S => exact fun m1 F1 v H1 p e R rep => i _ _ (h m1 F1 v H1 p e R rep)
  | err c d S => exact h
  | bad => exact h
theorem Aft.done {d : D} {v : V} (R : Rel o.K o.T o.g m F S ρ σ H) (r : Rep o.K o.T m F d v) (h : Aft o m F ρ σ W (.ok d S) Q) : Q v H := h m F v H (List.prefix_refl m) (Le.refl F) R r
theorem Aft.new {d : D} {p : Addr} {u : HO} {v : V} (R : Rel o.K o.T o.g m F S ρ σ H) (hp : H p = none) (r : Rep o.K o.T m (upd F p u) d v) (h : Aft o m F ρ σ W (.ok d S) Q) : Q v (upd H p u) :=
  h m (upd F p u) v _ (List.prefix_refl m) (Le.new (R.le.none hp)) (R.grow hp) r
end

theorem PE.of {X : Cx} {e : Expr} {t t' : TE} (h : PE X e t) (i : ∀ σ H Q, t' σ H Q → t σ H Q) : PE X e t' := ⟨fun pins s σ H Q I q => h.run pins s σ H Q I (i σ H Q q)⟩
theorem PT.of {X : Cx} {e : Expr} {t t' : TT} (h : PT X e t) (i : ∀ σ H Q, t' σ H Q → t σ H Q) : PT X e t' := ⟨fun pins s σ H Q I q => h.run pins s σ H Q I (i σ H Q q)⟩
theorem PW.of {X : Cx} {e : Expr} {t t' : TT} (h : PW X e t) (i : ∀ σ H Q, t' σ H Q → t σ H Q) : PW X e t' := ⟨fun w pins s σ H Q I q => h.run w pins s σ H Q I (i σ H Q q)⟩
theorem PA.of {X : Cx} {e : List Expr} {t t' : TA} (h : PA X e t) (i : ∀ σ H Q, t' σ H Q → t σ H Q) : PA X e t' := ⟨fun p pins s σ H Q I q => h.run p pins s σ H Q I (i σ H Q q)⟩
theorem PS.of {X : Cx} {e : Stmt} {t t' : TS} (h : PS X e t) (i : ∀ D σ H, t' D σ H → t D σ H) : PS X e t' := ⟨fun pins s σ H D I q => h.run pins s σ H D I (i D σ H q)⟩
theorem PSs.of {X : Cx} {e : List Stmt} {t t' : TS} (h : PSs X e t) (i : ∀ D σ H, t' D σ H → t D σ H) : PSs X e t' := ⟨fun pins s σ H D I q => h.run pins s σ H D I (i D σ H q)⟩

section
variable {X : Cx} {o : Wo} {W : WX} {a b : Expr} {fa fb : Ev} {pos : Pos}

/-- the semantics of a two-place operation: what it gives, at any store -/
abbrev Op2 := D → D → List Cell → Res
def binF (op : Op2) (fa fb : Ev) : Ev := fun ρ S => (fa ρ S).bind fun x S1 => (fb ρ S1).bind fun y S2 => op x y S2
/-- op is what r asks -/
def OpS (o : Wo) (op : Op2) (r : R2) : Prop := ∀ (W : WX) m F S ρ σ H x y v u Q, Rel o.K o.T o.g m F S ρ σ H → Rep o.K o.T m F x v → Rep o.K o.T m F y u → Aft o m F ρ σ W (op x y S) Q → r v u H Q
theorem bin_imp {op : Op2} {r : R2} (h : OpS o op r) (σ : St) (H : Hp) (Q : VK) (q : tE o W (binF op fa fb) σ H Q) : tOp r (tE o W fa) (tE o W fb) σ H Q := by
  obtain ⟨m, F, S, ρ, R, q⟩ := q
  refine ⟨m, F, S, ρ, R, (Aft.bind q).map ?_⟩
  rintro x H1 ⟨m1, F1, S1, d1, p1, e1, R1, rep1, q1⟩
  refine ⟨m1, F1, S1, ρ, R1, (Aft.bind q1).map ?_⟩
  rintro y H2 ⟨m2, F2, S2, d2, p2, e2, R2, rep2, q2⟩
  exact h W m2 F2 S2 ρ σ H2 d1 d2 x y Q R2 (rep1.mono p2 e2) rep2 q2
theorem fe_bin {bo : Operator} {op : Op2} {r : R2} (ho : OpR X (binaryOp bo) r) (h : OpS o op r) (ha : PE X a (tE o W fa)) (hb : PE X b (tE o W fb)) : PE X (.BinOp a bo b pos) (tE o W (binF op fa fb)) :=
  PE.of (pe_op ho ha hb) (bin_imp h)
theorem fe_cmp {co : CmpOp} {op : Op2} {r : R2} (ho : OpR X (compareOp co) r) (h : OpS o op r) (ha : PE X a (tE o W fa)) (hb : PE X b (tE o W fb)) (hm : behindInMarks co b = false) : PE X (.Compare a [co] [b] pos) (tE o W (binF op fa fb)) :=
  PE.of (pe_cmpR ho ha hb hm) (bin_imp h)
/-- a test's reading: a bool comes, nothing else -/
def tT (o : Wo) (W : WX) (f : Ev) : TT := fun σ H Q => tE o W f σ H fun v H' => ∃ k, v = .bl k ∧ Q k H'
theorem OpS.or1 {op : Op2} {r r' : R2} (h : OpS o op r) : OpS o op (fun x y H Q => r x y H Q ∨ r' x y H Q) := fun W m F S ρ σ H x y v u Q R a b q => .inl (h W m F S ρ σ H x y v u Q R a b q)

def cF (d : D) : Ev := fun _ S => .ok d S
def vF (i : Nat) : Ev := fun ρ S => match ρ[i]? with
  | some (some d) => .ok d S
  | _ => .bad
theorem fe_v {i : Nat} {x : Str} (h : PE X (.Name x pos) (tVar i)) : PE X (.Name x pos) (tE o W (vF i)) := PE.of h fun σ H Q q => by
  obtain ⟨m, F, S, ρ, R, q⟩ := q
  unfold vF at q
  split at q
  · rename_i d e
    obtain ⟨v, e', r⟩ := R.sl i d e
    exact ⟨v, e', Aft.done R r q⟩
  · exact q.elim
theorem fe_c {e : Expr} {v : V} {d : D} (h : PE X e (tC v)) (r : ∀ m F, Rep o.K o.T m F d v) : PE X e (tE o W (cF d)) := PE.of h fun σ H Q q => by
  obtain ⟨m, F, S, ρ, R, q⟩ := q
  exact Aft.done R (r m F) q

def notF (f : Ev) : Ev := fun ρ S => (f ρ S).bind fun x S1 => match x with
  | .bl b => .ok (.bl (!b)) S1
  | _ => .bad
def andF (fa fb : Ev) : Ev := fun ρ S => (fa ρ S).bind fun x S1 => match x with
  | .bl true => fb ρ S1
  | .bl false => .ok (.bl false) S1
  | _ => .bad
def orF (fa fb : Ev) : Ev := fun ρ S => (fa ρ S).bind fun x S1 => match x with
  | .bl true => .ok (.bl true) S1
  | .bl false => fb ρ S1
  | _ => .bad
def ifF (ft fa fb : Ev) : Ev := fun ρ S => (ft ρ S).bind fun x S1 => match x with
  | .bl true => fa ρ S1
  | .bl false => fb ρ S1
  | _ => .bad
theorem rep_bl {o : Wo} {m : List Addr} {F : Hp} {b : Bool} {v : V} (h : Rep o.K o.T m F (.bl b) v) : v = .bl b := by cases h; rfl
theorem ft_not (ha : PT X a (tT o W fa)) : PT X (.UnaryOp .Not a pos) (tT o W (notF fa)) := PT.of (pt_not ha) fun σ H Q q => by
  obtain ⟨m, F, S, ρ, R, q⟩ := q
  refine ⟨m, F, S, ρ, R, (Aft.bind q).map ?_⟩
  rintro x H1 ⟨m1, F1, S1, d1, p1, e1, R1, rep1, q1⟩
  cases d1 with
  | bl b =>
    cases rep1
    obtain ⟨k, e, q2⟩ := Aft.done R1 (.bl (!b)) q1
    cases e
    exact ⟨b, rfl, q2⟩
  | _ => exact q1.elim
theorem ft_and {rest : List Expr} (ha : PT X a (tT o W fa)) (hb : PW X (.BoolOp .And (b :: rest) pos) (tT o W fb)) : PW X (.BoolOp .And (a :: b :: rest) pos) (tT o W (andF fa fb)) := PW.of (pw_and ha hb) fun σ H Q q => by
  obtain ⟨m, F, S, ρ, R, q⟩ := q
  refine ⟨m, F, S, ρ, R, (Aft.bind q).map ?_⟩
  rintro x H1 ⟨m1, F1, S1, d1, p1, e1, R1, rep1, q1⟩
  cases d1 with
  | bl b =>
    cases rep1
    refine ⟨b, rfl, ?_⟩
    cases b with
    | true => exact ⟨m1, F1, S1, ρ, R1, q1⟩
    | false =>
      obtain ⟨k, e, q2⟩ := Aft.done R1 (.bl false) q1
      cases e
      exact q2
  | _ => exact q1.elim
theorem ft_or {rest : List Expr} (ha : PT X a (tT o W fa)) (hb : PW X (.BoolOp .Or (b :: rest) pos) (tT o W fb)) : PW X (.BoolOp .Or (a :: b :: rest) pos) (tT o W (orF fa fb)) := PW.of (pw_or ha hb) fun σ H Q q => by
  obtain ⟨m, F, S, ρ, R, q⟩ := q
  refine ⟨m, F, S, ρ, R, (Aft.bind q).map ?_⟩
  rintro x H1 ⟨m1, F1, S1, d1, p1, e1, R1, rep1, q1⟩
  cases d1 with
  | bl b =>
    cases rep1
    refine ⟨b, rfl, ?_⟩
    cases b with
    | false => exact ⟨m1, F1, S1, ρ, R1, q1⟩
    | true =>
      obtain ⟨k, e, q2⟩ := Aft.done R1 (.bl true) q1
      cases e
      exact q2
  | _ => exact q1.elim
theorem fe_if {c : Expr} {fc : Ev} (hc : PT X c (tT o W fc)) (ha : PE X a (tE o W fa)) (hb : PE X b (tE o W fb)) : PE X (.IfExp c a b pos) (tE o W (ifF fc fa fb)) := PE.of (pe_ifExp hc ha hb) fun σ H Q q => by
  obtain ⟨m, F, S, ρ, R, q⟩ := q
  refine ⟨m, F, S, ρ, R, (Aft.bind q).map ?_⟩
  rintro x H1 ⟨m1, F1, S1, d1, p1, e1, R1, rep1, q1⟩
  cases d1 with
  | bl b =>
    cases rep1
    refine ⟨b, rfl, ?_⟩
    cases b with
    | true => exact ⟨m1, F1, S1, ρ, R1, q1⟩
    | false => exact ⟨m1, F1, S1, ρ, R1, q1⟩
  | _ => exact q1.elim
theorem ft_val {e : Expr} {f : Ev} (h : PE X e (tE o W f)) (he : ∀ whole, isTrue e X.env whole = (do let v ← whole; standAt e.pos; holding [v] (truthy v))) : PT X e (tT o W f) := pt_val h he
theorem ft_cmp {co : CmpOp} {op : Op2} {r : R2} (ho : OpR X (compareOp co) r) (h : OpS o op r) (ha : PE X a (tE o W fa)) (hb : PE X b (tE o W fb)) (hm : behindInMarks co b = false) : PT X (.Compare a [co] [b] pos) (tT o W (binF op fa fb)) :=
  PT.of (pt_cmpR ho ha hb hm) fun σ H Q q => bin_imp h σ H _ q
theorem fe_not (ha : PE X a (tE o W fa)) : PE X (.UnaryOp .Not a pos) (tE o W (notF fa)) := PE.of (pe_not ha) fun σ H Q q => by
  obtain ⟨m, F, S, ρ, R, q⟩ := q
  refine ⟨m, F, S, ρ, R, (Aft.bind q).map ?_⟩
  rintro x H1 ⟨m1, F1, S1, d1, p1, e1, R1, rep1, q1⟩
  cases d1 with
  | bl b =>
    cases rep1
    exact ⟨b, rfl, Aft.done R1 (.bl (!b)) q1⟩
  | _ => exact q1.elim
theorem fe_and {rest : List Expr} (ha : PE X a (tE o W fa)) (hb : PE X (.BoolOp .And (b :: rest) pos) (tE o W fb)) : PE X (.BoolOp .And (a :: b :: rest) pos) (tE o W (andF fa fb)) := PE.of (pe_and ha hb) fun σ H Q q => by
  obtain ⟨m, F, S, ρ, R, q⟩ := q
  refine ⟨m, F, S, ρ, R, (Aft.bind q).map ?_⟩
  rintro x H1 ⟨m1, F1, S1, d1, p1, e1, R1, rep1, q1⟩
  cases d1 with
  | bl b =>
    cases rep1
    refine ⟨b, rfl, ?_⟩
    cases b with
    | true => exact ⟨m1, F1, S1, ρ, R1, q1⟩
    | false => exact Aft.done R1 (.bl false) q1
  | _ => exact q1.elim
theorem fe_or {rest : List Expr} (ha : PE X a (tE o W fa)) (hb : PE X (.BoolOp .Or (b :: rest) pos) (tE o W fb)) : PE X (.BoolOp .Or (a :: b :: rest) pos) (tE o W (orF fa fb)) := PE.of (pe_or ha hb) fun σ H Q q => by
  obtain ⟨m, F, S, ρ, R, q⟩ := q
  refine ⟨m, F, S, ρ, R, (Aft.bind q).map ?_⟩
  rintro x H1 ⟨m1, F1, S1, d1, p1, e1, R1, rep1, q1⟩
  cases d1 with
  | bl b =>
    cases rep1
    refine ⟨b, rfl, ?_⟩
    cases b with
    | true => exact Aft.done R1 (.bl true) q1
    | false => exact ⟨m1, F1, S1, ρ, R1, q1⟩
  | _ => exact q1.elim
/-- a chain a op1 b op2 c -/
def chainF (op op' : Op2) (fa fb fc : Ev) : Ev := fun ρ S => (fa ρ S).bind fun x S1 => (fb ρ S1).bind fun y S2 => (op x y S2).bind fun z S3 => match z with
  | .bl true => (fc ρ S3).bind fun w S4 => op' y w S4
  | .bl false => .ok (.bl false) S3
  | _ => .bad
theorem chain_imp {op op' : Op2} {r r' : R2} {fc : Ev} (h : OpS o op r) (h' : OpS o op' r') (σ : St) (H : Hp) (Q : VK) (q : tE o W (chainF op op' fa fb fc) σ H Q) : tChain r r' (tE o W fa) (tE o W fb) (tE o W fc) σ H Q := by
  obtain ⟨m, F, S, ρ, R, q⟩ := q
  refine ⟨m, F, S, ρ, R, (Aft.bind q).map ?_⟩
  rintro x H1 ⟨m1, F1, S1, d1, p1, e1, R1, rep1, q1⟩
  refine ⟨m1, F1, S1, ρ, R1, (Aft.bind q1).map ?_⟩
  rintro y H2 ⟨m2, F2, S2, d2, p2, e2, R2, rep2, q2⟩
  refine h W m2 F2 S2 ρ σ H2 d1 d2 x y _ R2 (rep1.mono p2 e2) rep2 ((Aft.bind q2).map ?_)
  rintro z H3 ⟨m3, F3, S3, d3, p3, e3, R3, rep3, q3⟩
  cases d3 with
  | bl b =>
    cases rep3
    refine ⟨b, rfl, ?_⟩
    cases b with
    | false => exact Aft.done R3 (.bl false) q3
    | true =>
      refine ⟨m3, F3, S3, ρ, R3, (Aft.bind q3).map ?_⟩
      rintro w H4 ⟨m4, F4, S4, d4, p4, e4, R4, rep4, q4⟩
      exact h' W m4 F4 S4 ρ σ H4 d2 d4 y w Q R4 (rep2.mono (p3.trans p4) (e3.trans e4)) rep4 q4
  | _ => exact q3.elim
theorem fe_chain {co co' : CmpOp} {op op' : Op2} {r r' : R2} {c : Expr} {fc : Ev} (ho : OpR X (compareOp co) r) (ho' : OpR X (compareOp co') r') (h : OpS o op r) (h' : OpS o op' r') (ha : PE X a (tE o W fa)) (hb : PE X b (tE o W fb)) (hc : PE X c (tE o W fc))
    (hm : lastMarks [co, co'] [b, c] = false) : PE X (.Compare a [co, co'] [b, c] pos) (tE o W (chainF op op' fa fb fc)) := PE.of (pe_chain ho ho' ha hb hc hm) (chain_imp h h')
theorem ft_chain {co co' : CmpOp} {op op' : Op2} {r r' : R2} {c : Expr} {fc : Ev} (ho : OpR X (compareOp co) r) (ho' : OpR X (compareOp co') r') (h : OpS o op r) (h' : OpS o op' r') (ha : PE X a (tE o W fa)) (hb : PE X b (tE o W fb)) (hc : PE X c (tE o W fc))
    (hm : lastMarks [co, co'] [b, c] = false) : PT X (.Compare a [co, co'] [b, c] pos) (tT o W (chainF op op' fa fb fc)) := PT.of (pt_chain ho ho' ha hb hc hm) fun σ H Q q => chain_imp h h' σ H _ q
end


/-- values of several expressions, then more -/
def evs : List Ev → Slots → List Cell → (List D → List Cell → Res) → Res
  | [], _, S, k => k [] S
  | f :: fs, ρ, S, k => (f ρ S).bind fun x S1 => evs fs ρ S1 fun xs S2 => k (x :: xs) S2
def tAs (o : Wo) (W : WX) : List Ev → TA
  | [] => tNil
  | f :: fs => tCons (tE o W f) (tAs o W fs)
section
variable {X : Cx} {o : Wo} {W : WX} {a b : Expr} {fa fb : Ev} {pos : Pos}
theorem args_imp : ∀ {fs : List Ev} {m : List Addr} {F : Hp} {S : List Cell} {ρ : Slots} {σ : St} {H : Hp} {k : List D → List Cell → Res} {Q : VK} {Z : List V → Hp → Prop},
    Rel o.K o.T o.g m F S ρ σ H → Aft o m F ρ σ W (evs fs ρ S k) Q →
    (∀ m1 F1 S1 ds vs H1, m <+: m1 → Le F F1 → Rel o.K o.T o.g m1 F1 S1 ρ σ H1 → Reps o.K o.T m1 F1 ds vs → ds.length = fs.length → Aft o m1 F1 ρ σ W (k ds S1) Q → Z vs H1) → tAs o W fs σ H Z
  | [], m, F, S, ρ, σ, H, k, Q, Z, R, q, z => z m F S [] [] H (List.prefix_refl m) (Le.refl F) R .nil rfl q
  | f :: fs, m, F, S, ρ, σ, H, k, Q, Z, R, q, z => by
    refine ⟨m, F, S, ρ, R, (Aft.bind q).map ?_⟩
    rintro x H1 ⟨m1, F1, S1, d1, p1, e1, R1, rep1, q1⟩
    exact args_imp R1 q1 fun m2 F2 S2 ds vs H2 p2 e2 R2 reps hl q2 => z m2 F2 S2 (d1 :: ds) (x :: vs) H2 (p1.trans p2) (e1.trans e2) R2 (.cons (rep1.mono p2 e2) reps) (by rw [List.length_cons, List.length_cons, hl]) q2
theorem fa_nil : PA X [] (tAs o W []) := pa_nil
theorem fa_cons {e : Expr} {es : List Expr} {f : Ev} {fs : List Ev} (ha : PE X e (tE o W f)) (hr : PA X es (tAs o W fs)) (hs : starEach (e :: es) X.env = (false, eval e X.env) :: starEach es X.env) : PA X (e :: es) (tAs o W (f :: fs)) := pa_cons ha hr hs

/-- what a new thing is as data -/
inductive NewOf (K : PySem.W.Frag) (T : Tab) (m : List Addr) (F : Hp) : D → HO → Prop
  | lst {xs : List V} {ds : List D} : Reps K T m F ds xs → NewOf K T m F (.lst ds) (.lst xs)
  | dct {ks : List Key} {xs : List V} {ds : List D} : ks.length = xs.length → Reps K T m F ds xs → NewOf K T m F (.dct ks ds) (.dK (ks.zip xs))
/-- an expression that makes a new thing -/
def NAft (o : Wo) (m : List Addr) (F : Hp) (ρ : Slots) (σ : St) (W : WX) (r : Res) (Q : VK) : Prop := match r with
  | .ok d S => ∀ m' F' H' p u, m <+: m' → Le F F' → Rel o.K o.T o.g m' F' S ρ σ H' → H' p = none → NewOf o.K o.T m' F' d u → Q (.ref p) (upd H' p u)
  | .err c d S => ∀ m' F' v H' dd, m <+: m' → Le F F' → Rel o.K o.T o.g m' F' S ρ σ H' → Rep o.K o.T m' F' d v → H' dd = some (.xd [(("value" : Str), v)]) → W (.ref (o.T.cls c)) (some dd) σ H'
  | .bad => False
def tN (o : Wo) (W : WX) (f : Ev) : TE := fun σ H Q => ∃ m F S ρ, Rel o.K o.T o.g m F S ρ σ H ∧ NAft o m F ρ σ W (f ρ S) Q
theorem NewOf.rep {K : PySem.W.Frag} {T : Tab} {m : List Addr} {F : Hp} {d : D} {u : HO} {p : Addr} (h : NewOf K T m F d u) (hp : F p = none) : Rep K T m (upd F p u) d (.ref p) := by
  have le : Le F (upd F p u) := Le.new hp
  cases h with
  | lst r => exact .lst (.inl upd_same) (r.mono (List.prefix_refl m) le)
  | dct l r => exact .dct upd_same l (r.mono (List.prefix_refl m) le)
theorem Aft.toNew {m : List Addr} {F : Hp} {ρ : Slots} {σ : St} {r : Res} {Q : VK} (h : Aft o m F ρ σ W r Q) : NAft o m F ρ σ W r Q := by
  cases r with
  | ok d S => exact fun m1 F1 H1 p u pr e R hp n => h m1 (upd F1 p u) _ _ pr (e.trans (Le.new (R.le.none hp))) (R.grow hp) (n.rep (R.le.none hp))
  | err c d S => exact h
  | bad => exact h
/-- .. that stands still from then on -/
theorem fe_new {e : Expr} {f : Ev} (h : PE X e (tN o W f)) : PE X e (tE o W f) := PE.of h fun σ H Q ⟨m, F, S, ρ, R, q⟩ => ⟨m, F, S, ρ, R, q.toNew⟩
theorem NAft.from {m m' : List Addr} {F F' : Hp} {ρ : Slots} {σ : St} {r : Res} {Q : VK} (p : m <+: m') (e : Le F F') (h : NAft o m F ρ σ W r Q) : NAft o m' F' ρ σ W r Q := by
  cases r with
  | ok d S => exact fun m2 F2 H' a u p2 e2 => h m2 F2 H' a u (p.trans p2) (e.trans e2)
  | err c d S => exact fun m2 F2 v H' dd p2 e2 => h m2 F2 v H' dd (p.trans p2) (e.trans e2)
  | bad => exact h
theorem NAft.bind {m : List Addr} {F : Hp} {ρ : Slots} {σ : St} {r : Res} {Q : VK} {k : D → List Cell → Res} (h : NAft o m F ρ σ W (r.bind k) Q) :
    Aft o m F ρ σ W r fun x H1 => ∃ m1 F1 S1 a, m <+: m1 ∧ Le F F1 ∧ Rel o.K o.T o.g m1 F1 S1 ρ σ H1 ∧ Rep o.K o.T m1 F1 a x ∧ NAft o m1 F1 ρ σ W (k a S1) Q := by
  cases r with
  | ok d S => exact fun m1 F1 v H1 p e R rep => ⟨m1, F1, S, d, p, e, R, rep, NAft.from p e h⟩
  | err c d S => exact h
  | bad => exact h
theorem args_impN : ∀ {fs : List Ev} {m : List Addr} {F : Hp} {S : List Cell} {ρ : Slots} {σ : St} {H : Hp} {k : List D → List Cell → Res} {Q : VK} {Z : List V → Hp → Prop},
    Rel o.K o.T o.g m F S ρ σ H → NAft o m F ρ σ W (evs fs ρ S k) Q →
    (∀ m1 F1 S1 ds vs H1, m <+: m1 → Le F F1 → Rel o.K o.T o.g m1 F1 S1 ρ σ H1 → Reps o.K o.T m1 F1 ds vs → ds.length = fs.length → NAft o m1 F1 ρ σ W (k ds S1) Q → Z vs H1) → tAs o W fs σ H Z
  | [], m, F, S, ρ, σ, H, k, Q, Z, R, q, z => z m F S [] [] H (List.prefix_refl m) (Le.refl F) R .nil rfl q
  | f :: fs, m, F, S, ρ, σ, H, k, Q, Z, R, q, z => by
    refine ⟨m, F, S, ρ, R, (NAft.bind q).map ?_⟩
    rintro x H1 ⟨m1, F1, S1, d1, p1, e1, R1, rep1, q1⟩
    exact args_impN R1 q1 fun m2 F2 S2 ds vs H2 p2 e2 R2 reps hl q2 => z m2 F2 S2 (d1 :: ds) (x :: vs) H2 (p1.trans p2) (e1.trans e2) R2 (.cons (rep1.mono p2 e2) reps) (by rw [List.length_cons, List.length_cons, hl]) q2
def tupF (fs : List Ev) : Ev := fun ρ S => evs fs ρ S fun ds S1 => .ok (.tup ds) S1
def lstF (fs : List Ev) : Ev := fun ρ S => evs fs ρ S fun ds S1 => .ok (.lst ds) S1
theorem fe_tup {es : List Expr} {fs : List Ev} {x1} (hl : fs.length ≤ sizeLine) (h : PA X es (tAs o W fs)) : PE X (.Tuple es x1 pos) (tE o W (tupF fs)) := PE.of (pe_tup h) fun σ H Q q => by
  obtain ⟨m, F, S, ρ, R, q⟩ := q
  refine args_imp R q fun m1 F1 S1 ds vs H1 p e R1 reps hn q1 => ⟨by rw [← reps.length, hn]; exact hl, fun p hp => ?_⟩
  exact Aft.new R1 hp (.tup upd_same (reps.mono (List.prefix_refl m1) (Le.new (R1.le.none hp)))) q1
theorem fn_lst {es : List Expr} {fs : List Ev} (hl : fs.length ≤ sizeLine) (h : PA X es (tAs o W fs)) : PE X (.List es pos) (tN o W (lstF fs)) := PE.of (pe_lst h) fun σ H Q q => by
  obtain ⟨m, F, S, ρ, R, q⟩ := q
  refine args_impN R q fun m1 F1 S1 ds vs H1 p e R1 reps hn q1 => ⟨by rw [← reps.length, hn]; exact hl, fun p hp => ?_⟩
  exact q1 m1 F1 H1 p _ (List.prefix_refl m1) (Le.refl F1) R1 hp (.lst reps)
end

def asL (S : List Cell) : D → Option (List D)
  | .lst l => some l
  | .loc n => match S[n]? with
    | some (.lst l) => some l
    | _ => none
  | _ => none
def asT : D → Option (List D)
  | .tup l => some l
  | .ktup l => some l
  | _ => none
section
variable {K : PySem.W.Frag} {T : Tab} {g : Gh} {m : List Addr} {F : Hp} {S : List Cell} {ρ : Slots} {σ : St} {H : Hp} {d : D} {v : V} {l : List D}
theorem rd_le {F H : Hp} (e : Le F H) {a : Addr} {u : HO} (h : Rd F a u) : Rd H a u := e.rd h
theorem asL_rd (R : Rel K T g m F S ρ σ H) (r : Rep K T m F d v) (h : asL S d = some l) : ∃ a xs, v = .ref a ∧ Rd H a (.lst xs) ∧ Reps K T m F l xs := by
  cases d with
  | lst l' =>
    cases h
    cases r with
    | lst h r => exact ⟨_, _, rfl, R.le.rd h, r⟩
  | loc n =>
    cases r with
    | loc hm =>
      unfold asL at h
      dsimp only at h
      split at h
      · rename_i l' e
        cases h
        cases R.cell n _ _ hm e with
        | lst q r => exact ⟨_, _, rfl, .inl q, r⟩
      · cases h
  | _ => cases h
theorem asL_sq (R : Rel K T g m F S ρ σ H) (r : Rep K T m F d v) (h : asL S d = some l) : ∃ a xs, v = .ref a ∧ SqL K H a xs ∧ Reps K T m F l xs :=
  let ⟨a, xs, e, q, rs⟩ := asL_rd R r h
  ⟨a, xs, e, .inl q, rs⟩
theorem asT_sq (R : Rel K T g m F S ρ σ H) (r : Rep K T m F d v) (h : asT d = some l) : ∃ a xs, v = .ref a ∧ SqT K H a xs ∧ SqT K F a xs ∧ Reps K T m F l xs := by
  cases d with
  | tup l' =>
    cases h
    cases r with
    | tup h r => exact ⟨_, _, rfl, .inl (.inl (R.le _ _ h)), .inl (.inl h), r⟩
  | ktup l' =>
    cases h
    cases r with
    | ktup h r => exact ⟨_, _, rfl, (Le.zero _).sqT h, (Le.zero _).sqT h, r⟩
  | _ => cases h
end

section
variable {X : Cx}
theorem lstR {pins : List (Addr × Obj)} {σ : St} {H : Hp} {s : Shared} {l : Addr} {xs : List V} (I : Inv X pins σ H s) (h : Rd H l (.lst xs)) :
    xs.length ≤ sizeLine ∧ ∃ (its : List Value) (n : Nat), Vals xs its ∧ xs.length = its.length ∧ s.heap.get? l = some { cls := .type "list", data := .seq its.toArray n } := by
  obtain ⟨z, its, n, r, e⟩ := h.ok I.hok
  exact ⟨z, its, n, r, r.length, e⟩
def rCatL : R2 := fun x y H Q => ∃ l b xs zs, x = .ref l ∧ y = .ref b ∧ Rd H l (.lst xs) ∧ Rd H b (.lst zs) ∧ xs.length + zs.length ≤ sizeLine ∧ ∀ p, H p = none → Q (.ref p) (upd H p (.lst (xs ++ zs)))
theorem op_catL : OpR X (binaryOp .Add) rCatL := by
  intro pins s σ H x y v u Q I rx ry h
  obtain ⟨l, b, xs, zs, rfl, rfl, hH, hB, hz, q⟩ := h
  cases rx
  cases ry
  obtain ⟨z, its, n, r, hl, e⟩ := lstR I hH
  obtain ⟨z2, its2, n2, r2, hl2, e2⟩ := lstR I hB
  refine PySem.P.add_list e e2 ?_ (by rw [List.size_toArray, List.size_toArray]; omega)
  have ea : its.toArray ++ its2.toArray = (its ++ its2).toArray := by simp
  rw [ea]
  exact ⟨.ref _, _, I.lnew (t' := s.toks) (r.append r2) (by rw [List.length_append]; omega), rfl, q _ I.fresh⟩
/-- a ** n -/
def CPowW (i j : Int) : Prop := 0 ≤ j ∧ j ≤ 1000 ∧ i.natAbs.log2 < 100000
theorem op_powW : OpR X (binaryOp .Pow) (rI CPowW fun i j => .int (i ^ j.toNat)) := opI fun i j _ _ _ _ _ hc q => by
  obtain ⟨h1, h2, h3⟩ := hc
  refine PyProof.Rows.pow_int h1 ?_ q
  have hb : Builtin.Int.intBits i ≤ 100001 := by
    unfold Builtin.Int.intBits
    split <;> omega
  have hj : j.toNat ≤ 1000 := by omega
  have e : ((j.toNat : Nat) : Int) = j := Int.toNat_of_nonneg h1
  rw [← e]
  have : Builtin.Int.intBits i * j.toNat ≤ 100001 * 1000 := Nat.mul_le_mul hb hj
  have h27 : (2 : Int) ^ 27 = 134217728 := by decide
  rw [h27, ← Int.natCast_mul]
  omega
end

section
variable {o : Wo}
/-- lists and texts that are made stay below this -/
def big : Nat := 1000000
theorem big_le {n : Nat} (h : n ≤ big) : n ≤ sizeLine := Nat.le_trans h (by decide)
def opAdd : Op2 := fun x y S => match x, y with
  | .int i, .int j => .ok (.int (i + j)) S
  | .str a, .str b => if a.length + b.length ≤ big then .ok (.str (a ++ b)) S else .bad
  | .tup a, .tup b => if a.length + b.length ≤ big then .ok (.tup (a ++ b)) S else .bad
  | x, y => match asL S x, asL S y with
    | some a, some b => if a.length + b.length ≤ big then .ok (.lst (a ++ b)) S else .bad
    | _, _ => .bad
def rAddS : R2 := fun x y H Q => ∃ i j, x = .str i ∧ y = .str j ∧ i.length + j.length ≤ sizeLine ∧ Q (.str (i ++ j)) H
def rAddA (K : PySem.W.Frag) : R2 := fun x y H Q => rI0 (fun i j => .int (i + j)) x y H Q ∨ (rAddS x y H Q ∨ (rCatA K x y H Q ∨ rCatL x y H Q))
theorem op_addA {X : Cx} : OpR X (binaryOp .Add) (rAddA X.K) := op_add.or (op_add_str.or (op_catA.or op_catL))
theorem ops_add : OpS o opAdd (rAddA o.K) := by
  intro W m F S ρ σ H x y v u Q R rx ry q
  have lists : ∀ r, (match asL S x, asL S y with
    | some a, some b => if a.length + b.length ≤ big then Res.ok (.lst (a ++ b)) S else .bad
    | _, _ => .bad) = r → Aft o m F ρ σ W r Q → rAddA o.K v u H Q := by
    intro r er q
    subst er
    split at q
    · rename_i a b ea eb
      by_cases hz : a.length + b.length ≤ big
      · rw [if_pos hz] at q
        obtain ⟨p1, xs, rfl, h1, r1⟩ := asL_rd R rx ea
        obtain ⟨p2, ys, rfl, h2, r2⟩ := asL_rd R ry eb
        refine .inr (.inr (.inr ⟨p1, p2, xs, ys, rfl, rfl, h1, h2, ?_, fun p hp => ?_⟩))
        · rw [← r1.length, ← r2.length]; exact big_le hz
        · exact Aft.new R hp (.lst (.inl upd_same) ((r1.append r2).mono (List.prefix_refl m) (Le.new (R.le.none hp)))) q
      · rw [if_neg hz] at q; exact q.elim
    · exact q.elim
  cases x with
  | int i =>
    cases y with
    | int j =>
      cases rx
      cases ry
      exact .inl ⟨i, j, rfl, rfl, Aft.done R (.int _) q⟩
    | _ => exact lists _ rfl q
  | str a =>
    cases y with
    | str b =>
      cases rx
      cases ry
      by_cases hz : a.length + b.length ≤ big
      · have q' : Aft o m F ρ σ W (if a.length + b.length ≤ big then Res.ok (.str (a ++ b)) S else .bad) Q := q
        rw [if_pos hz] at q'
        exact .inr (.inl ⟨a, b, rfl, rfl, big_le hz, Aft.done R (.str _) q'⟩)
      · have q' : Aft o m F ρ σ W (if a.length + b.length ≤ big then Res.ok (.str (a ++ b)) S else .bad) Q := q
        rw [if_neg hz] at q'
        exact q'.elim
    | _ => exact lists _ rfl q
  | tup a =>
    cases y with
    | tup b =>
      by_cases hz : a.length + b.length ≤ big
      · have q' : Aft o m F ρ σ W (if a.length + b.length ≤ big then Res.ok (.tup (a ++ b)) S else .bad) Q := q
        rw [if_pos hz] at q'
        obtain ⟨p1, xs, rfl, h1, f1, r1⟩ := asT_sq R rx rfl
        obtain ⟨p2, ys, rfl, h2, f2, r2⟩ := asT_sq R ry rfl
        refine .inr (.inr (.inl ⟨p1, p2, xs, ys, rfl, rfl, h1, h2, ?_, fun ex => ?_, fun _ ey => ?_, fun _ _ p hp => ?_⟩))
        · rw [← r1.length, ← r2.length]; exact big_le hz
        · subst ex
          cases r1
          exact Aft.done R ry q'
        · subst ey
          cases r2
          rw [List.append_nil] at q'
          exact Aft.done R rx q'
        · exact Aft.new R hp (.tup upd_same ((r1.append r2).mono (List.prefix_refl m) (Le.new (R.le.none hp)))) q'
      · have q' : Aft o m F ρ σ W (if a.length + b.length ≤ big then Res.ok (.tup (a ++ b)) S else .bad) Q := q
        rw [if_neg hz] at q'
        exact q'.elim
    | _ => exact lists _ rfl q
  | _ => exact lists _ rfl q
/-- ints only -/
def opI (C : Int → Int → Bool) (f : Int → Int → Int) : Op2 := fun x y S => match x, y with
  | .int i, .int j => if C i j = true then .ok (.int (f i j)) S else .bad
  | _, _ => .bad
theorem ops_I {C : Int → Int → Bool} {P : Int → Int → Prop} {f : Int → Int → Int} (h : ∀ i j, C i j = true → P i j) : OpS o (opI C f) (rI P fun i j => .int (f i j)) := by
  intro W m F S ρ σ H x y v u Q R rx ry q
  cases x with
  | int i =>
    cases y with
    | int j =>
      cases rx
      cases ry
      have q' : Aft o m F ρ σ W (if C i j = true then Res.ok (.int (f i j)) S else .bad) Q := q
      by_cases hc : C i j = true
      · rw [if_pos hc] at q'
        exact ⟨i, j, rfl, rfl, h i j hc, Aft.done R (.int _) q'⟩
      · rw [if_neg hc] at q'
        exact q'.elim
    | _ => exact q.elim
  | _ => exact q.elim
def opSub : Op2 := fun x y S => match x, y with
  | .int i, .int j => .ok (.int (i - j)) S
  | _, _ => .bad
theorem ops_I0 {f : Int → Int → Int} : OpS o (fun x y S => match x, y with
  | .int i, .int j => .ok (.int (f i j)) S
  | _, _ => .bad) (rI0 fun i j => .int (f i j)) := by
  intro W m F S ρ σ H x y v u Q R rx ry q
  cases x with
  | int i =>
    cases y with
    | int j =>
      cases rx
      cases ry
      exact ⟨i, j, rfl, rfl, Aft.done R (.int _) q⟩
    | _ => exact q.elim
  | _ => exact q.elim
theorem ops_sub : OpS o opSub (rI0 fun i j => .int (i - j)) := ops_I0
def cMul (i j : Int) : Bool := decide (i.natAbs.log2 + j.natAbs.log2 < 1000000)
def cDiv (_ j : Int) : Bool := decide (0 < j) && decide (j.natAbs.log2 < 9000)
def cMod (_ j : Int) : Bool := decide (0 < j)
def cPow (i j : Int) : Bool := decide (0 ≤ j) && decide (j ≤ 1000) && decide (i.natAbs.log2 < 100000)
def opMulI : Op2 := opI cMul fun i j => i * j
def opDiv : Op2 := opI cDiv fun i j => i / j
def opMod : Op2 := opI cMod fun i j => i % j
def opPow : Op2 := opI cPow fun i j => i ^ j.toNat
theorem ops_mulI : OpS o opMulI (rI CMulW fun i j => .int (i * j)) := ops_I fun i j h => (of_decide_eq_true (p := i.natAbs.log2 + j.natAbs.log2 < 1000000) h)
theorem ops_div : OpS o opDiv (rI CDivW fun i j => .int (i / j)) := ops_I fun _ _ h => by
  have h' := Bool.and_eq_true_iff.mp h
  exact ⟨of_decide_eq_true h'.1, of_decide_eq_true h'.2⟩
theorem ops_mod : OpS o opMod (rI (fun _ j => 0 < j) fun i j => .int (i % j)) := ops_I fun i j h => (of_decide_eq_true h)
theorem ops_pow : OpS o opPow (rI CPowW fun i j => .int (i ^ j.toNat)) := ops_I fun _ _ h => by
  have h' := Bool.and_eq_true_iff.mp h
  have h2 := Bool.and_eq_true_iff.mp h'.1
  exact ⟨of_decide_eq_true h2.1, of_decide_eq_true h2.2, of_decide_eq_true h'.2⟩
/-- comparisons of ints -/
def opB (p : Int → Int → Bool) : Op2 := fun x y S => match x, y with
  | .int i, .int j => .ok (.bl (p i j)) S
  | _, _ => .bad
theorem ops_B {p : Int → Int → Bool} : OpS o (opB p) (rI0 fun i j => .bl (p i j)) := by
  intro W m F S ρ σ H x y v u Q R rx ry q
  cases x with
  | int i =>
    cases y with
    | int j =>
      cases rx
      cases ry
      exact ⟨i, j, rfl, rfl, Aft.done R (.bl _) q⟩
    | _ => exact q.elim
  | _ => exact q.elim
def opLt : Op2 := opB fun i j => decide (i < j)
def opLe : Op2 := opB fun i j => decide (i ≤ j)
def opGt : Op2 := opB fun i j => decide (j < i)
def opGe : Op2 := opB fun i j => decide (j ≤ i)

def opIsN : Op2 := fun x y S => match x, y with
  | .non, .non => .ok (.bl true) S
  | _, .non => .ok (.bl false) S
  | _, _ => .bad
def opNotN : Op2 := fun x y S => match x, y with
  | .non, .non => .ok (.bl false) S
  | _, .non => .ok (.bl true) S
  | _, _ => .bad
theorem rep_non {K : PySem.W.Frag} {T : Tab} {m : List Addr} {F : Hp} {d : D} {v : V} (r : Rep K T m F d v) : decide (v = .non) = (match d with | .non => true | _ => false) := by
  cases r <;> simp
theorem ops_isN : OpS o opIsN (fun x y H Q => y = .non ∧ Q (.bl (decide (x = .non))) H) := by
  intro W m F S ρ σ H x y v u Q R rx ry q
  have e := rep_non rx
  cases y with
  | non =>
    cases ry
    refine ⟨rfl, ?_⟩
    rw [e]
    cases x <;> exact Aft.done R (.bl _) q
  | _ => cases x <;> exact q.elim
theorem ops_notN : OpS o opNotN (fun x y H Q => y = .non ∧ Q (.bl (!decide (x = .non))) H) := by
  intro W m F S ρ σ H x y v u Q R rx ry q
  have e := rep_non rx
  cases y with
  | non =>
    cases ry
    refine ⟨rfl, ?_⟩
    rw [e]
    cases x <;> exact Aft.done R (.bl _) q
  | _ => cases x <;> exact q.elim

mutual
def toPy (S : List Cell) : D → Option PyData
  | .non => some .none
  | .bl b => some (.bool b)
  | .int i => some (.int i)
  | .str x => some (.str x)
  | .tup l => (toPys S l).map .tuple
  | .ktup l => (toPys S l).map .tuple
  | .lst l => (toPys S l).map .list
  | .dct _ _ => none
  | .obj _ _ => none
  | .klst _ => none
  | .loc _ => none
def toPys (S : List Cell) : List D → Option (List PyData)
  | [] => some []
  | d :: ds => match toPy S d, toPys S ds with
    | some x, some xs => some (x :: xs)
    | _, _ => none
end
section
variable {K : PySem.W.Frag} {T : Tab} {m : List Addr} {F H : Hp} {S : List Cell}
mutual
theorem toPy_dp (e : Le F H) : ∀ (d : D) (v : V) (y : PyData), Rep K T m F d v → toPy S d = some y → Dp K H v y
  | .non, _, _, r, h => by cases r; cases h; exact .non
  | .bl b, _, _, r, h => by cases r; cases h; exact .bl b
  | .int i, _, _, r, h => by cases r; cases h; exact .int i
  | .str x, _, _, r, h => by cases r; cases h; exact .str x
  | .tup l, _, _, r, h => by
    cases r with
    | tup q rs =>
      unfold toPy at h
      cases z : toPys S l with
      | none => rw [z] at h; cases h
      | some ys =>
        rw [z] at h
        cases h
        exact .tup (.inl (.inl (e _ _ q))) (toPys_dp e l _ ys rs z)
  | .ktup l, _, _, r, h => by
    cases r with
    | ktup q rs =>
      unfold toPy at h
      cases z : toPys S l with
      | none => rw [z] at h; cases h
      | some ys =>
        rw [z] at h
        cases h
        exact .tup ((Le.zero _).sqT q) (toPys_dp e l _ ys rs z)
  | .lst l, _, _, r, h => by
    cases r with
    | lst q rs =>
      unfold toPy at h
      cases z : toPys S l with
      | none => rw [z] at h; cases h
      | some ys =>
        rw [z] at h
        cases h
        exact .lst (.inl (e.rd q)) (toPys_dp e l _ ys rs z)
  | .dct _ _, _, _, _, h => by cases h
  | .obj _ _, _, _, _, h => by cases h
  | .klst _, _, _, _, h => by cases h
  | .loc _, _, _, _, h => by cases h
theorem toPys_dp (e : Le F H) : ∀ (ds : List D) (vs : List V) (ys : List PyData), Reps K T m F ds vs → toPys S ds = some ys → DpAll K H vs ys
  | [], _, _, r, h => by cases r; cases h; exact .nil
  | d :: ds, _, _, r, h => by
    cases r with
    | cons r rs =>
      unfold toPys at h
      split at h
      · rename_i x xs e1 e2
        cases h
        exact .cons (toPy_dp e d _ x r e1) (toPys_dp e ds _ xs rs e2)
      · cases h
end
end
/-- a list that may change, seen as data -/
def seen (S : List Cell) : D → D
  | .loc n => match S[n]? with
    | some (.lst l) => .lst l
    | _ => .loc n
  | d => d
theorem seen_dp {K : PySem.W.Frag} {T : Tab} {g : Gh} {m : List Addr} {F : Hp} {S : List Cell} {ρ : Slots} {σ : St} {H : Hp} {d : D} {v : V} {y : PyData} (R : Rel K T g m F S ρ σ H) (r : Rep K T m F d v) (h : toPy S (seen S d) = some y) : Dp K H v y := by
  cases d with
  | loc n =>
    cases r with
    | loc hm =>
      unfold seen at h
      dsimp only at h
      split at h
      · rename_i l e
        cases R.cell n _ _ hm e with
        | lst q rs =>
          unfold toPy at h
          cases z : toPys S l with
          | none => rw [z] at h; cases h
          | some ys =>
            rw [z] at h
            cases h
            exact .lst (.inl (.inl q)) (toPys_dp R.le l _ ys rs z)
      · cases h
  | _ => exact toPy_dp R.le _ v y r h
/-- == by data: both sides are data of a moderate depth -/
def eqD (S : List Cell) (x y : D) : Option Bool := match toPy S (seen S x), toPy S (seen S y) with
  | some d, some e => if (SeqAt.shaped d && SeqAt.shaped e) = true then some (PyData.eqv d e) else none
  | _, _ => none
def opEq : Op2 := fun x y S => match eqD S x y with
  | some b => .ok (.bl b) S
  | none => .bad
def opNe : Op2 := fun x y S => match eqD S x y with
  | some b => .ok (.bl (!b)) S
  | none => .bad
theorem eqD_of {S : List Cell} {x y : D} {b : Bool} (h : eqD S x y = some b) : ∃ d e, toPy S (seen S x) = some d ∧ toPy S (seen S y) = some e ∧ SeqAt.shaped d = true ∧ SeqAt.shaped e = true ∧ b = PyData.eqv d e := by
  unfold eqD at h
  split at h
  · rename_i d e h1 h2
    by_cases hc : (SeqAt.shaped d && SeqAt.shaped e) = true
    · rw [if_pos hc] at h
      cases h
      have := Bool.and_eq_true_iff.mp hc
      exact ⟨d, e, h1, h2, this.1, this.2, rfl⟩
    · rw [if_neg hc] at h; cases h
  · cases h
theorem ops_eq : OpS o opEq (rEqD o.K) := by
  intro W m F S ρ σ H x y v u Q R rx ry q
  unfold opEq at q
  split at q
  · rename_i b e
    obtain ⟨d, e', h1, h2, s1, s2, rfl⟩ := eqD_of e
    exact ⟨d, e', seen_dp R rx h1, seen_dp R ry h2, s1, s2, Aft.done R (.bl _) q⟩
  · exact q.elim
theorem ops_ne : OpS o opNe (rNeD o.K) := by
  intro W m F S ρ σ H x y v u Q R rx ry q
  unfold opNe at q
  split at q
  · rename_i b e
    obtain ⟨d, e', h1, h2, s1, s2, rfl⟩ := eqD_of e
    exact ⟨d, e', seen_dp R rx h1, seen_dp R ry h2, s1, s2, Aft.done R (.bl _) q⟩
  · exact q.elim
end


abbrev Fn := List D → List Cell → Res
def CAft (K : PySem.W.Frag) (T : Tab) (H : Hp) (m : List Addr) (F : Hp) (r : Res) (Q : VK) (E : XK) : Prop := match r with
  | .ok d S => ∀ m' F' v H', m <+: m' → Le F F' → Rel K T ⟨H, m, F⟩ m' F' S [] [] H' → Rep K T m' F' d v → Q v H'
  | .err c d S => ∀ m' F' v H' dd, m <+: m' → Le F F' → Rel K T ⟨H, m, F⟩ m' F' S [] [] H' → Rep K T m' F' d v → H' dd = some (.xd [(("value" : Str), v)]) → E (.ref (T.cls c)) (some dd) H'
  | .bad => False
/-- a def does what the function G says -/
def spF (K : PySem.W.Frag) (T : Tab) (n : Nat) (G : Fn) : Sp := fun vs H Q E => vs.length = n ∧ ∃ m F S ds, Rel K T ⟨H, m, F⟩ m F S [] [] H ∧ Reps K T m F ds vs ∧ CAft K T H m F (G ds S) Q E

section
variable {K : PySem.W.Frag} {T : Tab} {g : Gh} {m m' : List Addr} {F F' : Hp} {S S' : List Cell} {ρ ρ' : Slots} {σ σ' : St} {H H' : Hp}
theorem Rel.self (R : Rel K T g m F S ρ σ H) : Rel K T ⟨H, m, F⟩ m F S [] [] H :=
  ⟨R.len, R.nd, R.le, R.ap, R.cell, rfl, fun i d h => by simp at h, fun _ _ h _ => h, List.prefix_refl m, fun _ _ h => .inl h, fun n a h => .inl (List.getElem?_eq_some_iff.mp h).1, Le.refl F, R.there⟩
theorem Rel.bare (R : Rel K T g m F S ρ σ H) : Rel K T g m F S [] [] H :=
  ⟨R.len, R.nd, R.le, R.ap, R.cell, rfl, fun i d h => by simp at h, R.frame, R.pre, R.newF, R.newm, R.leF, R.there⟩
theorem Rel.back (R : Rel K T g m F S ρ σ H) (R' : Rel K T ⟨H, m, F⟩ m' F' S' [] [] H') (p : m <+: m') (e : Le F F') : Rel K T g m' F' S' ρ σ H' := by
  refine ⟨R'.len, R'.nd, R'.le, R'.ap, R'.cell, R.slen, fun i d h => ?_, fun a u h hn => ?_, R.pre.trans p, fun a u h => ?_, fun n a h => ?_, R.leF.trans e, R'.there⟩
  · obtain ⟨v, q, r⟩ := R.sl i d h
    exact ⟨v, q, r.mono p e⟩
  · refine R'.frame a u (R.frame a u h hn) fun hm => ?_
    obtain ⟨n, hl, q⟩ := List.mem_iff_getElem.mp hm
    have q' : m[n]? = some a := by rw [List.getElem?_eq_getElem hl, q]
    rcases R.newm n a q' with z | z
    · have h2 := pre_get R.pre (List.getElem?_eq_getElem (l := g.m0) (i := n) z)
      rw [q'] at h2
      have e' : a = g.m0[n] := Option.some.inj h2
      exact hn (e' ▸ List.getElem_mem z)
    · rw [z] at h; cases h
  · rcases R'.newF a u h with z | z
    · exact R.newF a u z
    · exact .inr (R.entry z)
  · rcases R'.newm n a h with z | z
    · have h2 := pre_get p (List.getElem?_eq_getElem (l := m) (i := n) z)
      rw [h] at h2
      have e' : a = m[n] := Option.some.inj h2
      exact R.newm n a (by rw [e']; exact List.getElem?_eq_getElem z)
    · exact .inr (R.entry z)
end

section
variable {X : Cx} {o : Wo} {W : WX} {a b : Expr} {fa fb : Ev} {pos : Pos} {m : List Addr} {F : Hp} {S : List Cell} {ρ : Slots} {σ : St} {H : Hp}
theorem call_imp {r : Res} {Q : VK} (R : Rel o.K o.T o.g m F S ρ σ H) (q : Aft o m F ρ σ W r Q) : CAft o.K o.T H m F r Q (WE W σ) := by
  cases r with
  | ok d S' => exact fun m' F' v H' p e R' rep => q m' F' v H' p e (R.back R' p e) rep
  | err c d S' => exact fun m' F' v H' dd p e R' rep hd => q m' F' v H' dd p e (R.back R' p e) rep hd
  | bad => exact q
def callF (G : Fn) (fs : List Ev) : Ev := fun ρ S => evs fs ρ S G
/-- f(e, ..) -/
theorem fe_call {k n : Nat} {f : Addr} {fd : FuncData} {ps : List Str} {G : Fn} {x : Str} {p : Pos} {e : Expr} {es : List Expr} {fs : List Ev} (hn : fs.length = n)
    (FO : FnOk X.prog X.w X.K X.mg X.base (L2N.CX X.prog X.w) k f fd ps (spF o.K o.T n G)) (hr : Room k X.A) (hg : Gl X x) (hm : X.mg x = some (.ref f)) (hk : PySem.W.keepIn X.K (.ref f) = true) (hb : Binds X.K fd ps []) (tk : L2N.Takes X W)
    (ha : PA X (e :: es) (tAs o W fs)) (hdb : (x == ("__debug__" : Str)) = false) (he : starEach (e :: es) X.env = (false, eval e X.env) :: starEach es X.env) (hpl : (backTo pos (starEach es X.env)).any (·.1) = false) :
    PE X (.Call (.Name x p) (e :: es) [] pos) (tE o W (callF G fs)) := PE.of (pe_callS FO hr hg hm hk hb (fun σ => L2N.passAt tk σ) ha hdb he hpl) fun σ H Q q => by
  obtain ⟨m, F, S, ρ, R, q⟩ := q
  exact args_imp R q fun m1 F1 S1 ds vs H1 p1 e1 R1 reps hl q1 => ⟨by rw [← reps.length, hl, hn], m1, F1, S1, ds, R1.self, reps, call_imp R1 q1⟩
end

inductive Fl where
  | nx (ρ : Slots) | ret (d : D) | brk (ρ : Slots) | ct (ρ : Slots) | er (c : Nat) (d : D) (ρ : Slots)
  deriving Inhabited
inductive ResS where
  | ok (f : Fl) (S : List Cell) | bad
  deriving Inhabited
abbrev Sv := Slots → List Cell → ResS
def SAft (o : Wo) (m : List Addr) (F : Hp) (W : WX) (r : ResS) (D : Ends) : Prop := match r with
  | .ok (.nx ρ) S => ∀ m' F' σ' H', m <+: m' → Le F F' → Rel o.K o.T o.g m' F' S ρ σ' H' → D.nx σ' H'
  | .ok (.brk ρ) S => ∀ m' F' σ' H', m <+: m' → Le F F' → Rel o.K o.T o.g m' F' S ρ σ' H' → D.bk σ' H'
  | .ok (.ct ρ) S => ∀ m' F' σ' H', m <+: m' → Le F F' → Rel o.K o.T o.g m' F' S ρ σ' H' → D.ct σ' H'
  | .ok (.ret d) S => ∀ m' F' v H', m <+: m' → Le F F' → Rel o.K o.T o.g m' F' S [] [] H' → Rep o.K o.T m' F' d v → D.rt v H'
  | .ok (.er c d ρ) S => ∀ m' F' σ' v H' dd, m <+: m' → Le F F' → Rel o.K o.T o.g m' F' S ρ σ' H' → Rep o.K o.T m' F' d v → H' dd = some (.xd [(("value" : Str), v)]) → W (.ref (o.T.cls c)) (some dd) σ' H'
  | .bad => False
def tS (o : Wo) (W : WX) (f : Sv) : TS := fun D σ H => ∃ m F S ρ, Rel o.K o.T o.g m F S ρ σ H ∧ SAft o m F W (f ρ S) D
/-- an expression's result, then a statement's end -/
def Res.then (r : Res) (ρ : Slots) (k : D → List Cell → ResS) : ResS := match r with
  | .ok d S => k d S
  | .err c d S => .ok (.er c d ρ) S
  | .bad => .bad
def ResS.then (r : ResS) (k : Slots → List Cell → ResS) : ResS := match r with
  | .ok (.nx ρ) S => k ρ S
  | r => r
section
variable {o : Wo} {W : WX} {m m' : List Addr} {F F' : Hp} {ρ : Slots} {σ : St} {H : Hp} {S : List Cell} {En : Ends}
theorem SAft.from {r : ResS} (p : m <+: m') (e : Le F F') (h : SAft o m F W r En) : SAft o m' F' W r En := by
  cases r with
  | ok f S =>
    cases f with
    | nx ρ => exact fun m2 F2 σ' H' p2 e2 => h m2 F2 σ' H' (p.trans p2) (e.trans e2)
    | ret d => exact fun m2 F2 σ' H' p2 e2 => h m2 F2 σ' H' (p.trans p2) (e.trans e2)
    | brk ρ => exact fun m2 F2 σ' H' p2 e2 => h m2 F2 σ' H' (p.trans p2) (e.trans e2)
    | ct ρ => exact fun m2 F2 σ' H' p2 e2 => h m2 F2 σ' H' (p.trans p2) (e.trans e2)
    | er c d ρ => exact fun m2 F2 σ' v H' dd p2 e2 => h m2 F2 σ' v H' dd (p.trans p2) (e.trans e2)
  | bad => exact h
theorem SAft.exp {r : Res} {k : D → List Cell → ResS} (h : SAft o m F W (r.then ρ k) En) :
    Aft o m F ρ σ W r fun x H1 => ∃ m1 F1 S1 a, m <+: m1 ∧ Le F F1 ∧ Rel o.K o.T o.g m1 F1 S1 ρ σ H1 ∧ Rep o.K o.T m1 F1 a x ∧ SAft o m1 F1 W (k a S1) En := by
  cases r with
  | ok d S => exact fun m1 F1 v H1 p e R rep => ⟨m1, F1, S, d, p, e, R, rep, SAft.from p e h⟩
  | err c d S => exact fun m1 F1 v H1 dd p e R => h m1 F1 σ v H1 dd p e R
  | bad => exact h
theorem SAft.seq {r : ResS} {k : Slots → List Cell → ResS} (h : SAft o m F W (r.then k) En) :
    SAft o m F W r { En with nx := fun σ' H' => ∃ m1 F1 S1 ρ1, m <+: m1 ∧ Le F F1 ∧ Rel o.K o.T o.g m1 F1 S1 ρ1 σ' H' ∧ SAft o m1 F1 W (k ρ1 S1) En } := by
  cases r with
  | ok f S =>
    cases f with
    | nx ρ => exact fun m1 F1 σ' H' p e R => ⟨m1, F1, S, ρ, p, e, R, SAft.from p e h⟩
    | ret d => exact h
    | brk ρ => exact h
    | ct ρ => exact h
    | er c d ρ => exact h
  | bad => exact h
/-- other ends -/
theorem SAft.imp {r : ResS} {En' : Ends} (h : SAft o m F W r En) (h1 : ∀ σ H, En.nx σ H → En'.nx σ H) (h2 : ∀ v H, En.rt v H → En'.rt v H) (h3 : ∀ σ H, En.bk σ H → En'.bk σ H) (h4 : ∀ σ H, En.ct σ H → En'.ct σ H) : SAft o m F W r En' := by
  cases r with
  | ok f S =>
    cases f with
    | nx ρ => exact fun m1 F1 σ' H' p e R => h1 _ _ (h m1 F1 σ' H' p e R)
    | ret d => exact fun m1 F1 v H' p e R r => h2 _ _ (h m1 F1 v H' p e R r)
    | brk ρ => exact fun m1 F1 σ' H' p e R => h3 _ _ (h m1 F1 σ' H' p e R)
    | ct ρ => exact fun m1 F1 σ' H' p e R => h4 _ _ (h m1 F1 σ' H' p e R)
    | er c d ρ => exact h
  | bad => exact h
end
def nextS : Sv := fun ρ S => .ok (.nx ρ) S
def brkS : Sv := fun ρ S => .ok (.brk ρ) S
def ctS : Sv := fun ρ S => .ok (.ct ρ) S
def seqS (f g : Sv) : Sv := fun ρ S => (f ρ S).then g
def asgS (i : Nat) (f : Ev) : Sv := fun ρ S => (f ρ S).then ρ fun d S1 => .ok (.nx (ρ.set i (some d))) S1
def retS (f : Ev) : Sv := fun ρ S => (f ρ S).then ρ fun d S1 => .ok (.ret d) S1
def dropS (f : Ev) : Sv := fun ρ S => (f ρ S).then ρ fun _ S1 => .ok (.nx ρ) S1
def ifS (c : Ev) (f g : Sv) : Sv := fun ρ S => (c ρ S).then ρ fun x S1 => match x with
  | .bl true => f ρ S1
  | .bl false => g ρ S1
  | _ => .bad
def neverS : Sv := fun _ _ => .bad
section
variable {X : Cx} {o : Wo} {W : WX} {e : Expr} {fe : Ev} {st : Stmt} {rest : List Stmt} {f g : Sv} {pos : Pos}
theorem ss_nil : PSs X [] (tS o W nextS) := PSs.of pss_nil fun D σ H ⟨m, F, S, ρ, R, q⟩ => q m F σ H (List.prefix_refl m) (Le.refl F) R
theorem ss_cons (h1 : PS X st (tS o W f)) (h2 : PSs X rest (tS o W g)) : PSs X (st :: rest) (tS o W (seqS f g)) := PSs.of (pss_cons h1 h2) fun D σ H ⟨m, F, S, ρ, R, q⟩ => by
  refine ⟨m, F, S, ρ, R, (SAft.seq q).imp ?_ (fun _ _ h => h) (fun _ _ h => h) (fun _ _ h => h)⟩
  rintro σ' H' ⟨m1, F1, S1, ρ1, p, e, R1, q1⟩
  exact ⟨m1, F1, S1, ρ1, R1, q1⟩
theorem ss_one (h1 : PS X st (tS o W f)) : PSs X [st] (tS o W f) := pss_one h1
theorem st_pass : PS X (.Pass pos) (tS o W nextS) := PS.of ps_pass fun D σ H ⟨m, F, S, ρ, R, q⟩ => q m F σ H (List.prefix_refl m) (Le.refl F) R
theorem st_break : PS X (.Break pos) (tS o W brkS) := PS.of ps_break fun D σ H ⟨m, F, S, ρ, R, q⟩ => q m F σ H (List.prefix_refl m) (Le.refl F) R
theorem st_continue : PS X (.Continue pos) (tS o W ctS) := PS.of ps_continue fun D σ H ⟨m, F, S, ρ, R, q⟩ => q m F σ H (List.prefix_refl m) (Le.refl F) R
theorem st_doc {x j pos'} : PS X (.Expr (.Constant (.str x) j pos) pos') (tS o W nextS) := PS.of ps_doc fun D σ H ⟨m, F, S, ρ, R, q⟩ => q m F σ H (List.prefix_refl m) (Le.refl F) R
theorem st_never : PS X st (tS o W neverS) := PS.of ps_never fun D σ H ⟨m, F, S, ρ, R, q⟩ => q
theorem st_expr (h : PE X e (tE o W fe)) (hs : swapsWith e none pos.line X.env = pure false) : PS X (.Expr e pos) (tS o W (dropS fe)) := PS.of (ps_expr h hs) fun D σ H ⟨m, F, S, ρ, R, q⟩ => by
  refine ⟨m, F, S, ρ, R, (SAft.exp q).map ?_⟩
  rintro v H1 ⟨m1, F1, S1, d, p, e, R1, rep, q1⟩
  exact q1 m1 F1 σ H1 (List.prefix_refl m1) (Le.refl F1) R1
theorem st_ret (h : PE X e (tE o W fe)) : PS X (.Return (some e) pos) (tS o W (retS fe)) := PS.of (ps_ret h) fun D σ H ⟨m, F, S, ρ, R, q⟩ => by
  refine ⟨m, F, S, ρ, R, (SAft.exp q).map ?_⟩
  rintro v H1 ⟨m1, F1, S1, d, p, e, R1, rep, q1⟩
  exact q1 m1 F1 v H1 (List.prefix_refl m1) (Le.refl F1) R1.bare rep
theorem st_retN : PS X (.Return none pos) (tS o W (retS (cF .non))) := PS.of ps_retN fun D σ H ⟨m, F, S, ρ, R, q⟩ => q m F .non H (List.prefix_refl m) (Le.refl F) R.bare .non
theorem st_if {c : Expr} {fc : Ev} {a b : List Stmt} (hc : PT X c (tT o W fc)) (ha : PSs X a (tS o W f)) (hb : PSs X b (tS o W g)) : PS X (.If c a b pos) (tS o W (ifS fc f g)) := PS.of (ps_if hc ha hb) fun D σ H ⟨m, F, S, ρ, R, q⟩ => by
  refine ⟨m, F, S, ρ, R, (SAft.exp q).map ?_⟩
  rintro v H1 ⟨m1, F1, S1, d, p, e, R1, rep, q1⟩
  cases d with
  | bl b =>
    cases rep
    refine ⟨b, rfl, ?_⟩
    cases b with
    | true => exact ⟨m1, F1, S1, ρ, R1, q1⟩
    | false => exact ⟨m1, F1, S1, ρ, R1, q1⟩
  | _ => exact q1.elim
theorem st_set {i : Nat} {x : Str} {pos' : Pos} (hN : X.N.Nodup) (hi : X.N[i]? = some x) (hx : Loc X.env.scope x) (he : PE X e (tE o W fe)) (hs : swapsWith e (some (.Name x pos')) pos.line X.env = pure false) (hf : X.fn x = true ∨ X.env.scope.names.lookup x = some .local) :
    PS X (.Assign [.Name x pos'] e pos) (tS o W (asgS i fe)) := PS.of (ps_set hN hi hx he hs hf) fun D σ H ⟨m, F, S, ρ, R, q⟩ => by
  refine ⟨m, F, S, ρ, R, (SAft.exp q).map ?_⟩
  rintro v H1 ⟨m1, F1, S1, d, p, e, R1, rep, q1⟩
  exact q1 m1 F1 _ H1 (List.prefix_refl m1) (Le.refl F1) (R1.slot rep)
/-- x = a new list or dict that may change from then on -/
def asCell : D → Option Cell
  | .lst l => some (.lst l)
  | .dct ks l => some (.dct ks l)
  | _ => none
def newS (i : Nat) (f : Ev) : Sv := fun ρ S => (f ρ S).then ρ fun d S1 => match asCell d with
  | some c => .ok (.nx (ρ.set i (some (.loc S1.length)))) (S1 ++ [c])
  | none => .bad
theorem NewOf.cell {K : PySem.W.Frag} {T : Tab} {m m' : List Addr} {F H : Hp} {d : D} {u : HO} {p : Addr} (h : NewOf K T m F d u) (pr : m <+: m') : ∃ c, asCell d = some c ∧ CellOk K T m' F (upd H p u) p c := by
  cases h with
  | lst r => exact ⟨_, rfl, .lst upd_same (r.mono pr (Le.refl F))⟩
  | dct l r => exact ⟨_, rfl, .dct upd_same l (r.mono pr (Le.refl F))⟩
theorem st_new {i : Nat} {x : Str} {pos' : Pos} (hN : X.N.Nodup) (hi : X.N[i]? = some x) (hx : Loc X.env.scope x) (he : PE X e (tN o W fe)) (hs : swapsWith e (some (.Name x pos')) pos.line X.env = pure false) (hf : X.fn x = true ∨ X.env.scope.names.lookup x = some .local) :
    PS X (.Assign [.Name x pos'] e pos) (tS o W (newS i fe)) := PS.of (ps_set hN hi hx he hs hf) fun D σ H ⟨m, F, S, ρ, R, q⟩ => by
  refine ⟨m, F, S, ρ, R, ?_⟩
  unfold newS at q
  cases hr : fe ρ S with
  | ok d S1 =>
    rw [hr] at q
    intro m1 F1 H1 p u pr e R1 hp n
    obtain ⟨c, ec, hc⟩ := n.cell (H := H1) (p := p) (List.prefix_append m1 [p])
    have q' : SAft o m F W (match asCell d with
      | some c => ResS.ok (.nx (ρ.set i (some (.loc S1.length)))) (S1 ++ [c])
      | none => .bad) D := q
    rw [ec] at q'
    have R2 := R1.push hp hc
    have rl : Rep o.K o.T (m1 ++ [p]) F1 (.loc S1.length) (.ref p) := .loc (by rw [← R1.len]; simp)
    exact q' (m1 ++ [p]) F1 _ _ (pr.trans (List.prefix_append m1 [p])) e (R2.slot rl)
  | err c d S1 =>
    rw [hr] at q
    exact fun m1 F1 v H1 dd p e R => q m1 F1 σ v H1 dd p e R
  | bad =>
    rw [hr] at q
    exact q
end

def startD (n : Nat) (ds : List D) : Slots := ds.map some ++ List.replicate (n - ds.length) none
def runF (n : Nat) (f : Sv) : Fn := fun ds S => match f (startD n ds) S with
  | .ok (.nx _) S' => .ok .non S'
  | .ok (.ret d) S' => .ok d S'
  | .ok (.er c d _) S' => .err c d S'
  | _ => .bad
theorem startD_rel {K : PySem.W.Frag} {T : Tab} {g : Gh} {m : List Addr} {F : Hp} {S : List Cell} {H : Hp} {N : List Str} {ds : List D} {vs : List V} (R : Rel K T g m F S [] [] H) (r : Reps K T m F ds vs) : Rel K T g m F S (startD N.length ds) (L2.start N vs) H := by
  have hl := r.length
  refine ⟨R.len, R.nd, R.le, R.ap, R.cell, ?_, fun i d h => ?_, R.frame, R.pre, R.newF, R.newm, R.leF, R.there⟩
  · unfold startD L2.start
    simp [hl]
  · unfold startD at h
    unfold L2.start
    by_cases hi : i < ds.length
    · rw [List.getElem?_append_left (by simpa using hi), List.getElem?_map] at h
      cases e : ds[i]? with
      | none => rw [e] at h; cases h
      | some d' =>
        rw [e] at h
        cases h
        obtain ⟨v, ev, rv⟩ := r.get e
        exact ⟨v, by rw [List.getElem?_append_left (by simp; omega), List.getElem?_map, ev]; rfl, rv⟩
    · rw [List.getElem?_append_right (by simpa using hi), List.getElem?_replicate] at h
      split at h <;> cases h
section
variable {P : Program} {w : World} {K : PySem.W.Frag} {T : Tab} {mg : Str → Option Value} {base : Heap}
theorem Fun.okN {x qual : Str} {st : Stmt} {f : Addr} {fd : FuncData} {N ps : List Str} {k : Nat} {sp : Sp} (F : Fun K x qual st f fd) (S : FnScope N ps (defScope st)) (len : ∀ vs H Q E, sp vs H Q E → vs.length = ps.length)
    (hbody : ∀ (cdv : Value) (A : Around) (outer : List Env) (s : Shared) (H : Hp) (vs : List V) (Q : VK) (E : XK), Room k (A.deeper (PyProof.Rows.envOfC qual (defScope st) s.heap.objs.size f cdv)) → sp vs H Q E →
      ∃ t, PSs (cxOf (L2N.CX P w) P w K mg base N qual (defScope st) f cdv A outer s H E) (defBody st) t ∧ t { nx := fun _ H' => Q .non H', rt := Q } (L2.start N vs) H) : FnOk P w K mg base (L2N.CX P w) (k + 1) f fd ps sp := by
  obtain ⟨oc, od, kV, doc, pm, an, cdv, ct, osl, rfl, lk, hcd⟩ := F.ex
  exact fn_of lk hcd S len fun A outer s H vs Q E hr hsp => hbody cdv A outer s H vs Q E hr hsp
/-- a def by its body's function -/
theorem fn_run {x qual : Str} {st : Stmt} {f : Addr} {fd : FuncData} {N ps : List Str} {k : Nat} {b : Sv} (FF : Fun K x qual st f fd) (SC : FnScope N ps (defScope st))
    (hb : ∀ (cdv : Value) (A : Around) (outer : List Env) (s : Shared) (H : Hp) (E : XK) (o : Wo) (W : WX), Room k (A.deeper (PyProof.Rows.envOfC qual (defScope st) s.heap.objs.size f cdv)) → o.K = K → o.T = T → L2N.Takes (cxOf (L2N.CX P w) P w K mg base N qual (defScope st) f cdv A outer s H E) W →
      PSs (cxOf (L2N.CX P w) P w K mg base N qual (defScope st) f cdv A outer s H E) (defBody st) (tS o W b)) :
    FnOk P w K mg base (L2N.CX P w) (k + 1) f fd ps (spF K T ps.length (runF N.length b)) := by
  refine Fun.okN FF SC (fun vs H Q E h => h.1) fun cdv A outer s H vs Q E hr h => ?_
  obtain ⟨hl, m, F, S, ds, R, reps, q⟩ := h
  refine ⟨_, hb cdv A outer s H E ⟨K, T, ⟨H, m, F⟩⟩ (fun cls d _ H' => E cls d H') hr rfl rfl (L2N.takes_of rfl rfl rfl rfl), m, F, S, startD N.length ds, startD_rel R reps, ?_⟩
  unfold runF at q
  cases hr : b (startD N.length ds) S with
  | ok fl S' =>
    rw [hr] at q
    cases fl with
    | nx ρ => exact fun m' F' σ' H' p e R' => q m' F' .non H' p e R'.bare .non
    | ret d => exact fun m' F' v H' p e R' rep => q m' F' v H' p e R' rep
    | er c d ρ => exact fun m' F' σ' v H' dd p e R' rep hd => q m' F' v H' dd p e R'.bare rep hd
    | brk ρ => exact q.elim
    | ct ρ => exact q.elim
  | bad =>
    rw [hr] at q
    exact q.elim
/-- .. told by another function, where that one says something -/
theorem fn_is {f : Addr} {fd : FuncData} {ps : List Str} {k n : Nat} {CX : CXT} {G G' : Fn} (h : FnOk P w K mg base CX k f fd ps (spF K T n G)) (e : ∀ ds S, G' ds S ≠ .bad → G ds S = G' ds S) : FnOk P w K mg base CX k f fd ps (spF K T n G') :=
  h.imp fun vs H Q E ⟨hl, m, F, S, ds, R, reps, q⟩ => ⟨hl, m, F, S, ds, R, reps, by
    have nb : G' ds S ≠ .bad := fun z => by rw [z] at q; exact q
    rw [e ds S nb]
    exact q⟩
end


abbrev Tgt := D → Slots → Option Slots
def tgN (i : Nat) : Tgt := fun d ρ => some (ρ.set i (some d))
def tgAll : List Tgt → List D → Slots → Option Slots
  | [], [], ρ => some ρ
  | t :: ts, d :: ds, ρ => (t d ρ).bind fun ρ1 => tgAll ts ds ρ1
  | _, _, _ => none
def tgT (ts : List Tgt) : Tgt := fun d ρ => match d with
  | .tup l => tgAll ts l ρ
  | .ktup l => tgAll ts l ρ
  | .lst l => tgAll ts l ρ
  | _ => none
/-- slots outside sl stay -/
def Out (sl : List Nat) (σ σ' : St) : Prop := σ'.length = σ.length ∧ ∀ (j : Nat), j ∉ sl → σ'[j]? = σ[j]?
theorem Out.refl (sl : List Nat) (σ : St) : Out sl σ σ := ⟨rfl, fun _ _ => rfl⟩
theorem Out.trans {a b c : List Nat} {σ σ1 σ2 : St} (h : Out a σ σ1) (h2 : Out b σ1 σ2) (ha : ∀ j ∈ a, j ∈ c) (hb : ∀ j ∈ b, j ∈ c) : Out c σ σ2 :=
  ⟨h2.1.trans h.1, fun j hj => (h2.2 j fun z => hj (hb j z)).trans (h.2 j fun z => hj (ha j z))⟩
def tG (o : Wo) (t : Tgt) (sl : List Nat) : TG := fun v σ H Q => ∃ m F S ρ d, Rel o.K o.T o.g m F S ρ σ H ∧ Rep o.K o.T m F d v ∧ match t d ρ with
  | some ρ' => ∀ σ', Rel o.K o.T o.g m F S ρ' σ' H → Out sl σ σ' → Q σ' H
  | none => False
def tGs (o : Wo) (ts : List Tgt) (sl : List Nat) : TGs := fun vs σ H Q => ∃ m F S ρ ds, Rel o.K o.T o.g m F S ρ σ H ∧ Reps o.K o.T m F ds vs ∧ match tgAll ts ds ρ with
  | some ρ' => ∀ σ', Rel o.K o.T o.g m F S ρ' σ' H → Out sl σ σ' → Q σ' H
  | none => False
theorem PG.of {X : Cx} {e : Expr} {t t' : TG} (h : PG X e t) (i : ∀ v σ H Q, t' v σ H Q → t v σ H Q) : PG X e t' := ⟨fun pins s σ H v u Q I r q => h.run pins s σ H v u Q I r (i v σ H Q q)⟩
theorem PGs.of {X : Cx} {e : List Expr} {t t' : TGs} (h : PGs X e t) (i : ∀ v σ H Q, t' v σ H Q → t v σ H Q) : PGs X e t' := ⟨fun pins s σ H v u Q I r q => h.run pins s σ H v u Q I r (i v σ H Q q)⟩
theorem PG.or {X : Cx} {e : Expr} {t t' : TG} (h : PG X e t) (h' : PG X e t') : PG X e (fun v σ H Q => t v σ H Q ∨ t' v σ H Q) := ⟨fun pins s σ H v u Q I r q => q.elim (h.run pins s σ H v u Q I r) (h'.run pins s σ H v u Q I r)⟩
section
variable {X : Cx} {o : Wo} {pos : Pos}
theorem out_set {σ : St} {i : Nat} {v : Option V} : Out [i] σ (σ.set i v) := ⟨List.length_set .., fun j hj => List.getElem?_set_ne (fun e => hj (by simp [e]))⟩
theorem gt_name {i : Nat} {x : Str} (hN : X.N.Nodup) (hi : X.N[i]? = some x) (hx : Loc X.env.scope x) (hf : X.fn x = true ∨ X.env.scope.names.lookup x = some .local) : PG X (.Name x pos) (tG o (tgN i) [i]) :=
  PG.of (pg_name hN hi hx hf) fun v σ H Q ⟨m, F, S, ρ, d, R, r, q⟩ => q _ (R.slot r) out_set
theorem gts_nil : PGs X [] (tGs o [] []) := PGs.of pgs_nil fun vs σ H Q ⟨m, F, S, ρ, ds, R, r, q⟩ => by
  cases r with
  | nil => exact ⟨rfl, q σ R (Out.refl _ _)⟩
  | cons _ _ => exact q.elim
theorem gts_cons {e : Expr} {es : List Expr} {t : Tgt} {ts : List Tgt} {a b c : List Nat} (h1 : PG X e (tG o t a)) (h2 : PGs X es (tGs o ts b)) (ha : ∀ j ∈ a, j ∈ c) (hb : ∀ j ∈ b, j ∈ c)
    (hs : (assignEach (e :: es) X.env).map (·.2) = assign e X.env :: (assignEach es X.env).map (·.2)) : PGs X (e :: es) (tGs o (t :: ts) c) := PGs.of (pgs_cons h1 h2 hs) fun vs σ H Q ⟨m, F, S, ρ, ds, R, r, q⟩ => by
  cases r with
  | nil => exact q.elim
  | @cons d ds v vs r rs =>
    refine ⟨v, vs, rfl, m, F, S, ρ, d, R, r, ?_⟩
    have q' : (match (t d ρ).bind fun ρ1 => tgAll ts ds ρ1 with
      | some ρ' => ∀ σ', Rel o.K o.T o.g m F S ρ' σ' H → Out c σ σ' → Q σ' H
      | none => False) := q
    cases e1 : t d ρ with
    | none => rw [e1] at q'; exact q'
    | some ρ1 =>
      rw [e1] at q'
      intro σ1 R1 o1
      refine ⟨m, F, S, ρ1, ds, R1, rs, ?_⟩
      have q2 : (match tgAll ts ds ρ1 with
        | some ρ' => ∀ σ', Rel o.K o.T o.g m F S ρ' σ' H → Out c σ σ' → Q σ' H
        | none => False) := q'
      cases e2 : tgAll ts ds ρ1 with
      | none => rw [e2] at q2; exact q2
      | some ρ2 =>
        rw [e2] at q2
        exact fun σ2 R2 o2 => q2 σ2 R2 (o1.trans o2 ha hb)
theorem tgAll_len : ∀ {ts : List Tgt} {ds : List D} {ρ ρ' : Slots}, tgAll ts ds ρ = some ρ' → ds.length = ts.length
  | [], [], _, _, _ => rfl
  | t :: ts, d :: ds, ρ, ρ', h => by
    have h' : (t d ρ).bind (fun ρ1 => tgAll ts ds ρ1) = some ρ' := h
    cases e : t d ρ with
    | none => rw [e] at h'; cases h'
    | some ρ1 =>
      rw [e] at h'
      rw [List.length_cons, List.length_cons, tgAll_len (ts := ts) (ds := ds) (ρ := ρ1) (ρ' := ρ') h']
  | [], _ :: _, _, _, h => by cases h
  | _ :: _, [], _, _, h => by cases h
theorem gt_tup {es : List Expr} {k : Nat} {ts : List Tgt} {sl : List Nat} (hc : X.calm = true) (hK : X.K = o.K) (h : PGs X es (tGs o ts sl)) (hn : (assignEach es X.env).length = ts.length) (hst : (assignEach es X.env).findIdx? (·.1) = none) :
    PG X (.Tuple es k pos) (tG o (tgT ts) sl) := PG.of (PG.or (pg_tup hc h hn hst) (pg_lst hc h hn hst)) fun v σ H Q ⟨m, F, S, ρ, d, R, r, q⟩ => by
  cases d with
  | tup l =>
    cases r with
    | @tup a xs _ hq rs =>
      have q' : (match tgAll ts l ρ with
        | some ρ' => ∀ σ', Rel o.K o.T o.g m F S ρ' σ' H → Out sl σ σ' → Q σ' H
        | none => False) := q
      cases e : tgAll ts l ρ with
      | none => rw [e] at q'; exact q'.elim
      | some ρ' =>
        refine .inl ⟨a, xs, rfl, by rw [hK]; exact .inl (.inl (R.le _ _ hq)), by rw [← rs.length, tgAll_len e], m, F, S, ρ, l, R, rs, q'⟩
  | ktup l =>
    cases r with
    | @ktup a xs _ hq rs =>
      have q' : (match tgAll ts l ρ with
        | some ρ' => ∀ σ', Rel o.K o.T o.g m F S ρ' σ' H → Out sl σ σ' → Q σ' H
        | none => False) := q
      cases e : tgAll ts l ρ with
      | none => rw [e] at q'; exact q'.elim
      | some ρ' =>
        refine .inl ⟨a, xs, rfl, by rw [hK]; exact (Le.zero _).sqT hq, by rw [← rs.length, tgAll_len e], m, F, S, ρ, l, R, rs, q'⟩
  | lst l =>
    cases r with
    | @lst a xs _ hq rs =>
      have q' : (match tgAll ts l ρ with
        | some ρ' => ∀ σ', Rel o.K o.T o.g m F S ρ' σ' H → Out sl σ σ' → Q σ' H
        | none => False) := q
      cases e : tgAll ts l ρ with
      | none => rw [e] at q'; exact q'.elim
      | some ρ' =>
        refine .inr ⟨a, xs, rfl, .inl (R.le.rd hq), by rw [← rs.length, tgAll_len e], m, F, S, ρ, l, R, rs, q'⟩
  | _ => exact q.elim
end
def unpS (t : Tgt) (f : Ev) : Sv := fun ρ S => (f ρ S).then ρ fun d S1 => match t d ρ with
  | some ρ' => .ok (.nx ρ') S1
  | none => .bad
section
variable {X : Cx} {o : Wo} {W : WX} {pos : Pos} {e : Expr} {fe : Ev}
/-- target = e -/
theorem st_asg {tg : Expr} {t : Tgt} {sl : List Nat} (he : PE X e (tE o W fe)) (hg : PG X tg (tG o t sl)) (hs : swapsWithSole [tg] e pos.line X.env = pure false) (hw : swappedStores [tg] e X.env = pure none) (h1 : (assignEach [tg] X.env).map (·.2) = [assign tg X.env]) :
    PS X (.Assign [tg] e pos) (tS o W (unpS t fe)) := PS.of (ps_asg he hg hs hw h1) fun D σ H ⟨m, F, S, ρ, R, q⟩ => by
  refine ⟨m, F, S, ρ, R, (SAft.exp q).map ?_⟩
  rintro v H1 ⟨m1, F1, S1, d, p, e, R1, rep, q1⟩
  refine ⟨m1, F1, S1, ρ, d, R1, rep, ?_⟩
  cases ht : t d ρ with
  | none => rw [ht] at q1; exact q1
  | some ρ' =>
    rw [ht] at q1
    exact fun σ' R' _ => q1 m1 F1 σ' H1 (List.prefix_refl m1) (Le.refl F1) R'
/-- a, b = x, y -/
def parS (i j : Nat) (fa fb : Ev) : Sv := fun ρ S => (fa ρ S).then ρ fun x S1 => (fb ρ S1).then ρ fun y S2 => .ok (.nx ((ρ.set i (some x)).set j (some y))) S2
theorem st_par {i j : Nat} {x y : Str} {a b : Expr} {fa fb : Ev} {px py pt : Pos} {kt k2 pt2} (hc : X.calm = true) (hN : X.N.Nodup) (hi : X.N[i]? = some x) (hj : X.N[j]? = some y) (hij : i ≠ j)
    (hx : X.env.scope.names.lookup x = some .local) (hy : X.env.scope.names.lookup y = some .local) (ha : PE X a (tE o W fa)) (hb : PE X b (tE o W fb)) (hs1 : starEach (a :: [b]) X.env = (false, eval a X.env) :: starEach [b] X.env) (hs2 : starEach (b :: []) X.env = (false, eval b X.env) :: starEach [] X.env)
    (hw : swappedStores [.Tuple [.Name x px, .Name y py] kt pt] (.Tuple [a, b] k2 pt2) X.env = pure (some [x, y]))
    (hs : swapsWithSole [.Tuple [.Name x px, .Name y py] kt pt] (.Tuple [a, b] k2 pt2) pos.line X.env = pure false) :
    PS X (.Assign [.Tuple [.Name x px, .Name y py] kt pt] (.Tuple [a, b] k2 pt2) pos) (tS o W (parS i j fa fb)) :=
  PS.of (ps_par hc hN hi hj hij hx hy (pa_cons ha (pa_cons hb pa_nil hs2) hs1) hw hs) fun D σ H ⟨m, F, S, ρ, R, q⟩ => by
  refine ⟨m, F, S, ρ, R, (SAft.exp q).map ?_⟩
  rintro v H1 ⟨m1, F1, S1, d, p, e, R1, rep, q1⟩
  refine ⟨m1, F1, S1, ρ, R1, (SAft.exp q1).map ?_⟩
  rintro w H2 ⟨m2, F2, S2, d2, p2, e2, R2, rep2, q2⟩
  exact ⟨v, w, rfl, q2 m2 F2 _ H2 (List.prefix_refl m2) (Le.refl F2) ((R2.slot (rep.mono p2 e2)).slot rep2)⟩
end

inductive ResI where
  | ok (l : List D) (c : Option Nat) (S : List Cell) | err (c : Nat) (d : D) (S : List Cell) | bad
abbrev Src := Slots → List Cell → ResI
/-- the list that is walked stands as it was -/
def Stay (c : Option Nat) (l : List D) (S : List Cell) : Prop := match c with
  | none => True
  | some n => S[n]? = some (.lst l)
def Walks (o : Wo) (J : It) (l : List D) (ok : List Cell → Prop) (m0 : List Addr) (F0 : Hp) : Prop :=
  ∀ (g : Gh) m F S ρ σ H, m0 <+: m → Le F0 F → Rel o.K o.T g m F S ρ σ H → ok S → ∀ i, (l.length ≤ i → J.stop i H) ∧
    (∀ d, l[i]? = some d → J.go i H ∧ ∀ x H', J.yld i H x H' → ∃ F', Le F F' ∧ Rel o.K o.T g m F' S ρ σ H' ∧ Rep o.K o.T m F' d x)
def tI (o : Wo) (W : WX) (f : Src) : TI := fun σ H R => ∃ m F S ρ, Rel o.K o.T o.g m F S ρ σ H ∧ match f ρ S with
  | .ok l c S' => ∀ m' F' J H', m <+: m' → Le F F' → Rel o.K o.T o.g m' F' S' ρ σ H' → Stay c l S' → Walks o J l (Stay c l) m' F' → R J H'
  | .err c d S' => ∀ m' F' v H' dd, m <+: m' → Le F F' → Rel o.K o.T o.g m' F' S' ρ σ H' → Rep o.K o.T m' F' d v → H' dd = some (.xd [(("value" : Str), v)]) → W (.ref (o.T.cls c)) (some dd) σ H'
  | .bad => False
theorem PI.of {X : Cx} {tg e : Expr} {t t' : TI} (h : PI X tg e t) (i : ∀ σ H R, t' σ H R → t σ H R) : PI X tg e t' := ⟨fun pins s σ H R I q => h.run pins s σ H R I (i σ H R q)⟩
def asSeq (S : List Cell) : D → Option (List D × Option Nat)
  | .tup l => some (l, none)
  | .ktup l => some (l, none)
  | .lst l => some (l, none)
  | .klst l => some (l, none)
  | .loc n => match S[n]? with
    | some (.lst l) => some (l, some n)
    | _ => none
  | _ => none
def seqI (f : Ev) : Src := fun ρ S => match f ρ S with
  | .ok d S1 => match asSeq S1 d with
    | some (l, c) => .ok l c S1
    | none => .bad
  | .err c d S1 => .err c d S1
  | .bad => .bad
theorem sq_injL {P : Program} {w : World} {K : PySem.W.Frag} {H : Hp} {h : Heap} {a : Addr} {xs ys : List V} (ok : HOk P w H h) (h1 : Rd H a (.lst xs)) (h2 : Rd H a (.lst ys)) : xs = ys := by
  obtain ⟨_, its, n, r, e⟩ := h1.ok ok
  obtain ⟨_, its', n', r', e'⟩ := h2.ok ok
  rw [e] at e'
  have z : its.toArray = its'.toArray := by injection e' with e''; injection e'' with _ _ q; injection q
  have z2 : its = its' := by simpa using congrArg Array.toList z
  subst z2
  exact r.inj r'
section
variable {X : Cx} {tg : Expr}
/-- over a list or a tuple -/
def iSeq (K : PySem.W.Frag) (tl : TE) : TI := fun σ H R => tl σ H fun x H1 => (∃ a, x = .ref a ∧ (∃ xs, SqL K H1 a xs) ∧ R (Itl K a) H1) ∨ (∃ a, x = .ref a ∧ (∃ xs, SqT K H1 a xs) ∧ R (Itt K a) H1)
theorem pi_seq {l : Expr} {tl : TE} (hl : PE X l tl) : PI X tg l (iSeq X.K tl) := by
  refine ⟨fun pins s σ H R I h => ?_⟩
  refine thn (hl.run pins s σ H _ I h) fun v s1 ⟨x, H1, I1, r1, q1⟩ => ?_
  rcases q1 with ⟨a, e, ⟨xs, hq⟩, q⟩ | ⟨a, e, ⟨xs, hq⟩, q⟩
  · subst e
    cases r1
    obtain ⟨its, rv, p, hz⟩ := I1.list hq
    refine wpAny_pyIter_list p.isList ?_
    refine ⟨s1.heap.objs.size, [s1.heap.objs.size], _, _, H1, rfl, I1.kept (t' := s1.toks) fun b o e => Heap.get?_push_of_some _ e, turn_list a _, ⟨_, Heap.get?_push_size _ rfl, rfl, rfl⟩, fun b hb => ?_, q⟩
    have e : b = s1.heap.objs.size := by simpa using hb
    subst e
    exact I1.fpOk (Nat.le_refl _) (I1.hok.fresh (Nat.le_refl _))
  · subst e
    cases r1
    obtain ⟨its, rv, p, hz⟩ := I1.tuple hq
    refine wpAny_pyIter_tuple (show s1.heap.IsTuple a its.toArray from p) ?_
    refine ⟨s1.heap.objs.size, [s1.heap.objs.size], _, _, H1, rfl, I1.kept (t' := s1.toks) fun b o e => Heap.get?_push_of_some _ e, turn_tuple a _, ⟨_, Heap.get?_push_size _ rfl, rfl, rfl⟩, fun b hb => ?_, q⟩
    have e : b = s1.heap.objs.size := by simpa using hb
    subst e
    exact I1.fpOk (Nat.le_refl _) (I1.hok.fresh (Nat.le_refl _))
end
/-- the heap's lists are told apart by what stands there: for a walk -/
theorem rd_inj {H : Hp} {a : Addr} {xs ys : List V} (h1 : Rd H a (.lst xs)) (h2 : Rd H a (.lst ys)) : xs = ys := by
  rcases h1 with h1 | ⟨o1, h1⟩ <;> rcases h2 with h2 | ⟨o2, h2⟩ <;> rw [h1] at h2 <;> cases h2 <;> rfl
theorem rdT_inj {H : Hp} {a : Addr} {xs ys : List V} (h1 : Rd H a (.tup xs)) (h2 : Rd H a (.tup ys)) : xs = ys := by
  rcases h1 with h1 | ⟨o1, h1⟩ <;> rcases h2 with h2 | ⟨o2, h2⟩ <;> rw [h1] at h2 <;> cases h2 <;> rfl


section
variable {o : Wo} {W : WX} {m0 : List Addr} {F0 : Hp} {a : Addr} {l : List D}
theorem walks_tup {xs : List V} (hq : SqT o.K F0 a xs) (rs : Reps o.K o.T m0 F0 l xs) (ok : List Cell → Prop) : Walks o (Itt o.K a) l ok m0 F0 := fun g m F S ρ σ H p e R _ i => by
  have hH : SqT o.K H a xs := (e.trans R.le).sqT hq
  have rs' := rs.mono p e
  refine ⟨fun h => ⟨xs, hH, by rw [← rs.length]; exact h⟩, fun d hd => ?_⟩
  obtain ⟨v, hv, rv⟩ := rs'.get hd
  refine ⟨⟨xs, v, hH, hv⟩, fun x H' y => ?_⟩
  obtain ⟨eH, hy⟩ := y
  subst eH
  have := hy xs hH
  rw [hv] at this
  cases this
  exact ⟨F, Le.refl F, R, rv⟩
theorem walks_lst {xs : List V} (hq : Rd F0 a (.lst xs)) (rs : Reps o.K o.T m0 F0 l xs) (ok : List Cell → Prop) : Walks o (Itl o.K a) l ok m0 F0 := fun g m F S ρ σ H p e R _ i => by
  have hH : SqL o.K H a xs := .inl ((e.trans R.le).rd hq)
  have rs' := rs.mono p e
  refine ⟨fun h => ⟨xs, hH, by rw [← rs.length]; exact h⟩, fun d hd => ?_⟩
  obtain ⟨v, hv, rv⟩ := rs'.get hd
  refine ⟨⟨xs, v, hH, hv⟩, fun x H' y => ?_⟩
  obtain ⟨eH, hy⟩ := y
  subst eH
  have := hy xs hH
  rw [hv] at this
  cases this
  exact ⟨F, Le.refl F, R, rv⟩
theorem walks_klst {xs : List V} (hq : SqL o.K (fun _ => none) a xs) (rs : Reps o.K o.T m0 F0 l xs) (ok : List Cell → Prop) : Walks o (Itl o.K a) l ok m0 F0 := fun g m F S ρ σ H p e R _ i => by
  have hH : SqL o.K H a xs := (Le.zero _).sqL hq
  have rs' := rs.mono p e
  refine ⟨fun h => ⟨xs, hH, by rw [← rs.length]; exact h⟩, fun d hd => ?_⟩
  obtain ⟨v, hv, rv⟩ := rs'.get hd
  refine ⟨⟨xs, v, hH, hv⟩, fun x H' y => ?_⟩
  obtain ⟨eH, hy⟩ := y
  subst eH
  have := hy xs hH
  rw [hv] at this
  cases this
  exact ⟨F, Le.refl F, R, rv⟩
theorem walks_loc {n : Nat} (hm : m0[n]? = some a) : Walks o (Itl o.K a) l (Stay (some n) l) m0 F0 := fun g m F S ρ σ H p e R ok i => by
  obtain ⟨xs, hq, rs⟩ : ∃ xs, H a = some (.lst xs) ∧ Reps o.K o.T m F l xs := by
    cases R.cell n a _ (pre_get p hm) ok with
    | lst q r => exact ⟨_, q, r⟩
  have hH : SqL o.K H a xs := .inl (.inl hq)
  refine ⟨fun h => ⟨xs, hH, by rw [← rs.length]; exact h⟩, fun d hd => ?_⟩
  obtain ⟨v, hv, rv⟩ := rs.get hd
  refine ⟨⟨xs, v, hH, hv⟩, fun x H' y => ?_⟩
  obtain ⟨eH, hy⟩ := y
  subst eH
  have := hy xs hH
  rw [hv] at this
  cases this
  exact ⟨F, Le.refl F, R, rv⟩
theorem fi_seq {X : Cx} {tg e : Expr} {f : Ev} (hK : X.K = o.K) (h : PE X e (tE o W f)) : PI X tg e (tI o W (seqI f)) := PI.of (pi_seq h) fun σ H R q => by
  obtain ⟨m, F, S, ρ, Rl, q⟩ := q
  refine ⟨m, F, S, ρ, Rl, ?_⟩
  unfold seqI at q
  cases hr : f ρ S with
  | ok d S1 =>
    rw [hr] at q
    intro m1 F1 v H1 p e R1 rep
    cases hs : asSeq S1 d with
    | none =>
      have q' : (match (match asSeq S1 d with
        | some (l, c) => ResI.ok l c S1
        | none => .bad) with
        | .ok l c S' => ∀ m' F' J H', m <+: m' → Le F F' → Rel o.K o.T o.g m' F' S' ρ σ H' → Stay c l S' → Walks o J l (Stay c l) m' F' → R J H'
        | .err c d S' => ∀ m' F' v H' dd, m <+: m' → Le F F' → Rel o.K o.T o.g m' F' S' ρ σ H' → Rep o.K o.T m' F' d v → H' dd = some (.xd [(("value" : Str), v)]) → W (.ref (o.T.cls c)) (some dd) σ H'
        | .bad => False) := q
      rw [hs] at q'
      exact q'.elim
    | some z =>
      obtain ⟨l, c⟩ := z
      have q' : (match (match asSeq S1 d with
        | some (l, c) => ResI.ok l c S1
        | none => .bad) with
        | .ok l c S' => ∀ m' F' J H', m <+: m' → Le F F' → Rel o.K o.T o.g m' F' S' ρ σ H' → Stay c l S' → Walks o J l (Stay c l) m' F' → R J H'
        | .err c d S' => ∀ m' F' v H' dd, m <+: m' → Le F F' → Rel o.K o.T o.g m' F' S' ρ σ H' → Rep o.K o.T m' F' d v → H' dd = some (.xd [(("value" : Str), v)]) → W (.ref (o.T.cls c)) (some dd) σ H'
        | .bad => False) := q
      rw [hs] at q'
      rw [hK]
      cases d with
      | tup l' =>
        cases hs
        cases rep with
        | @tup a xs _ hq rs => exact .inr ⟨a, rfl, ⟨xs, .inl (.inl (R1.le _ _ hq))⟩, q' m1 F1 _ H1 p e R1 True.intro (walks_tup (.inl (.inl hq)) rs _)⟩
      | ktup l' =>
        cases hs
        cases rep with
        | @ktup a xs _ hq rs => exact .inr ⟨a, rfl, ⟨xs, (Le.zero _).sqT hq⟩, q' m1 F1 _ H1 p e R1 True.intro (walks_tup ((Le.zero _).sqT hq) rs _)⟩
      | klst l' =>
        cases hs
        cases rep with
        | @klst a xs _ hq rs => exact .inl ⟨a, rfl, ⟨xs, (Le.zero _).sqL hq⟩, q' m1 F1 _ H1 p e R1 True.intro (walks_klst hq rs _)⟩
      | lst l' =>
        cases hs
        cases rep with
        | @lst a xs _ hq rs => exact .inl ⟨a, rfl, ⟨xs, .inl (R1.le.rd hq)⟩, q' m1 F1 _ H1 p e R1 True.intro (walks_lst hq rs _)⟩
      | loc n =>
        cases rep with
        | @loc _ a hm =>
          unfold asSeq at hs
          dsimp only at hs
          split at hs
          · rename_i l' el
            cases hs
            have hc := R1.cell n a _ hm el
            obtain ⟨xs, hq⟩ : ∃ xs, H1 a = some (.lst xs) := by
              cases hc with
              | lst q r => exact ⟨_, q⟩
            exact .inl ⟨a, rfl, ⟨xs, .inl (.inl hq)⟩, q' m1 F1 _ H1 p e R1 el (walks_loc hm)⟩
          · cases hs
      | _ => cases hs
  | err c d S1 =>
    rw [hr] at q
    exact q
  | bad =>
    rw [hr] at q
    exact q
/-- range(n), range(a, b) -/
def intsD (lo : Int) (n : Nat) : List D := (List.range n).map fun (k : Nat) => D.int (lo + (k : Int))
def rngOk (i : Int) : Bool := decide (-(2 ^ 62) ≤ i) && decide (i < 2 ^ 62)
def rng1I (f : Ev) : Src := fun ρ S => match f ρ S with
  | .ok (.int j) S1 => if rngOk j = true then .ok (intsD 0 j.toNat) none S1 else .bad
  | .err c d S1 => .err c d S1
  | _ => .bad
theorem walks_rng {lo : Int} {n : Nat} (ok : List Cell → Prop) : Walks o (Itr lo n) (intsD lo n) ok m0 F0 := fun g m F S ρ σ H p e R _ i => by
  refine ⟨fun h => ?_, fun d hd => ?_⟩
  · have : (intsD lo n).length = n := by simp [intsD]
    rw [this] at h
    exact h
  · have hi : i < n := by
      have := (List.getElem?_eq_some_iff.mp hd).1
      simpa [intsD] using this
    have he : d = .int (lo + (i : Int)) := by
      unfold intsD at hd
      rw [List.getElem?_map, List.getElem?_range hi] at hd
      exact (Option.some.inj hd).symm
    subst he
    refine ⟨hi, fun x H' y => ?_⟩
    obtain ⟨eH, ex⟩ := y
    subst eH
    subst ex
    exact ⟨F, Le.refl F, R, .int _⟩
theorem fi_rng1 {X : Cx} {tg a : Expr} {f : Ev} {p pos : Pos} (hg : Gl X "range") (hm : X.mg "range" = none) (h : PE X a (tE o W f)) (hs : starEach [a] X.env = [(false, eval a X.env)]) (hs' : starEach (a :: []) X.env = (false, eval a X.env) :: starEach [] X.env) :
    PI X tg (.Call (.Name "range" p) [a] [] pos) (tI o W (rng1I f)) := PI.of (pi_range1 hg hm (pa_cons h pa_nil hs') hs) fun σ H R q => by
  obtain ⟨m, F, S, ρ, Rl, q⟩ := q
  refine ⟨m, F, S, ρ, Rl, ?_⟩
  unfold rng1I at q
  cases hr : f ρ S with
  | ok d S1 =>
    rw [hr] at q
    intro m1 F1 v H1 p e R1 rep
    cases d with
    | int j =>
      cases rep
      by_cases hc : rngOk j = true
      · have q' : (match (if rngOk j = true then ResI.ok (intsD 0 j.toNat) none S1 else .bad) with
          | .ok l c S' => ∀ m' F' J H', m <+: m' → Le F F' → Rel o.K o.T o.g m' F' S' ρ σ H' → Stay c l S' → Walks o J l (Stay c l) m' F' → R J H'
          | .err c d S' => ∀ m' F' v H' dd, m <+: m' → Le F F' → Rel o.K o.T o.g m' F' S' ρ σ H' → Rep o.K o.T m' F' d v → H' dd = some (.xd [(("value" : Str), v)]) → W (.ref (o.T.cls c)) (some dd) σ H'
          | .bad => False) := q
        rw [if_pos hc] at q'
        have hb := Bool.and_eq_true_iff.mp hc
        exact ⟨j, rfl, of_decide_eq_true hb.1, of_decide_eq_true hb.2, q' m1 F1 _ H1 p e R1 True.intro (walks_rng _)⟩
      · have q' : (match (if rngOk j = true then ResI.ok (intsD 0 j.toNat) none S1 else .bad) with
          | .ok l c S' => ∀ m' F' J H', m <+: m' → Le F F' → Rel o.K o.T o.g m' F' S' ρ σ H' → Stay c l S' → Walks o J l (Stay c l) m' F' → R J H'
          | .err c d S' => ∀ m' F' v H' dd, m <+: m' → Le F F' → Rel o.K o.T o.g m' F' S' ρ σ H' → Rep o.K o.T m' F' d v → H' dd = some (.xd [(("value" : Str), v)]) → W (.ref (o.T.cls c)) (some dd) σ H'
          | .bad => False) := q
        rw [if_neg hc] at q'
        exact q'.elim
    | _ => exact q.elim
  | err c d S1 =>
    rw [hr] at q
    exact q
  | bad =>
    rw [hr] at q
    exact q
def rng2I (f f2 : Ev) : Src := fun ρ S => match f ρ S with
  | .ok (.int i) S1 => match f2 ρ S1 with
    | .ok (.int j) S2 => if (rngOk i && rngOk j) = true then .ok (intsD i (j - i).toNat) none S2 else .bad
    | .err c d S2 => .err c d S2
    | _ => .bad
  | .err c d S1 => .err c d S1
  | _ => .bad
theorem fi_rng2 {X : Cx} {tg a b : Expr} {f f2 : Ev} {p pos : Pos} (hg : Gl X "range") (hm : X.mg "range" = none) (h : PE X a (tE o W f)) (h2 : PE X b (tE o W f2)) (hs : starEach [a, b] X.env = [(false, eval a X.env), (false, eval b X.env)]) (hs2 : starEach [b] X.env = [(false, eval b X.env)])
    (ha' : starEach (a :: [b]) X.env = (false, eval a X.env) :: starEach [b] X.env) (hb' : starEach (b :: []) X.env = (false, eval b X.env) :: starEach [] X.env) :
    PI X tg (.Call (.Name "range" p) [a, b] [] pos) (tI o W (rng2I f f2)) := PI.of (pi_range2 hg hm (pa_cons h (pa_cons h2 pa_nil hb') ha') hs hs2) fun σ H R q => by
  obtain ⟨m, F, S, ρ, Rl, q⟩ := q
  refine ⟨m, F, S, ρ, Rl, ?_⟩
  unfold rng2I at q
  cases hr : f ρ S with
  | ok d S1 =>
    rw [hr] at q
    intro m1 F1 v H1 p e R1 rep
    cases d with
    | int i =>
      cases rep
      refine ⟨m1, F1, S1, ρ, R1, ?_⟩
      cases hr2 : f2 ρ S1 with
      | ok d2 S2 =>
        dsimp only at q
        rw [hr2] at q
        intro m2 F2 v2 H2 p2 e2 R2 rep2
        cases d2 with
        | int j =>
          cases rep2
          by_cases hc : (rngOk i && rngOk j) = true
          · dsimp only at q
            rw [if_pos hc] at q
            have hb := Bool.and_eq_true_iff.mp hc
            have h1 := Bool.and_eq_true_iff.mp hb.1
            have h2 := Bool.and_eq_true_iff.mp hb.2
            exact ⟨i, j, rfl, ⟨of_decide_eq_true h1.1, of_decide_eq_true h1.2, of_decide_eq_true h2.1, of_decide_eq_true h2.2⟩, q m2 F2 _ H2 (p.trans p2) (e.trans e2) R2 True.intro (walks_rng _)⟩
          · dsimp only at q
            rw [if_neg hc] at q
            exact q.elim
        | _ => exact q.elim
      | err c d S2 =>
        dsimp only at q
        rw [hr2] at q
        exact fun m2 F2 v2 H2 dd p2 e2 => q m2 F2 v2 H2 dd (p.trans p2) (e.trans e2)
      | bad =>
        dsimp only at q
        rw [hr2] at q
        exact q
    | _ => exact q.elim
  | err c d S1 =>
    rw [hr] at q
    exact q
  | bad =>
    rw [hr] at q
    exact q
end

open Classical in
noncomputable def forD (l : List D) (c : Option Nat) (t : Tgt) (b : Sv) : List D → Sv
  | [], ρ, S => if Stay c l S then .ok (.nx ρ) S else .bad
  | d :: ds, ρ, S => if Stay c l S then (match t d ρ with
    | some ρ1 => match b ρ1 S with
      | .ok (.nx ρ2) S2 => forD l c t b ds ρ2 S2
      | .ok (.ct ρ2) S2 => forD l c t b ds ρ2 S2
      | .ok (.brk ρ2) S2 => .ok (.nx ρ2) S2
      | r => r
    | none => .bad) else .bad
noncomputable def forS (s : Src) (t : Tgt) (b : Sv) : Sv := fun ρ S => match s ρ S with
  | .ok l c S1 => forD l c t b l ρ S1
  | .err c d S1 => .ok (.er c d ρ) S1
  | .bad => .bad
theorem drop_at {α : Type} : ∀ {l : List α} {i : Nat} {x : α}, l[i]? = some x → l.drop i = x :: l.drop (i + 1)
  | [], i, x, h => by simp at h
  | a :: l, 0, x, h => by
    simp at h
    subst h
    rfl
  | a :: l, i + 1, x, h => drop_at (l := l) (i := i) (by simpa using h)
section
variable {X : Cx} {o : Wo} {W : WX} {pos : Pos} {tg iter : Expr} {body : List Stmt} {s : Src} {t : Tgt} {sl : List Nat} {b : Sv}
theorem st_for (hp : PassesOwn (model X.prog X.w) X.A X.env X.xe) (hc : X.calm = true) (hi : PI X tg iter (tI o W s)) (hg : PG X tg (tG o t sl)) (hb : PSs X body (tS o W b)) (hs : ∀ x, foldedSetIterable iter X.env x = pure x) :
    PS X (.For tg iter body [] pos) (tS o W (forS s t b)) := PS.of (ps_for hp hc hi hg hb hs) fun D σ H ⟨m, F, S, ρ, R, q⟩ => by
  refine ⟨m, F, S, ρ, R, ?_⟩
  unfold forS at q
  cases hr : s ρ S with
  | ok l c S1 =>
    rw [hr] at q
    intro m1 F1 J H1 p e R1 st wk
    refine ⟨fun i k σ' H' => ∃ m2 F2 S2 ρ2, m1 <+: m2 ∧ Le F1 F2 ∧ Rel o.K o.T o.g m2 F2 S2 ρ2 σ' H' ∧ k = l.length - i ∧ i ≤ l.length ∧ SAft o m2 F2 W (forD l c t b (l.drop i) ρ2 S2) D, ⟨_, m1, F1, S1, ρ, List.prefix_refl m1, Le.refl F1, R1, rfl, Nat.zero_le _, SAft.from p e q⟩, ?_⟩
    rintro i k σ' H' ⟨m2, F2, S2, ρ2, p2, e2, R2, rfl, hi, q2⟩
    by_cases hlt : i < l.length
    · have hd : l[i]? = some l[i] := List.getElem?_eq_getElem hlt
      rw [drop_at hd] at q2
      unfold forD at q2
      by_cases hst : Stay c l S2
      · rw [if_pos hst] at q2
        obtain ⟨go, yl⟩ := (wk o.g m2 F2 S2 ρ2 σ' H' p2 e2 R2 hst i).2 _ hd
        refine .inr ⟨go, fun σ3 H3 => ∃ m3 F3 S3 ρ3, m1 <+: m3 ∧ Le F1 F3 ∧ Rel o.K o.T o.g m3 F3 S3 ρ3 σ3 H3 ∧ SAft o m3 F3 W (forD l c t b (l.drop (i + 1)) ρ3 S3) D, ?_, ?_⟩
        · rintro σ3 H3 ⟨m3, F3, S3, ρ3, p3, e3, R3, q3⟩
          exact ⟨l.length - (i + 1), by omega, m3, F3, S3, ρ3, p3, e3, R3, rfl, hlt, q3⟩
        · intro x H3 hy
          obtain ⟨F3, e3, R3, rep3⟩ := yl x H3 hy
          refine ⟨m2, F3, S2, ρ2, _, R3, rep3, ?_⟩
          cases ht : t l[i] ρ2 with
          | none => rw [ht] at q2; exact q2
          | some ρ3 =>
            rw [ht] at q2
            dsimp only at q2
            intro σ4 R4 _
            refine ⟨m2, F3, S2, ρ3, R4, ?_⟩
            cases hb' : b ρ3 S2 with
            | bad => rw [hb'] at q2; exact q2
            | ok f S5 =>
              rw [hb'] at q2
              cases f with
              | nx ρ5 => exact fun m5 F5 σ5 H5 p5 e5 R5 => ⟨m5, F5, S5, ρ5, p2.trans p5, (e2.trans e3).trans e5, R5, SAft.from p5 (e3.trans e5) q2⟩
              | ct ρ5 => exact fun m5 F5 σ5 H5 p5 e5 R5 => ⟨m5, F5, S5, ρ5, p2.trans p5, (e2.trans e3).trans e5, R5, SAft.from p5 (e3.trans e5) q2⟩
              | brk ρ5 => exact fun m5 F5 σ5 H5 p5 e5 R5 => q2 m5 F5 σ5 H5 p5 (e3.trans e5) R5
              | ret d => exact fun m5 F5 v H5 p5 e5 R5 r5 => q2 m5 F5 v H5 p5 (e3.trans e5) R5 r5
              | er c d ρ5 => exact fun m5 F5 σ5 v H5 dd p5 e5 => q2 m5 F5 σ5 v H5 dd p5 (e3.trans e5)
      · rw [if_neg hst] at q2
        exact q2.elim
    · have ei : i = l.length := by omega
      subst ei
      rw [List.drop_length] at q2
      unfold forD at q2
      by_cases hst : Stay c l S2
      · rw [if_pos hst] at q2
        exact .inl ⟨(wk o.g m2 F2 S2 ρ2 σ' H' p2 e2 R2 hst l.length).1 (Nat.le_refl _), q2 m2 F2 σ' H' (List.prefix_refl m2) (Le.refl F2) R2⟩
      · rw [if_neg hst] at q2
        exact q2.elim
  | err c d S1 =>
    rw [hr] at q
    exact fun m1 F1 v H1 dd p e R => q m1 F1 σ v H1 dd p e R
  | bad =>
    rw [hr] at q
    exact q
end

/-- n turns at most -/
def whileN (c : Ev) (b : Sv) : Nat → Sv
  | 0, _, _ => .bad
  | n + 1, ρ, S => (c ρ S).then ρ fun x S1 => match x with
    | .bl true => match b ρ S1 with
      | .ok (.nx ρ2) S2 => whileN c b n ρ2 S2
      | .ok (.ct ρ2) S2 => whileN c b n ρ2 S2
      | .ok (.brk ρ2) S2 => .ok (.nx ρ2) S2
      | r => r
    | .bl false => .ok (.nx ρ) S1
    | _ => .bad
open Classical in
noncomputable def whileS (c : Ev) (b : Sv) : Sv := fun ρ S => if h : ∃ n, whileN c b n ρ S ≠ .bad then whileN c b (Classical.choose h) ρ S else .bad
section
variable {X : Cx} {o : Wo} {W : WX} {pos : Pos} {c : Expr} {body : List Stmt} {fc : Ev} {b : Sv}
theorem st_while (hp : PassesOwn (model X.prog X.w) X.A X.env X.xe) (hc : PT X c (tT o W fc)) (hb : PSs X body (tS o W b)) : PS X (.While c body [] pos) (tS o W (whileS fc b)) := PS.of (ps_while hp hc hb) fun D σ H ⟨m, F, S, ρ, R, q⟩ => by
  unfold whileS at q
  by_cases h : ∃ n, whileN fc b n ρ S ≠ .bad
  · rw [dif_pos h] at q
    generalize Classical.choose h = n at q
    refine ⟨fun k σ' H' => ∃ m2 F2 S2 ρ2, Rel o.K o.T o.g m2 F2 S2 ρ2 σ' H' ∧ SAft o m2 F2 W (whileN fc b k ρ2 S2) D, ⟨n, m, F, S, ρ, R, q⟩, ?_⟩
    rintro k σ' H' ⟨m2, F2, S2, ρ2, R2, q2⟩
    cases k with
    | zero => exact q2.elim
    | succ k =>
      unfold whileN at q2
      refine ⟨m2, F2, S2, ρ2, R2, (SAft.exp q2).map ?_⟩
      rintro v H3 ⟨m3, F3, S3, d, p3, e3, R3, rep, q3⟩
      cases d with
      | bl x =>
        cases rep
        refine ⟨x, rfl, ?_⟩
        cases x with
        | false => exact q3 m3 F3 σ' H3 (List.prefix_refl m3) (Le.refl F3) R3
        | true =>
          refine ⟨fun σ4 H4 => ∃ m4 F4 S4 ρ4, Rel o.K o.T o.g m4 F4 S4 ρ4 σ4 H4 ∧ SAft o m4 F4 W (whileN fc b k ρ4 S4) D, fun σ4 H4 h4 => ⟨k, Nat.lt_succ_self k, h4⟩, m3, F3, S3, ρ2, R3, ?_⟩
          dsimp only at q3
          cases hb' : b ρ2 S3 with
          | bad => rw [hb'] at q3; exact q3
          | ok f S5 =>
            rw [hb'] at q3
            cases f with
            | nx ρ5 => exact fun m5 F5 σ5 H5 p5 e5 R5 => ⟨m5, F5, S5, ρ5, R5, SAft.from p5 e5 q3⟩
            | ct ρ5 => exact fun m5 F5 σ5 H5 p5 e5 R5 => ⟨m5, F5, S5, ρ5, R5, SAft.from p5 e5 q3⟩
            | brk ρ5 => exact fun m5 F5 σ5 H5 p5 e5 R5 => q3 m5 F5 σ5 H5 p5 e5 R5
            | ret d => exact fun m5 F5 v H5 p5 e5 R5 r5 => q3 m5 F5 v H5 p5 e5 R5 r5
            | er c d ρ5 => exact fun m5 F5 σ5 v H5 dd p5 e5 => q3 m5 F5 σ5 v H5 dd p5 e5
      | _ => exact q3.elim
  · rw [dif_neg h] at q
    exact q.elim
end
/-- the while that ends is told by its turns -/
theorem whileN_more {c : Ev} {b : Sv} : ∀ {n k : Nat} {ρ : Slots} {S : List Cell}, whileN c b n ρ S ≠ .bad → n ≤ k → whileN c b k ρ S = whileN c b n ρ S
  | 0, _, _, _, h, _ => absurd rfl h
  | n + 1, 0, _, _, _, h => absurd h (Nat.not_succ_le_zero n)
  | n + 1, k + 1, ρ, S, h, hk => by
    unfold whileN at h ⊢
    cases hc : c ρ S with
    | err e d S1 => rfl
    | bad => rfl
    | ok d S1 =>
      rw [hc] at h
      show Res.then (.ok d S1) ρ _ = Res.then (.ok d S1) ρ _
      unfold Res.then at h ⊢
      dsimp only at h ⊢
      cases d with
      | bl x =>
        cases x with
        | false => rfl
        | true =>
          dsimp only at h ⊢
          cases hb : b ρ S1 with
          | bad => rfl
          | ok f S2 =>
            rw [hb] at h
            cases f with
            | nx ρ2 => exact whileN_more h (Nat.le_of_succ_le_succ hk)
            | ct ρ2 => exact whileN_more h (Nat.le_of_succ_le_succ hk)
            | brk ρ2 => rfl
            | ret d => rfl
            | er c d ρ2 => rfl
      | _ => rfl
theorem whileS_of {c : Ev} {b : Sv} {n : Nat} {ρ : Slots} {S : List Cell} {r : ResS} (h : whileN c b n ρ S = r) (hr : r ≠ .bad) : whileS c b ρ S = r := by
  subst h
  have ex : ∃ n, whileN c b n ρ S ≠ .bad := ⟨n, hr⟩
  unfold whileS
  rw [dif_pos ex]
  have hc := Classical.choose_spec ex
  rcases Nat.le_total n (Classical.choose ex) with h1 | h1
  · exact whileN_more hr h1
  · exact (whileN_more hc h1).symm
/-- one turn more -/
theorem whileS_turn {c : Ev} {b : Sv} {ρ ρ2 : Slots} {S S1 S2 : List Cell} {r : ResS} (hc : c ρ S = .ok (.bl true) S1) (hb : b ρ S1 = .ok (.nx ρ2) S2) (h : whileS c b ρ2 S2 = r) (hr : r ≠ .bad) : whileS c b ρ S = r := by
  have : ∃ n, whileN c b n ρ2 S2 = r := by
    unfold whileS at h
    by_cases ex : ∃ n, whileN c b n ρ2 S2 ≠ .bad
    · rw [dif_pos ex] at h; exact ⟨_, h⟩
    · rw [dif_neg ex] at h; exact absurd h.symm hr
  obtain ⟨n, hn⟩ := this
  refine whileS_of (n := n + 1) ?_ hr
  unfold whileN
  rw [hc]
  unfold Res.then
  dsimp only
  rw [hb]
  exact hn
theorem whileS_end {c : Ev} {b : Sv} {ρ : Slots} {S S1 : List Cell} (hc : c ρ S = .ok (.bl false) S1) : whileS c b ρ S = .ok (.nx ρ) S1 := by
  refine whileS_of (n := 1) ?_ (by intro h; cases h)
  unfold whileN
  rw [hc]
  rfl


section
variable {K : PySem.W.Frag} {T : Tab} {g : Gh} {m : List Addr} {F : Hp} {S : List Cell} {ρ : List (Option D)} {σ : St} {H : Hp}
/-- an address that is neither known to stand still nor a thing of the store -/
structure Side (g : Gh) (m : List Addr) (F : Hp) (p : Addr) : Prop where
  f : F p = none
  m : p ∉ m
  h : g.H0 p = none
theorem Rel.side {p : Addr} {u : Option HO} (R : Rel K T g m F S ρ σ H) (sd : Side g m F p) : Rel K T g m F S ρ σ (fun b => if b = p then u else H b) := by
  have other : ∀ b o, b ≠ p → H b = some o → (if b = p then u else H b) = some o := fun b o q e => by rw [if_neg q]; exact e
  refine ⟨R.len, R.nd, fun b o e => other b o (ne_of_none e sd.f) (R.le b o e), R.ap, fun n b c h1 h2 => (R.cell n b c h1 h2).mono (List.prefix_refl m) (Le.refl F) fun o e => other b o (fun q => sd.m (by rw [← q]; exact List.mem_of_getElem? h1)) e,
    R.slen, R.sl, fun b o e hn => other b o (ne_of_none e sd.h) (R.frame b o e hn), R.pre, R.newF, R.newm, R.leF, fun n b e => ?_⟩
  obtain ⟨o, z⟩ := R.there n b e
  exact ⟨o, other b o (fun q => sd.m (by rw [← q]; exact List.mem_of_getElem? e)) z⟩
theorem Rel.sideU {p : Addr} {o : HO} (R : Rel K T g m F S ρ σ H) (sd : Side g m F p) : Rel K T g m F S ρ σ (upd H p o) := R.side (u := some o) sd
/-- the moment as a new beginning, the slots kept -/
theorem Rel.selfS (R : Rel K T g m F S ρ σ H) : Rel K T ⟨H, m, F⟩ m F S ρ σ H :=
  ⟨R.len, R.nd, R.le, R.ap, R.cell, R.slen, R.sl, fun _ _ h _ => h, List.prefix_refl m, fun _ _ h => .inl h, fun n a h => .inl (List.getElem?_eq_some_iff.mp h).1, Le.refl F, R.there⟩
end
def wipeD (ρ : Slots) : List Nat → Slots
  | [] => ρ
  | v :: vs => (wipeD ρ vs).set v none
theorem wipeD_length (ρ : Slots) : ∀ vs, (wipeD ρ vs).length = ρ.length
  | [] => rfl
  | v :: vs => by unfold wipeD; rw [List.length_set, wipeD_length ρ vs]
theorem wipeD_some {ρ : Slots} {i : Nat} {d : D} : ∀ {vs : List Nat}, (wipeD ρ vs)[i]? = some (some d) → ρ[i]? = some (some d) ∧ i ∉ vs
  | [], h => ⟨h, by simp⟩
  | v :: vs, h => by
    unfold wipeD at h
    by_cases hi : v = i
    · subst hi
      by_cases hv : v < (wipeD ρ vs).length
      · rw [List.getElem?_set_self hv] at h; cases h
      · rw [List.getElem?_eq_none (by simpa using hv)] at h; cases h
    · rw [List.getElem?_set_ne hi] at h
      obtain ⟨h1, h2⟩ := wipeD_some h
      exact ⟨h1, by simp only [List.mem_cons, not_or]; exact ⟨fun e => hi e.symm, h2⟩⟩
theorem wipe_at {σ : St} {i : Nat} : ∀ {vs : List Nat}, i ∉ vs → (wipe σ vs)[i]? = σ[i]?
  | [], _ => rfl
  | v :: vs, h => by
    simp only [List.mem_cons, not_or] at h
    unfold wipe
    rw [List.getElem?_set_ne (fun e => h.1 e.symm)]
    exact wipe_at h.2
theorem wipe_in {σ : St} {i : Nat} (hl : i < σ.length) : ∀ {vs : List Nat}, i ∈ vs → (wipe σ vs)[i]? = some none
  | v :: vs, h => by
    unfold wipe
    by_cases e : v = i
    · subst e
      rw [List.getElem?_set_self (by rw [wipe_length]; exact hl)]
    · rw [List.getElem?_set_ne e]
      rcases List.mem_cons.mp h with q | q
      · exact absurd q.symm e
      · exact wipe_in hl q
theorem wipe_out_eq {σ σ' : St} {vs sl : List Nat} (h : Out sl σ σ') (hs : ∀ j ∈ sl, j ∈ vs) : wipe σ' vs = wipe σ vs := by
  apply List.ext_getElem?
  intro i
  by_cases hi : i ∈ vs
  · by_cases hl : i < σ.length
    · rw [wipe_in hl hi, wipe_in (by rw [h.1]; exact hl) hi]
    · rw [List.getElem?_eq_none (by rw [wipe_length, h.1]; omega), List.getElem?_eq_none (by rw [wipe_length]; omega)]
  · rw [wipe_at hi, wipe_at hi, h.2 i fun z => hi (hs i z)]
theorem wipe_wipe {σ : St} {vs : List Nat} : wipe (wipe σ vs) vs = wipe σ vs := by
  apply List.ext_getElem?
  intro i
  by_cases hi : i ∈ vs
  · by_cases hl : i < σ.length
    · rw [wipe_in (by rw [wipe_length]; exact hl) hi, wipe_in hl hi]
    · rw [List.getElem?_eq_none (by rw [wipe_length, wipe_length]; omega), List.getElem?_eq_none (by rw [wipe_length]; omega)]
  · rw [wipe_at hi]
theorem Rel.wiped {K : PySem.W.Frag} {T : Tab} {g : Gh} {m : List Addr} {F : Hp} {S : List Cell} {ρ : List (Option D)} {σ : St} {H : Hp} (R : Rel K T g m F S ρ σ H) (vs : List Nat) : Rel K T g m F S (wipeD ρ vs) (wipe σ vs) H :=
  R.forget (by rw [wipeD_length, wipe_length]; exact R.slen) fun i d h => by
    obtain ⟨h1, h2⟩ := wipeD_some h
    exact ⟨h1, fun v e => by rw [wipe_at h2]; exact e⟩

/-- for any beginning -/
def tEx (K : PySem.W.Frag) (T : Tab) (f : Ev) : TE := fun σ H Q => ∃ g : Gh, tE ⟨K, T, g⟩ (fun _ _ _ _ => False) f σ H Q
def tTx (K : PySem.W.Frag) (T : Tab) (f : Ev) : TT := fun σ H Q => ∃ g : Gh, tT ⟨K, T, g⟩ (fun _ _ _ _ => False) f σ H Q
def tGx (K : PySem.W.Frag) (T : Tab) (t : Tgt) (sl : List Nat) : TG := fun v σ H Q => ∃ g : Gh, tG ⟨K, T, g⟩ t sl v σ H Q
theorem PE.ex {X : Cx} {e : Expr} {K : PySem.W.Frag} {T : Tab} {f : Ev} (h : ∀ g : Gh, PE X e (tE ⟨K, T, g⟩ (fun _ _ _ _ => False) f)) : PE X e (tEx K T f) := ⟨fun pins s σ H Q I ⟨g, q⟩ => (h g).run pins s σ H Q I q⟩
theorem PT.ex {X : Cx} {e : Expr} {K : PySem.W.Frag} {T : Tab} {f : Ev} (h : ∀ g : Gh, PT X e (tT ⟨K, T, g⟩ (fun _ _ _ _ => False) f)) : PT X e (tTx K T f) := ⟨fun pins s σ H Q I ⟨g, q⟩ => (h g).run pins s σ H Q I q⟩
theorem PG.ex {X : Cx} {e : Expr} {K : PySem.W.Frag} {T : Tab} {t : Tgt} {sl : List Nat} (h : ∀ g : Gh, PG X e (tG ⟨K, T, g⟩ t sl)) : PG X e (tGx K T t sl) := ⟨fun pins s σ H v u Q I r ⟨g, q⟩ => (h g).run pins s σ H v u Q I r q⟩

/-- a comprehension's turns: k goes on with the list of what is made -/
def bindN (r : Res) (k : D → List Cell → Res) : Res := match r with
  | .ok d S => k d S
  | _ => .bad
def selB (b : D) (r1 r2 : Res) : Res := match b with
  | .bl true => r1
  | .bl false => r2
  | _ => .bad
def trueF : Ev := fun _ S => .ok (.bl true) S
open Classical in
noncomputable def compD (l : List D) (c : Option Nat) (t : Tgt) (vs : List Nat) (p e : Ev) (ρ : Slots) : List D → List Cell → (List D → List Cell → Res) → Res
  | [], S, k => if Stay c l S then k [] S else .bad
  | d :: ds, S, k => if Stay c l S then (match t d (wipeD ρ vs) with
    | some ρ1 => bindN (p ρ1 S) fun b S1 => selB b (bindN (e ρ1 S1) fun y S2 => compD l c t vs p e ρ ds S2 fun r S3 => k (y :: r) S3) (compD l c t vs p e ρ ds S1 k)
    | none => .bad) else .bad
noncomputable def compF (s : Src) (t : Tgt) (vs : List Nat) (p e : Ev) : Ev := fun ρ S => match s ρ S with
  | .ok l c S1 => compD l c t vs p e ρ l S1 fun r S2 => if r.length ≤ big then .ok (.lst r) S2 else .bad
  | .err c d S1 => .err c d S1
  | .bad => .bad
theorem compD_ext {l : List D} {c : Option Nat} {t : Tgt} {vs : List Nat} {p e : Ev} {ρ : Slots} {ds : List D} {S : List Cell} {k : List D → List Cell → Res} : compD l c t vs p e ρ ds S k = compD l c t vs p e ρ ds S k := rfl
theorem yes_T {X : Cx} {K : PySem.W.Frag} {T : Tab} : PTs X [] (tTx K T trueF) := ⟨fun pins s σ H Q I ⟨g, m, F, S, ρ, R, q⟩ => by
  obtain ⟨k, e, z⟩ := Aft.done R (.bl true) q
  cases e
  exact pts_nil.run pins s σ H Q I z⟩
theorem one_T {X : Cx} {K : PySem.W.Frag} {T : Tab} {c : Expr} {f : Ev} (h : ∀ g : Gh, PT X c (tT ⟨K, T, g⟩ (fun _ _ _ _ => False) f)) : PTs X [c] (tTx K T f) := pts_one (PT.ex h)
theorem aft_no {o : Wo} {m : List Addr} {F : Hp} {ρ : Slots} {σ : St} {W : WX} {r : Res} {Q : VK} {k : D → List Cell → Res} {Z : Res → Prop} (hz : ¬ Z .bad) (h : Z (bindN r k)) (hk : ∀ d S, Z (k d S) → Aft o m F ρ σ W (.ok d S) Q) : Aft o m F ρ σ W r Q := by
  cases r with
  | ok d S => exact hk d S h
  | err c d S => exact absurd h hz
  | bad => exact absurd h hz
section
variable {X : Cx} {o : Wo} {W : WX} {pos : Pos} {elt tg iter : Expr} {ifs : List Expr} {scope : Scope} {own : List (Str × Nat)} {s : Src} {t : Tgt} {sl : List Nat} {p e : Ev}
theorem lc_imp {vs : List Nat} (hsl : ∀ j ∈ sl, j ∈ vs) (σ : St) (H : Hp) (Q : VK) (q : tN o W (compF s t vs p e) σ H Q) : tLc (tI o W s) (tGx o.K o.T t sl) (tTx o.K o.T p) (tEx o.K o.T e) vs σ H Q := by
  obtain ⟨m, F, S, ρ, R, q⟩ := q
  refine ⟨m, F, S, ρ, R, ?_⟩
  unfold compF at q
  cases hr : s ρ S with
  | err c d S1 => rw [hr] at q; exact q
  | bad => rw [hr] at q; exact q
  | ok l c S1 =>
    rw [hr] at q
    intro m1 F1 J H1 pr1 le1 R1 st wk
    intro Dl hD
    -- the turns: acc is made so far
    refine ⟨fun i k H' => k = l.length - i ∧ i ≤ l.length ∧ ∃ m2 F2 S2 acc xs, m1 <+: m2 ∧ Le F1 F2 ∧ Rel o.K o.T o.g m2 F2 S2 ρ σ H' ∧ Side o.g m2 F2 Dl ∧ H' Dl = some (.lst xs) ∧ Reps o.K o.T m2 F2 acc xs ∧
        NAft o m2 F2 ρ σ W (compD l c t vs p e ρ (l.drop i) S2 fun r S3 => if (acc ++ r).length ≤ big then .ok (.lst (acc ++ r)) S3 else .bad) Q, ⟨_, rfl, Nat.zero_le _, m1, F1, S1, [], [], List.prefix_refl m1, Le.refl F1, ?_, ⟨R1.le.none hD, R1.out hD, R1.entry hD⟩, upd_same, .nil, NAft.from pr1 le1 q⟩, ?_⟩
    · exact R1.sideU ⟨R1.le.none hD, R1.out hD, R1.entry hD⟩
    rintro i k H' ⟨rfl, hi, m2, F2, S2, acc, xs, pr2, le2, R2, sd, hDl, racc, q2⟩
    by_cases hlt : i < l.length
    · have hd : l[i]? = some l[i] := List.getElem?_eq_getElem hlt
      rw [drop_at hd] at q2
      unfold compD at q2
      by_cases hst : Stay c l S2
      · rw [if_pos hst] at q2
        obtain ⟨go, yl⟩ := (wk o.g m2 F2 S2 ρ σ H' pr2 le2 R2 hst i).2 _ hd
        -- what a turn is to reach
        refine .inr ⟨go, fun H9 => ∃ m2 F2 S2 acc xs, m1 <+: m2 ∧ Le F1 F2 ∧ Rel o.K o.T o.g m2 F2 S2 ρ σ H9 ∧ Side o.g m2 F2 Dl ∧ H9 Dl = some (.lst xs) ∧ Reps o.K o.T m2 F2 acc xs ∧
          NAft o m2 F2 ρ σ W (compD l c t vs p e ρ (l.drop (i + 1)) S2 fun r S3 => if (acc ++ r).length ≤ big then .ok (.lst (acc ++ r)) S3 else .bad) Q, fun H9 h9 => ⟨l.length - (i + 1), by omega, rfl, hlt, h9⟩, ?_⟩
        intro x H3 hy
        -- a beginning at this moment: the new list stands in it
        obtain ⟨go', yl'⟩ := (wk ⟨H', m2, F2⟩ m2 F2 S2 ρ σ H' pr2 le2 R2.selfS hst i).2 _ hd
        obtain ⟨F3, le3, R3, rep3⟩ := yl' x H3 hy
        have keepD : ∀ {mm FF SS ρρ σσ HH}, Rel o.K o.T ⟨H', m2, F2⟩ mm FF SS ρρ σσ HH → HH Dl = some (.lst xs) := fun r => r.frame Dl _ hDl sd.m
        have sdK : ∀ {mm FF SS ρρ σσ HH}, Rel o.K o.T ⟨H', m2, F2⟩ mm FF SS ρρ σσ HH → Side o.g mm FF Dl := fun {mm FF SS ρρ σσ HH} r => by
          refine ⟨?_, fun hm => ?_, sd.h⟩
          · cases z : FF Dl with
            | none => rfl
            | some u =>
              rcases r.newF Dl u z with y | y
              · have y2 : F2 Dl = some u := y
                rw [sd.f] at y2; cases y2
              · have y' : H' Dl = none := y
                rw [hDl] at y'; cases y'
          · obtain ⟨n, hn, e⟩ := List.mem_iff_getElem.mp hm
            have e' : mm[n]? = some Dl := by rw [List.getElem?_eq_getElem hn, e]
            rcases r.newm n Dl e' with y | y
            · have h2 := pre_get r.pre (List.getElem?_eq_getElem (l := m2) (i := n) y)
              rw [e'] at h2
              have e2 : Dl = m2[n] := Option.some.inj h2
              exact sd.m (by rw [e2]; exact List.getElem_mem y)
            · have y' : H' Dl = none := y
              rw [hDl] at y'; cases y'
        refine ⟨⟨H', m2, F2⟩, m2, F3, S2, wipeD ρ vs, _, R3.wiped vs, rep3, ?_⟩
        cases ht' : t l[i] (wipeD ρ vs) with
        | none => rw [ht'] at q2; exact q2
        | some ρ1 =>
          rw [ht'] at q2
          dsimp only at q2
          intro σ1 R4 out
          refine ⟨by rw [wipe_out_eq out hsl, wipe_wipe], ?_⟩
          refine ⟨⟨H', m2, F2⟩, m2, F3, S2, ρ1, R4, ?_⟩
          cases hp : p ρ1 S2 with
          | err c d S5 => rw [hp] at q2; exact q2.elim
          | bad => rw [hp] at q2; exact q2.elim
          | ok b S5 =>
            rw [hp] at q2
            intro m5 F5 v5 H5 pr5 le5 R5 rep5
            have q3 : NAft o m2 F2 ρ σ W (selB b (bindN (e ρ1 S5) fun y S2 => compD l c t vs p e ρ (l.drop (i + 1)) S2 fun r S3 => if (acc ++ (y :: r)).length ≤ big then Res.ok (.lst (acc ++ (y :: r))) S3 else .bad)
              (compD l c t vs p e ρ (l.drop (i + 1)) S5 fun r S3 => if (acc ++ r).length ≤ big then Res.ok (.lst (acc ++ r)) S3 else .bad)) Q := q2
            cases b with
            | bl b =>
              cases rep5
              refine ⟨b, rfl, ?_⟩
              cases b with
              | false =>
                exact ⟨m5, F5, S5, acc, xs, pr2.trans pr5, (le2.trans le3).trans le5, R2.back R5.bare pr5 (le3.trans le5), sdK R5, keepD R5, racc.mono pr5 (le3.trans le5), NAft.from pr5 (le3.trans le5) q3⟩
              | true =>
                refine ⟨⟨H', m2, F2⟩, m5, F5, S5, ρ1, R5, ?_⟩
                have q3 : NAft o m2 F2 ρ σ W (bindN (e ρ1 S5) fun y S2 => compD l c t vs p e ρ (l.drop (i + 1)) S2 fun r S3 => if (acc ++ (y :: r)).length ≤ big then Res.ok (.lst (acc ++ (y :: r))) S3 else .bad) Q := q3
                cases hq : e ρ1 S5 with
                | err c d S6 => rw [hq] at q3; exact q3.elim
                | bad => rw [hq] at q3; exact q3.elim
                | ok y S6 =>
                  rw [hq] at q3
                  intro m6 F6 v6 H6 pr6 le6 R6 rep6
                  have q4 : NAft o m2 F2 ρ σ W (compD l c t vs p e ρ (l.drop (i + 1)) S6 fun r S3 => if (acc ++ (y :: r)).length ≤ big then Res.ok (.lst (acc ++ (y :: r))) S3 else .bad) Q := q3
                  have hx : xs.length < sizeLine := by
                    rw [← racc.length]
                    -- the list is not longer than what the end allows
                    refine Nat.lt_of_not_le fun hge => ?_
                    have bad : ∀ (ds : List D) (S' : List Cell) (k : List D → List Cell → Res), (∀ r S', k r S' = .bad) → compD l c t vs p e ρ ds S' k = .bad := by
                      intro ds
                      induction ds with
                      | nil =>
                        intro S' k hk
                        unfold compD
                        by_cases h : Stay c l S'
                        · rw [if_pos h, hk]
                        · rw [if_neg h]
                      | cons d ds ih =>
                        intro S' k hk
                        unfold compD
                        by_cases h : Stay c l S'
                        · rw [if_pos h]
                          cases t d (wipeD ρ vs) with
                          | none => rfl
                          | some ρ' =>
                            dsimp only
                            cases p ρ' S' with
                            | ok b S1 =>
                              show selB b (bindN (e ρ' S1) fun y S2 => compD l c t vs p e ρ ds S2 fun r S3 => k (y :: r) S3) (compD l c t vs p e ρ ds S1 k) = .bad
                              cases b with
                              | bl b =>
                                cases b with
                                | true =>
                                  show bindN (e ρ' S1) (fun y S2 => compD l c t vs p e ρ ds S2 fun r S3 => k (y :: r) S3) = .bad
                                  cases e ρ' S1 with
                                  | ok y S2 => exact ih S2 _ fun r S3 => hk _ _
                                  | err _ _ _ => rfl
                                  | bad => rfl
                                | false => exact ih S1 k hk
                              | _ => rfl
                            | err _ _ _ => rfl
                            | bad => rfl
                        · rw [if_neg h]
                    rw [bad _ _ _ fun r S' => if_neg fun z => by
                      rw [List.length_append, List.length_cons] at z
                      have : big < sizeLine := by decide
                      omega] at q4
                    exact q4
                  refine ⟨xs, keepD R6, hx, m6, F6, S6, acc ++ [y], xs ++ [v6], (pr2.trans pr5).trans pr6, ((le2.trans le3).trans le5).trans le6, (R2.back R6.bare (pr5.trans pr6) ((le3.trans le5).trans le6)).sideU (sdK R6), sdK R6, upd_same, (racc.mono (pr5.trans pr6) ((le3.trans le5).trans le6)).append (.cons rep6 .nil), ?_⟩
                  have q5 := NAft.from (pr5.trans pr6) ((le3.trans le5).trans le6) q4
                  have ek : (fun (r : List D) (S3 : List Cell) => if (acc ++ (y :: r)).length ≤ big then Res.ok (.lst (acc ++ (y :: r))) S3 else .bad) = fun r S3 => if (acc ++ [y] ++ r).length ≤ big then Res.ok (.lst (acc ++ [y] ++ r)) S3 else .bad := by
                    funext r S3
                    rw [List.append_assoc]
                    rfl
                  rw [ek] at q5
                  exact q5
            | _ => exact q3.elim
      · rw [if_neg hst] at q2
        exact q2.elim
    · have ei : i = l.length := by omega
      subst ei
      rw [List.drop_length] at q2
      unfold compD at q2
      by_cases hst : Stay c l S2
      · rw [if_pos hst] at q2
        refine .inl ⟨(wk o.g m2 F2 S2 ρ σ H' pr2 le2 R2 hst l.length).1 (Nat.le_refl _), ?_⟩
        have q3 : NAft o m2 F2 ρ σ W (if (acc ++ []).length ≤ big then Res.ok (.lst (acc ++ [])) S2 else .bad) Q := q2
        rw [List.append_nil] at q3
        by_cases hb : acc.length ≤ big
        · rw [if_pos hb] at q3
          have Rd := R2.side (u := none) sd
          have z := q3 m2 F2 _ Dl (.lst xs) (List.prefix_refl m2) (Le.refl F2) Rd (if_pos rfl) (.lst racc)
          have eH : upd (fun b => if b = Dl then none else H' b) Dl (.lst xs) = H' := by
            funext b
            unfold upd
            by_cases hb : b = Dl
            · rw [if_pos hb, hb, hDl]
            · rw [if_neg hb]
              show (if b = Dl then none else H' b) = H' b
              rw [if_neg hb]
          rw [eH] at z
          exact z
        · rw [if_neg hb] at q3
          exact q3.elim
      · rw [if_neg hst] at q2
        exact q2.elim
theorem fn_lc (hc : X.calm = true) (hN : X.N.Nodup) (hi : PI X tg iter (tI o W s)) (ok : BlkOk X.N X.env.scope scope own) (hsl : ∀ j ∈ sl, j ∈ own.map (·.2))
    (hg : ∀ (s : Shared) (H : Hp) (C : Addr) (cl : List (Str × Addr)) (fp : List Addr), PG (X.blk s H scope (compEnvC scope cl C X.env) fp) tg (tGx o.K o.T t sl)) (ht : ∀ (s : Shared) (H : Hp) (C : Addr) (cl : List (Str × Addr)) (fp : List Addr), PTs (X.blk s H scope (compEnvC scope cl C X.env) fp) ifs (tTx o.K o.T p))
    (he : ∀ (s : Shared) (H : Hp) (C : Addr) (cl : List (Str × Addr)) (fp : List Addr), PE (X.blk s H scope (compEnvC scope cl C X.env) fp) elt (tEx o.K o.T e)) (hs : ∀ x, foldedSetIterable iter X.env x = pure x) :
    PE X (.ListComp elt [⟨tg, iter, ifs, 0⟩] scope pos) (tN o W (compF s t (own.map (·.2)) p e)) := PE.of (pe_lc hc hN hi ok hg ht he hs) (lc_imp hsl)
end


def keyD : D → Option Key
  | .int i => some (.inl i)
  | .str x => some (.inr x)
  | _ => none
def keysD : List D → Option (List Key)
  | [] => some []
  | d :: ds => match keyD d, keysD ds with
    | some k, some ks => some (k :: ks)
    | _, _ => none
def look {κ : Type} [DecidableEq κ] : List κ → List D → κ → Option D
  | k :: ks, d :: ds, j => if k = j then some d else look ks ds j
  | _, _, _ => none
def putKs {κ : Type} [DecidableEq κ] (ks : List κ) (j : κ) : List κ := if j ∈ ks then ks else ks ++ [j]
def putDs {κ : Type} [DecidableEq κ] : List κ → List D → κ → D → List D
  | k :: ks, d :: ds, j, v => if k = j then v :: ds else d :: putDs ks ds j v
  | _, ds, _, v => ds ++ [v]
section
variable {K : PySem.W.Frag} {T : Tab} {m : List Addr} {F H : Hp} {S : List Cell}
theorem rep_key {d : D} {v : V} {k : Key} (r : Rep K T m F d v) (h : keyD d = some k) : v = kV k := by
  cases d <;> cases h <;> cases r <;> rfl
theorem reps_keys : ∀ {ds : List D} {vs : List V} {ks : List Key}, Reps K T m F ds vs → keysD ds = some ks → vs = ks.map kV
  | [], _, _, r, h => by cases r; cases h; rfl
  | d :: ds, _, _, r, h => by
    cases r with
    | cons r rs =>
      unfold keysD at h
      split at h
      · rename_i k ks e1 e2
        cases h
        rw [List.map_cons, rep_key r e1, reps_keys rs e2]
      · cases h
theorem look_val {κ : Type} [DecidableEq κ] : ∀ {ks : List κ} {ds : List D} {xs : List V} {j : κ} {d : D}, Reps K T m F ds xs → look ks ds j = some d → ∃ v, valV (ks.zip xs) j = some v ∧ Rep K T m F d v
  | [], _, _, _, _, _, h => by cases h
  | _ :: _, [], _, _, _, _, h => by cases h
  | k :: ks, d0 :: ds, _, j, d, r, h => by
    cases r with
    | @cons _ _ v vs r rs =>
      unfold look at h
      by_cases e : k = j
      · rw [if_pos e] at h
        cases h
        exact ⟨v, valV_pos (p := (k, v)) e, r⟩
      · rw [if_neg e] at h
        obtain ⟨v', h1, h2⟩ := look_val rs h
        refine ⟨v', ?_, h2⟩
        show valV ((k, v) :: ks.zip vs) j = some v'
        rw [valV_neg (p := (k, v)) e]
        exact h1
theorem look_none {κ : Type} [DecidableEq κ] : ∀ {ks : List κ} {ds : List D} {xs : List V} {j : κ}, Reps K T m F ds xs → look ks ds j = none → valV (ks.zip xs) j = none
  | [], _, _, _, _, _ => rfl
  | _ :: _, [], _, _, r, _ => by
    cases r
    rfl
  | k :: ks, d0 :: ds, _, j, r, h => by
    cases r with
    | @cons _ _ v vs r rs =>
      unfold look at h
      by_cases e : k = j
      · rw [if_pos e] at h; cases h
      · rw [if_neg e] at h
        show valV ((k, v) :: ks.zip vs) j = none
        rw [valV_neg (p := (k, v)) e]
        exact look_none rs h
theorem look_rel {κ : Type} [DecidableEq κ] {ks : List κ} {ds : List D} {xs : List V} (j : κ) (r : Reps K T m F ds xs) : (look ks ds j).isSome = (valV (ks.zip xs) j).isSome := by
  cases h : look ks ds j with
  | none => rw [look_none r h]; rfl
  | some d =>
    obtain ⟨v, e, _⟩ := look_val r h
    rw [e]
    rfl
theorem map_off {κ : Type} [DecidableEq κ] {j : κ} {v : V} : ∀ {l : List (κ × V)}, j ∉ l.map (·.1) → l.map (fun kv => if kv.1 = j then (kv.1, v) else kv) = l
  | [], _ => rfl
  | p :: l, h => by
    rw [List.map_cons, List.mem_cons] at h
    have h1 : ¬ p.1 = j := fun e => h (.inl e.symm)
    rw [List.map_cons, if_neg h1, map_off (fun z => h (.inr z))]
/-- a store into a dict, keys once each -/
theorem put_zip {κ : Type} [DecidableEq κ] : ∀ {ks : List κ} {ds : List D} {xs : List V} {j : κ} {d : D} {v : V}, ks.Nodup → ks.length = xs.length → Reps K T m F ds xs → Rep K T m F d v →
    ∃ ys, putK (ks.zip xs) j v = (putKs ks j).zip ys ∧ (putKs ks j).length = ys.length ∧ Reps K T m F (putDs ks ds j d) ys := by
  intro ks ds xs j d v nd hl rs r
  have any_iff : ∀ (ks : List κ) (xs : List V), ks.length = xs.length → ((ks.zip xs).any fun kv => decide (kv.1 = j)) = decide (j ∈ ks) := by
    intro ks
    induction ks with
    | nil => intro xs _; simp
    | cons k ks ih =>
      intro xs hl
      cases xs with
      | nil => cases hl
      | cons x xs =>
        rw [List.zip_cons_cons, List.any_cons, ih xs (by simpa using hl)]
        by_cases e : k = j
        · subst e; simp
        · have e' : ¬ j = k := fun z => e z.symm
          simp [e, e']
  by_cases hj : j ∈ ks
  · have e1 : putKs ks j = ks := if_pos hj
    rw [e1]
    have e2 : putK (ks.zip xs) j v = (ks.zip xs).map fun kv => if kv.1 = j then (kv.1, v) else kv := by
      unfold putK
      rw [any_iff ks xs hl, decide_eq_true hj]
      rfl
    rw [e2]
    clear e1 e2
    induction ks generalizing ds xs with
    | nil => cases hj
    | cons k ks ih =>
      cases rs with
      | nil => cases hl
      | @cons d0 ds v0 vs r0 rs =>
        have hnd := List.nodup_cons.mp nd
        have hl' : ks.length = vs.length := by simpa using hl
        by_cases e : k = j
        · subst e
          refine ⟨v :: vs, ?_, by simpa using hl, ?_⟩
          · rw [List.zip_cons_cons, List.map_cons, if_pos rfl, List.zip_cons_cons]
            rw [map_off (fun h => hnd.1 (by
              obtain ⟨p, hp, e⟩ := List.mem_map.mp h
              have := (List.of_mem_zip (a := p.1) (b := p.2) hp).1
              rw [e] at this
              exact this))]
          · unfold putDs
            rw [if_pos rfl]
            exact .cons r rs
        · have hj' : j ∈ ks := by
            rcases List.mem_cons.mp hj with z | z
            · exact absurd z.symm e
            · exact z
          obtain ⟨ys, h1, h2, h3⟩ := ih hnd.2 hl' rs hj'
          refine ⟨v0 :: ys, ?_, by simpa using h2, ?_⟩
          · rw [List.zip_cons_cons, List.map_cons, if_neg e, h1, List.zip_cons_cons]
          · unfold putDs
            rw [if_neg e]
            exact .cons r0 h3
  · have e1 : putKs ks j = ks ++ [j] := if_neg hj
    rw [e1]
    have e2 : putK (ks.zip xs) j v = ks.zip xs ++ [(j, v)] := by
      unfold putK
      rw [any_iff ks xs hl, decide_eq_false hj]
      rfl
    refine ⟨xs ++ [v], ?_, by simp [hl], ?_⟩
    · rw [e2, List.zip_append hl]
      rfl
    · have e3 : ∀ (ks : List κ) (ds : List D), j ∉ ks → ks.length = ds.length → putDs ks ds j d = ds ++ [d] := by
        intro ks
        induction ks with
        | nil => intro ds _ _; cases ds <;> rfl
        | cons k ks ih =>
          intro ds h hl
          cases ds with
          | nil => cases hl
          | cons d0 ds =>
            have h' := not_or.mp (fun z => h (List.mem_cons.mpr z))
            unfold putDs
            rw [if_neg (fun z => h'.1 z.symm), ih ds h'.2 (by simpa using hl)]
            rfl
      rw [e3 ks ds hj (by rw [rs.length]; exact hl)]
      exact rs.append (.cons r .nil)
end
/-- what stands under a key: of a dict that stands still, or of one that may change -/
def getD' (S : List Cell) (x y : D) : Option (Option D) := match x with
  | .dct ks l => match keyD y with
    | some k => some (look ks l k)
    | none => none
  | .loc n => match S[n]? with
    | some (.dct ks l) => match keyD y with
      | some k => some (look ks l k)
      | none => none
    | some (.dtt ks l) => match y with
      | .tup t => match keysD t with
        | some k => some (look ks l k)
        | none => none
      | _ => none
    | _ => none
  | _ => none
theorem getD_rel {K : PySem.W.Frag} {T : Tab} {g : Gh} {m : List Addr} {F : Hp} {S : List Cell} {ρ : Slots} {σ : St} {H : Hp} {x y : D} {v u : V} {r : Option D} (R : Rel K T g m F S ρ σ H) (rx : Rep K T m F x v) (ry : Rep K T m F y u) (h : getD' S x y = some r) :
    ∃ a q, v = .ref a ∧ DGet H a u q ∧ q.isSome = r.isSome ∧ (∀ d, r = some d → ∃ w, q = some w ∧ Rep K T m F d w) ∧ IsD H a := by
  have fin : ∀ {κ : Type} [DecidableEq κ] {ks : List κ} {l : List D} {xs : List V} {k : κ}, Reps K T m F l xs → look ks l k = r → (valV (ks.zip xs) k).isSome = r.isSome ∧ ∀ d, r = some d → ∃ w, valV (ks.zip xs) k = some w ∧ Rep K T m F d w := by
    intro κ _ ks l xs k rs e
    subst e
    exact ⟨(look_rel k rs).symm, fun d e => look_val rs e⟩
  cases x with
  | dct ks l =>
    cases rx with
    | @dct a _ xs _ hF hl rs =>
      unfold getD' at h
      dsimp only at h
      split at h
      · rename_i k ek
        cases h
        obtain ⟨f1, f2⟩ := fin rs rfl
        exact ⟨a, _, rfl, .inl ⟨_, k, .inl (R.le _ _ hF), rep_key ry ek, rfl⟩, f1, f2, .inl ⟨_, .inl (R.le _ _ hF)⟩⟩
      · cases h
  | loc n =>
    cases rx with
    | @loc _ a hm =>
      unfold getD' at h
      dsimp only at h
      split at h
      · rename_i ks l e
        split at h
        · rename_i k ek
          cases h
          cases R.cell n a _ hm e with
          | dct q hl rs =>
            obtain ⟨f1, f2⟩ := fin rs rfl
            exact ⟨a, _, rfl, .inl ⟨_, k, .inl q, rep_key ry ek, rfl⟩, f1, f2, .inl ⟨_, .inl q⟩⟩
        · cases h
      · rename_i ks l e
        cases y with
        | tup t =>
          dsimp only at h
          split at h
          · rename_i k ek
            cases h
            cases ry with
            | @tup b ys _ hF rt =>
              cases R.cell n a _ hm e with
              | dtt q hl rs =>
                obtain ⟨f1, f2⟩ := fin rs rfl
                have ht : H b = some (.tup (k.map kV)) := by rw [← reps_keys rt ek]; exact R.le _ _ hF
                exact ⟨a, _, rfl, .inr ⟨_, k, b, .inl q, rfl, ht, rfl⟩, f1, f2, .inr ⟨_, .inl q⟩⟩
          · cases h
        | _ => cases h
      · cases h
  | _ => cases h

section
variable {X : Cx}
def rIxD : R2 := fun x y H Q => ∃ a v, x = .ref a ∧ DGet H a y (some v) ∧ Q v H
theorem ix_dict (hu : X.A.units + 1 < cLine) : IxR X rIxD := by
  intro value slice pins s σ H x y v u Q I rx ry h hs
  obtain ⟨a, z, rfl, hg, q⟩ := h
  obtain rfl : v = Value.ref a := rx
  have hT := dict_typeIs I hg
  unfold PyProof.Rows.subscriptTail
  refine wpAny_bind ?_
  rw [getitemInPython_of_ne hT.not_modules]
  refine wpAny_bind (wpAny_specialOf hT PySem.F.slot_dict_getitem.lookup ?_)
  have fin : wpAny (model X.prog X.w) X.A (subscripted slice false (.ref a) u) (fun r s₃ => wpAny (model X.prog X.w) X.A (letTemporaryGo value (.ref a) r >>= fun _ => pure r) (EP X pins σ Q) X.xe s₃) X.xe s := by
    rw [hs]
    exact wpAny_operating (d_getItem hu I hg ry fun w' s' I' rw' => wpAny_bind (wpAny_letTemporaryGo (wpAny_pure ⟨z, H, I', rw', q⟩)))
  first
    | exact wpAny_pure (wpAny_bind fin)
    | exact wpAny_bind (wpAny_pure (wpAny_bind fin))
    | exact wpAny_bind fin
end
def atD (l : List D) (i : Int) : Option D := (ixN l.length i).bind fun j => l[j]?
theorem atD_rel {K : PySem.W.Frag} {T : Tab} {m : List Addr} {F : Hp} {l : List D} {xs : List V} {i : Int} {d : D} (r : Reps K T m F l xs) (h : atD l i = some d) : ∃ v, atI xs i = some v ∧ Rep K T m F d v := by
  unfold atD at h
  unfold atI
  rw [← r.length]
  cases e : ixN l.length i with
  | none => rw [e] at h; cases h
  | some j =>
    rw [e] at h
    obtain ⟨v, h1, h2⟩ := r.get (i := j) h
    exact ⟨v, h1, h2⟩
/-- the items of a list, one of the text's own among them -/
def asLK (S : List Cell) (d : D) : Option (List D) := match d with
  | .klst l => some l
  | d => asL S d
theorem asLK_sq {K : PySem.W.Frag} {T : Tab} {g : Gh} {m : List Addr} {F : Hp} {S : List Cell} {ρ : Slots} {σ : St} {H : Hp} {d : D} {v : V} {l : List D} (R : Rel K T g m F S ρ σ H) (r : Rep K T m F d v) (h : asLK S d = some l) :
    ∃ a xs, v = .ref a ∧ SqL K H a xs ∧ Reps K T m F l xs := by
  cases d with
  | klst l' =>
    cases h
    cases r with
    | @klst a xs _ hq rs => exact ⟨a, xs, rfl, (Le.zero _).sqL hq, rs⟩
  | _ => exact asL_sq R r h
/-- the items of a list or a tuple -/
def asQ (S : List Cell) (d : D) : Option (List D) := match asLK S d with
  | some l => some l
  | none => asT d
theorem asQ_sq {K : PySem.W.Frag} {T : Tab} {g : Gh} {m : List Addr} {F : Hp} {S : List Cell} {ρ : Slots} {σ : St} {H : Hp} {d : D} {v : V} {l : List D} (R : Rel K T g m F S ρ σ H) (r : Rep K T m F d v) (h : asQ S d = some l) :
    ∃ a xs, v = .ref a ∧ (SqL K H a xs ∨ SqT K H a xs) ∧ Reps K T m F l xs := by
  unfold asQ at h
  split at h
  · rename_i l' e
    cases h
    obtain ⟨a, xs, e, q, rs⟩ := asLK_sq R r e
    exact ⟨a, xs, e, .inl q, rs⟩
  · obtain ⟨a, xs, e, q, _, rs⟩ := asT_sq R r h
    exact ⟨a, xs, e, .inr q, rs⟩
def ixQ (l : List D) (S : List Cell) : D → Res
  | .int i => match atD l i with
    | some d => .ok d S
    | none => .bad
  | _ => .bad
def ixS (z : Str) (S : List Cell) : D → Res
  | .int i => if z.length ≤ big then (match atI z.cps.toList i with
    | some c => .ok (.str ⟨#[c]⟩) S
    | none => .bad) else .bad
  | _ => .bad
def ixD (x y : D) (S : List Cell) : Res := match getD' S x y with
  | some (some d) => .ok d S
  | _ => .bad
def ixR (x y : D) (S : List Cell) : Res := match asQ S x with
  | some l => ixQ l S y
  | none => ixD x y S
/-- lists, tuples, texts, dicts -/
def opIx : Op2 := fun x y S => match x with
  | .str z => ixS z S y
  | x => ixR x y S
def rIxA (K : PySem.W.Frag) : R2 := fun x y H Q => rIx K x y H Q ∨ rIxD x y H Q
theorem ix_any {X : Cx} (hu : X.A.units + 1 < cLine) : IxR X (rIxA X.K) := ix_seq.or (ix_dict hu)
section
variable {o : Wo}
theorem ops_ix : OpS o opIx (rIxA o.K) := by
  intro W m F S ρ σ H x y v u Q R rx ry q
  have rest : Aft o m F ρ σ W (ixR x y S) Q → rIxA o.K v u H Q := by
    intro q
    unfold ixR at q
    split at q
    · rename_i l eL
      cases y with
      | int i =>
        cases ry
        unfold ixQ at q
        dsimp only at q
        split at q
        · rename_i d ed
          obtain ⟨a, xs, rfl, hq, rs⟩ := asQ_sq R rx eL
          obtain ⟨w, h1, h2⟩ := atD_rel rs ed
          rcases hq with hq | hq
          · exact .inl (.inl ⟨a, xs, i, w, rfl, rfl, hq, h1, Aft.done R h2 q⟩)
          · exact .inl (.inr (.inl ⟨a, xs, i, w, rfl, rfl, hq, h1, Aft.done R h2 q⟩))
        · exact q.elim
      | _ => exact q.elim
    · unfold ixD at q
      split at q
      · rename_i d ed
        obtain ⟨a, z, rfl, hg, _, h2, _⟩ := getD_rel R rx ry ed
        obtain ⟨w, rfl, rw'⟩ := h2 d rfl
        exact .inr ⟨a, w, rfl, hg, Aft.done R rw' q⟩
      · exact q.elim
  cases x with
  | str z =>
    cases y with
    | int i =>
      cases rx
      cases ry
      have q' : Aft o m F ρ σ W (if z.length ≤ big then (match atI z.cps.toList i with
        | some c => Res.ok (.str ⟨#[c]⟩) S
        | none => .bad) else .bad) Q := q
      by_cases hz : z.length ≤ big
      · rw [if_pos hz] at q'
        cases e : atI z.cps.toList i with
        | none => rw [e] at q'; exact q'.elim
        | some c =>
          rw [e] at q'
          exact .inl (.inr (.inr ⟨z, i, c, rfl, rfl, big_le hz, e, Aft.done R (.str _) q'⟩))
      · rw [if_neg hz] at q'
        exact q'.elim
    | _ => exact q.elim
  | _ => exact rest q
theorem fe_ix {X : Cx} {W : WX} {a b : Expr} {fa fb : Ev} {pos : Pos} (hK : X.K = o.K) (hu : X.A.units + 1 < cLine) (ha : PE X a (tE o W fa)) (hb : PE X b (tE o W fb)) (hs : PlainIx b) : PE X (.Subscript a b pos) (tE o W (binF opIx fa fb)) :=
  PE.of (pe_ix (ix_any hu) ha hb hs) (by rw [hK]; exact bin_imp ops_ix)

def cutD (l : List D) (lo hi : Option Int) : List D := (l.drop (HT.sIx l.length 0 lo)).take (HT.sIx l.length l.length hi - HT.sIx l.length 0 lo)
theorem cutD_rel {K : PySem.W.Frag} {T : Tab} {m : List Addr} {F : Hp} {l : List D} {xs : List V} {lo hi : Option Int} (r : Reps K T m F l xs) : Reps K T m F (cutD l lo hi) (cutV xs lo hi) := by
  unfold cutD cutV
  rw [r.length]
  exact (r.drop _).take _
/-- an optional part -/
def partF (p : Option Ev) (ρ : Slots) (S : List Cell) (k : Option Int → List Cell → Res) : Res := match p with
  | none => k none S
  | some f => (f ρ S).bind fun x S1 => match x with
    | .int i => k (some i) S1
    | _ => .bad
def tPO (o : Wo) (W : WX) : Option Ev → TO
  | none => tNoPart
  | some f => tPart (tE o W f)
theorem part_imp {W : WX} {p : Option Ev} {m : List Addr} {F : Hp} {S : List Cell} {ρ : Slots} {σ : St} {H : Hp} {k : Option Int → List Cell → Res} {Q : VK} {Z : Option Int → Hp → Prop}
    (R : Rel o.K o.T o.g m F S ρ σ H) (q : Aft o m F ρ σ W (partF p ρ S k) Q) (z : ∀ m1 F1 S1 i H1, m <+: m1 → Le F F1 → Rel o.K o.T o.g m1 F1 S1 ρ σ H1 → Aft o m1 F1 ρ σ W (k i S1) Q → Z i H1) : tPO o W p σ H Z := by
  cases p with
  | none => exact z m F S none H (List.prefix_refl m) (Le.refl F) R q
  | some f =>
    refine ⟨m, F, S, ρ, R, (Aft.bind q).map ?_⟩
    rintro x H1 ⟨m1, F1, S1, d1, p1, e1, R1, rep1, q1⟩
    cases d1 with
    | int i =>
      cases rep1
      exact ⟨i, rfl, z m1 F1 S1 (some i) H1 p1 e1 R1 q1⟩
    | _ => exact q1.elim
def slT (x : D) (l : List D) (lo hi : Option Int) (S : List Cell) : Res := if HT.sIx l.length 0 lo = 0 ∧ HT.sIx l.length l.length hi = l.length then .ok x S else .ok (.tup (cutD l lo hi)) S
def slR (x : D) (lo hi : Option Int) (S : List Cell) : Res := match asLK S x with
  | some l => .ok (.lst (cutD l lo hi)) S
  | none => match asT x with
    | some l => slT x l lo hi S
    | none => .bad
def opSl (x : D) (lo hi : Option Int) (S : List Cell) : Res := match x with
  | .str z => if z.length ≤ big then .ok (.str (cutS z lo hi)) S else .bad
  | x => slR x lo hi S
def slF (f : Ev) (lo hi : Option Ev) : Ev := fun ρ S => (f ρ S).bind fun x S1 => partF lo ρ S1 fun i S2 => partF hi ρ S2 fun j S3 => opSl x i j S3
def rSl (K : PySem.W.Frag) : V → Option Int → Option Int → Hp → VK → Prop := fun x lo hi H Q => rSlS x lo hi H Q ∨ (rSlL K x lo hi H Q ∨ rSlA K x lo hi H Q)
theorem sl_any {X : Cx} : SlR X (rSl X.K) := sl_str.or (sl_list.or sl_tupA)
theorem fe_sl {X : Cx} {W : WX} {e : Expr} {f : Ev} {lo hi : Option Expr} {fl fh : Option Ev} {pos p2 : Pos} (hK : X.K = o.K) (he : PE X e (tE o W f)) (hl : PO X lo (tPO o W fl)) (hh : PO X hi (tPO o W fh)) : PE X (.Subscript e (.Slice lo hi none p2) pos) (tE o W (slF f fl fh)) :=
  PE.of (pe_slice sl_any he hl hh) fun σ H Q ⟨m, F, S, ρ, R, q⟩ => by
  refine ⟨m, F, S, ρ, R, (Aft.bind q).map ?_⟩
  rintro x H1 ⟨m1, F1, S1, d1, p1, e1, R1, rep1, q1⟩
  refine part_imp R1 q1 fun m2 F2 S2 i H2 p2 e2 R2 q2 => part_imp R2 q2 fun m3 F3 S3 j H3 p3 e3 R3 q3 => ?_
  have rep := rep1.mono (p2.trans p3) (e2.trans e3)
  rw [hK]
  have rest : Aft o m3 F3 ρ σ W (slR d1 i j S3) Q → rSl o.K x i j H3 Q := by
    intro q
    unfold slR at q
    split at q
    · rename_i l eL
      obtain ⟨a, xs, rfl, hq, rs⟩ := asLK_sq R3 rep eL
      exact .inr (.inl ⟨a, xs, rfl, hq, fun p hp => Aft.new R3 hp (.lst (.inl upd_same) ((cutD_rel rs).mono (List.prefix_refl m3) (Le.new (R3.le.none hp)))) q⟩)
    · split at q
      · rename_i l eT
        obtain ⟨a, xs, rfl, hq, hf, rs⟩ := asT_sq R3 rep eT
        unfold slT at q
        refine .inr (.inr ⟨a, xs, rfl, hq, fun hw => ?_, fun hw p hp => ?_⟩)
        · rw [← rs.length] at hw
          rw [if_pos hw] at q
          exact Aft.done R3 rep q
        · rw [← rs.length] at hw
          rw [if_neg hw] at q
          exact Aft.new R3 hp (.tup upd_same ((cutD_rel rs).mono (List.prefix_refl m3) (Le.new (R3.le.none hp)))) q
      · exact q.elim
  cases d1 with
  | str z =>
    cases rep
    have q' : Aft o m3 F3 ρ σ W (if z.length ≤ big then Res.ok (.str (cutS z i j)) S3 else .bad) Q := q3
    by_cases hz : z.length ≤ big
    · rw [if_pos hz] at q'
      exact .inl ⟨z, rfl, big_le hz, Aft.done R3 (.str _) q'⟩
    · rw [if_neg hz] at q'
      exact q'.elim
  | _ => exact rest q3
/-- x[::-1] of a list -/
def revF (f : Ev) : Ev := fun ρ S => (f ρ S).bind fun x S1 => match asL S1 x with
  | some l => .ok (.lst l.reverse) S1
  | none => .bad
theorem fe_rev {X : Cx} {W : WX} {e : Expr} {f : Ev} {k : Nat} {p1 p2 p3 pos : Pos} (hK : X.K = o.K) (he : PE X e (tE o W f)) : PE X (.Subscript e (.Slice none none (some (.UnaryOp .USub (.Constant (.int 1) k p1) p2)) p3) pos) (tE o W (revF f)) :=
  PE.of (pe_revL he) fun σ H Q ⟨m, F, S, ρ, R, q⟩ => by
  refine ⟨m, F, S, ρ, R, (Aft.bind q).map ?_⟩
  rintro x H1 ⟨m1, F1, S1, d1, p1, e1, R1, rep1, q1⟩
  split at q1
  · rename_i l eL
    obtain ⟨a, xs, rfl, hq, rs⟩ := asL_sq R1 rep1 eL
    refine ⟨a, xs, rfl, by rw [hK]; exact hq, fun p hp => ?_⟩
    exact Aft.new R1 hp (.lst (.inl upd_same) (rs.reverse.mono (List.prefix_refl m1) (Le.new (R1.le.none hp)))) q1
  · exact q1.elim

abbrev OpN := List D → List Cell → Res
def CalS (o : Wo) (op : OpN) (r : List V → Hp → VK → Prop) : Prop := ∀ (W : WX) m F S ρ σ H ds vs Q, Rel o.K o.T o.g m F S ρ σ H → Reps o.K o.T m F ds vs → Aft o m F ρ σ W (op ds S) Q → r vs H Q
/-- .. that makes a new thing -/
def CalN (o : Wo) (op : OpN) (r : List V → Hp → VK → Prop) : Prop := ∀ (W : WX) m F S ρ σ H ds vs Q, Rel o.K o.T o.g m F S ρ σ H → Reps o.K o.T m F ds vs → NAft o m F ρ σ W (op ds S) Q → r vs H Q
theorem fe_cb {X : Cx} {W : WX} {e : Expr} {op : OpN} {r : List V → Hp → VK → Prop} {fs : List Ev} (h : PE X e (tCB r (tAs o W fs))) (hc : CalS o op r) : PE X e (tE o W (callF op fs)) :=
  PE.of h fun σ H Q ⟨m, F, S, ρ, R, q⟩ => args_imp R q fun m1 F1 S1 ds vs H1 p1 e1 R1 reps hl q1 => hc W m1 F1 S1 ρ σ H1 ds vs Q R1 reps q1
theorem fn_cb {X : Cx} {W : WX} {e : Expr} {op : OpN} {r : List V → Hp → VK → Prop} {fs : List Ev} (h : PE X e (tCB r (tAs o W fs))) (hc : CalN o op r) : PE X e (tN o W (callF op fs)) :=
  PE.of h fun σ H Q ⟨m, F, S, ρ, R, q⟩ => args_impN R q fun m1 F1 S1 ds vs H1 p1 e1 R1 reps hl q1 => hc W m1 F1 S1 ρ σ H1 ds vs Q R1 reps q1
/-- len -/
def lenQ (x : D) (S : List Cell) : Res := match asQ S x with
  | some l => .ok (.int (l.length : Nat)) S
  | none => .bad
def bLen : OpN := fun ds S => match ds with
  | [.str z] => if z.length ≤ big then .ok (.int z.length) S else .bad
  | [x] => lenQ x S
  | _ => .bad
theorem cs_len : CalS o bLen (fun xs H Q => ∃ x n, xs = [x] ∧ LenV o.K x H n ∧ Q (.int n) H) := by
  intro W m F S ρ σ H ds vs Q R rs q
  cases rs with
  | nil => exact q.elim
  | @cons d ds v vs r rs =>
    cases rs with
    | cons _ _ => cases d <;> exact q.elim
    | nil =>
      have rest : Aft o m F ρ σ W (lenQ d S) Q → ∃ x n, [v] = [x] ∧ LenV o.K x H n ∧ Q (.int n) H := by
        intro q
        unfold lenQ at q
        split at q
        · rename_i l eL
          obtain ⟨a, xs, rfl, hq, rl⟩ := asQ_sq R r eL
          rcases hq with hq | hq
          · exact ⟨_, l.length, rfl, .inl ⟨xs, hq, rl.length⟩, Aft.done R (.int _) q⟩
          · exact ⟨_, l.length, rfl, .inr ⟨xs, hq, rl.length⟩, Aft.done R (.int _) q⟩
        · exact q.elim
      cases d with
      | str z =>
        cases r
        have q' : Aft o m F ρ σ W (if z.length ≤ big then Res.ok (.int z.length) S else .bad) Q := q
        by_cases hz : z.length ≤ big
        · rw [if_pos hz] at q'
          exact ⟨_, z.length, rfl, ⟨big_le hz, rfl⟩, Aft.done R (.int _) q'⟩
        · rw [if_neg hz] at q'
          exact q'.elim
      | _ => exact rest q
def b1I (f : Int → Int) : OpN := fun ds S => match ds with
  | [.int i] => .ok (.int (f i)) S
  | _ => .bad
def bAbs : OpN := b1I fun i => if i < 0 then -i else i
theorem cs_abs : CalS o bAbs (fun xs H Q => ∃ i, xs = [.int i] ∧ Q (.int (if i < 0 then -i else i)) H) := by
  intro W m F S ρ σ H ds vs Q R rs q
  match ds, rs, q with
  | [.int i], .cons r .nil, q => cases r; exact ⟨i, rfl, Aft.done R (.int _) q⟩
def b2I (f : Int → Int → Int) : OpN := fun ds S => match ds with
  | [.int i, .int j] => .ok (.int (f i j)) S
  | _ => .bad
def bMax2 : OpN := b2I fun i j => if j > i then j else i
def bMin2 : OpN := b2I fun i j => if j < i then j else i
theorem cs_2I {f : Int → Int → Int} : CalS o (b2I f) (fun xs H Q => ∃ i j, xs = [.int i, .int j] ∧ Q (.int (f i j)) H) := by
  intro W m F S ρ σ H ds vs Q R rs q
  match ds, rs, q with
  | [.int i, .int j], .cons r (.cons r' .nil), q => cases r; cases r'; exact ⟨i, j, rfl, Aft.done R (.int _) q⟩
/-- int of an int, of a bool -/
def bInt : OpN := fun ds S => match ds with
  | [.int i] => .ok (.int i) S
  | [.bl k] => .ok (.int (if k then 1 else 0)) S
  | _ => .bad
theorem cs_int : CalS o bInt (fun xs H Q => (∃ i, xs = [.int i] ∧ Q (.int i) H) ∨ ∃ k, xs = [.bl k] ∧ Q (.int (if k then 1 else 0)) H) := by
  intro W m F S ρ σ H ds vs Q R rs q
  match ds, rs, q with
  | [.int i], .cons r .nil, q => cases r; exact .inl ⟨i, rfl, Aft.done R (.int _) q⟩
  | [.bl k], .cons r .nil, q => cases r; exact .inr ⟨k, rfl, Aft.done R (.int _) q⟩
/-- list(..), tuple(..) of a list or a tuple -/
def bList : OpN := fun ds S => match ds with
  | [x] => match asQ S x with
    | some l => .ok (.lst l) S
    | none => .bad
  | _ => .bad
theorem cn_list : CalN o bList (fun xs H Q => ∃ p ys, xs = [.ref p] ∧ (SqL o.K H p ys ∨ SqT o.K H p ys) ∧ ∀ l, H l = none → Q (.ref l) (upd H l (.lst ys))) := by
  intro W m F S ρ σ H ds vs Q R rs q
  match ds, rs, q with
  | [d], .cons r .nil, q =>
    unfold bList at q
    dsimp only at q
    split at q
    · rename_i l eL
      obtain ⟨a, xs, rfl, hq, rl⟩ := asQ_sq R r eL
      exact ⟨a, xs, rfl, hq, fun p hp => q m F H p _ (List.prefix_refl m) (Le.refl F) R hp (.lst rl)⟩
    · exact q.elim
def tupR (x : D) (S : List Cell) : Res := match asL S x with
  | some l => .ok (.tup l) S
  | none => match asT x with
    | some _ => .ok x S
    | none => .bad
def bTuple : OpN := fun ds S => match ds with
  | [x] => tupR x S
  | _ => .bad
theorem cs_tuple : CalS o bTuple (fun xs H Q => ∃ p ys, xs = [.ref p] ∧ ((SqL o.K H p ys ∧ ∀ l, H l = none → Q (.ref l) (upd H l (.tup ys))) ∨ (SqT o.K H p ys ∧ Q (.ref p) H))) := by
  intro W m F S ρ σ H ds vs Q R rs q
  match ds, rs, q with
  | [d], .cons r .nil, q =>
    have q' : Aft o m F ρ σ W (tupR d S) Q := q
    unfold tupR at q'
    split at q'
    · rename_i l eL
      obtain ⟨a, xs, rfl, hq, rl⟩ := asL_sq R r eL
      exact ⟨a, xs, rfl, .inl ⟨hq, fun p hp => Aft.new R hp (.tup upd_same (rl.mono (List.prefix_refl m) (Le.new (R.le.none hp)))) q'⟩⟩
    · split at q'
      · rename_i l eT
        obtain ⟨a, xs, rfl, hq, _, rl⟩ := asT_sq R r eT
        exact ⟨a, xs, rfl, .inr ⟨hq, Aft.done R r q'⟩⟩
      · exact q'.elim
/-- all, any of a list of truth values -/
def blsD : List D → Option (List Bool)
  | [] => some []
  | .bl b :: ds => (blsD ds).map (b :: ·)
  | _ => none
theorem blsD_rel {K : PySem.W.Frag} {T : Tab} {m : List Addr} {F : Hp} : ∀ {l : List D} {xs : List V} {bs : List Bool}, Reps K T m F l xs → blsD l = some bs → xs = bs.map V.bl
  | [], _, _, .nil, h => by cases h; rfl
  | d :: l, _, bs, .cons r rs, h => by
    cases d with
    | bl b =>
      unfold blsD at h
      obtain ⟨bs', h1, rfl⟩ := Option.map_eq_some_iff.mp h
      cases r
      rw [List.map_cons, blsD_rel rs h1]
    | _ => cases h
def bBls (f : List Bool → Bool) : OpN := fun ds S => match ds with
  | [x] => match asL S x with
    | some l => match blsD l with
      | some bs => .ok (.bl (f bs)) S
      | none => .bad
    | none => .bad
  | _ => .bad
theorem cs_bls {f : List Bool → Bool} : CalS o (bBls f) (fun vs H Q => ∃ (a : Addr) (bs : List Bool), vs = [V.ref a] ∧ SqL o.K H a (bs.map V.bl) ∧ Q (.bl (f bs)) H) := by
  intro W m F S ρ σ H ds vs Q R rs q
  match ds, rs, q with
  | [d], .cons r .nil, q =>
    have q' : Aft o m F ρ σ W (match asL S d with
      | some l => match blsD l with
        | some bs => Res.ok (.bl (f bs)) S
        | none => .bad
      | none => .bad) Q := q
    split at q'
    · rename_i l eL
      split at q'
      · rename_i bs eb
        obtain ⟨a, xs, rfl, hq, rl⟩ := asL_sq R r eL
        rw [blsD_rel rl eb] at hq
        exact ⟨a, bs, rfl, hq, Aft.done R (.bl _) q'⟩
      · exact q'.elim
    · exact q'.elim
/-- sorted of texts -/
def strsD : List D → Option (List Str)
  | [] => some []
  | .str b :: ds => (strsD ds).map (b :: ·)
  | _ => none
theorem strsD_rel {K : PySem.W.Frag} {T : Tab} {m : List Addr} {F : Hp} : ∀ {l : List D} {xs : List V} {bs : List Str}, Reps K T m F l xs → strsD l = some bs → xs = bs.map V.str
  | [], _, _, .nil, h => by cases h; rfl
  | d :: l, _, bs, .cons r rs, h => by
    cases d with
    | str b =>
      unfold strsD at h
      obtain ⟨bs', h1, rfl⟩ := Option.map_eq_some_iff.mp h
      cases r
      rw [List.map_cons, strsD_rel rs h1]
    | _ => cases h
theorem reps_strs {K : PySem.W.Frag} {T : Tab} {m : List Addr} {F : Hp} : ∀ (l : List Str), Reps K T m F (l.map D.str) (l.map V.str)
  | [] => .nil
  | s :: l => .cons (.str s) (reps_strs l)
end


def flatD : D → Option V
  | .non => some .non
  | .bl b => some (.bl b)
  | .int i => some (.int i)
  | .str x => some (.str x)
  | _ => none
def flatsD : List D → Option (List V)
  | [] => some []
  | d :: ds => match flatD d, flatsD ds with
    | some v, some vs => some (v :: vs)
    | _, _ => none
section
variable {K : PySem.W.Frag} {T : Tab} {m : List Addr} {F : Hp}
theorem flatD_rel {d : D} {v w : V} (r : Rep K T m F d v) (h : flatD d = some w) : v = w ∧ flatV w = true := by
  cases d <;> cases h <;> cases r <;> exact ⟨rfl, rfl⟩
theorem flatsD_rel : ∀ {l : List D} {xs ws : List V}, Reps K T m F l xs → flatsD l = some ws → xs = ws ∧ ws.all flatV = true
  | [], _, _, .nil, h => by cases h; exact ⟨rfl, rfl⟩
  | d :: l, _, _, .cons r rs, h => by
    unfold flatsD at h
    split at h
    · rename_i v vs e1 e2
      cases h
      obtain ⟨a1, a2⟩ := flatD_rel r e1
      obtain ⟨b1, b2⟩ := flatsD_rel rs e2
      exact ⟨by rw [a1, b1], by rw [List.all_cons, a2, b2]; rfl⟩
    · cases h
end
def inQ (x y : D) (S : List Cell) : Option Bool := match asQ S y with
  | some l => match flatD x, flatsD l with
    | some v, some vs => some (inV v vs)
    | _, _ => none
  | none => none
/-- one sign in a text; a plain value in a list or a tuple of such -/
def inR (x y : D) (S : List Cell) : Option Bool := match y with
  | .str z => match x with
    | .str u => match u.cps.toList with
      | [c] => some (decide (c ∈ z.cps.toList))
      | _ => none
    | _ => none
  | y => inQ x y S
def opIn : Op2 := fun x y S => match inR x y S with
  | some b => .ok (.bl b) S
  | none => .bad
def opNotIn : Op2 := fun x y S => match inR x y S with
  | some b => .ok (.bl (!b)) S
  | none => .bad
def rInS : R2 := fun x y H Q => ∃ (c : Nat) (z : Str), x = .str ⟨#[c]⟩ ∧ y = .str z ∧ Q (.bl (decide (c ∈ z.cps.toList))) H
def rNotInS : R2 := fun x y H Q => ∃ (c : Nat) (z : Str), x = .str ⟨#[c]⟩ ∧ y = .str z ∧ Q (.bl (!decide (c ∈ z.cps.toList))) H
def rInA (K : PySem.W.Frag) : R2 := fun x y H Q => rInS x y H Q ∨ rIn K false x y H Q
def rNotInA (K : PySem.W.Frag) : R2 := fun x y H Q => rNotInS x y H Q ∨ rIn K true x y H Q
theorem op_inA {X : Cx} : OpR X (compareOp .In) (rInA X.K) := op_in_sign.or op_in_seq
theorem op_notInA {X : Cx} : OpR X (compareOp .NotIn) (rNotInA X.K) := op_notIn_sign.or op_notIn_seq
theorem one_sign {u : Str} {c : Nat} (h : u.cps.toList = [c]) : u = ⟨#[c]⟩ := by
  cases u with
  | mk cps =>
    have e : cps = #[c] := by
      apply Array.ext'
      exact h
    rw [e]
section
variable {o : Wo}
theorem inR_rel {m : List Addr} {F : Hp} {S : List Cell} {ρ : Slots} {σ : St} {H : Hp} {x y : D} {v u : V} {b : Bool} (R : Rel o.K o.T o.g m F S ρ σ H) (rx : Rep o.K o.T m F x v) (ry : Rep o.K o.T m F y u) (h : inR x y S = some b) :
    (∃ (c : Nat) (z : Str), v = .str ⟨#[c]⟩ ∧ u = .str z ∧ b = decide (c ∈ z.cps.toList)) ∨ ∃ p xs, u = .ref p ∧ (SqL o.K H p xs ∨ SqT o.K H p xs) ∧ flatV v = true ∧ xs.all flatV = true ∧ b = inV v xs := by
  have rest : inQ x y S = some b → ∃ p xs, u = .ref p ∧ (SqL o.K H p xs ∨ SqT o.K H p xs) ∧ flatV v = true ∧ xs.all flatV = true ∧ b = inV v xs := by
    intro h
    unfold inQ at h
    split at h
    · rename_i l el
      split at h
      · rename_i w ws e1 e2
        cases h
        obtain ⟨a, xs, rfl, hq, rs⟩ := asQ_sq R ry el
        obtain ⟨f1, f2⟩ := flatD_rel rx e1
        obtain ⟨g1, g2⟩ := flatsD_rel rs e2
        subst f1
        subst g1
        exact ⟨a, _, rfl, hq, f2, g2, rfl⟩
      · cases h
    · cases h
  cases y with
  | str z =>
    cases x with
    | str s =>
      unfold inR at h
      dsimp only at h
      split at h
      · rename_i c ec
        cases h
        cases rx
        cases ry
        exact .inl ⟨c, z, by rw [one_sign ec], rfl, rfl⟩
      · cases h
    | _ => cases h
  | _ => exact .inr (rest h)
theorem ops_in : OpS o opIn (rInA o.K) := by
  intro W m F S ρ σ H x y v u Q R rx ry q
  unfold opIn at q
  split at q
  · rename_i b e
    rcases inR_rel R rx ry e with ⟨c, z, rfl, rfl, rfl⟩ | ⟨p, xs, rfl, h1, h2, h3, rfl⟩
    · exact .inl ⟨c, z, rfl, rfl, Aft.done R (.bl _) q⟩
    · exact .inr ⟨p, xs, rfl, h1, h2, h3, Aft.done R (.bl _) q⟩
  · exact q.elim
theorem ops_notIn : OpS o opNotIn (rNotInA o.K) := by
  intro W m F S ρ σ H x y v u Q R rx ry q
  unfold opNotIn at q
  split at q
  · rename_i b e
    rcases inR_rel R rx ry e with ⟨c, z, rfl, rfl, rfl⟩ | ⟨p, xs, rfl, h1, h2, h3, rfl⟩
    · exact .inl ⟨c, z, rfl, rfl, Aft.done R (.bl _) q⟩
    · exact .inr ⟨p, xs, rfl, h1, h2, h3, Aft.done R (.bl _) q⟩
  · exact q.elim

def MtS (o : Wo) (op : D → List D → List Cell → Res) (r : V → List V → Hp → VK → Prop) : Prop := ∀ (W : WX) m F S ρ σ H x v ds vs Q, Rel o.K o.T o.g m F S ρ σ H → Rep o.K o.T m F x v → Reps o.K o.T m F ds vs → Aft o m F ρ σ W (op x ds S) Q → r v vs H Q
inductive Ty where
  | str | lst | dct | tup
def tyN : Ty → String
  | .str => "str" | .lst => "list" | .dct => "dict" | .tup => "tuple"
def tyD (S : List Cell) : Ty → D → Bool
  | .str, .str _ => true
  | .lst, x => (asL S x).isSome
  | .dct, .loc n => match S[n]? with
    | some (.dct _ _) => true
    | some (.dtt _ _) => true
    | _ => false
  | .dct, .dct _ _ => true
  | _, _ => false
theorem tyD_rel {m : List Addr} {F : Hp} {S : List Cell} {ρ : Slots} {σ : St} {H : Hp} {x : D} {v : V} {t : Ty} (R : Rel o.K o.T o.g m F S ρ σ H) (r : Rep o.K o.T m F x v) (h : tyD S t x = true) : tyV o.K (tyN t) v H := by
  cases t with
  | str =>
    cases x with
    | str s => cases r; rfl
    | _ => cases h
  | lst =>
    have h' : (asL S x).isSome = true := by cases x <;> exact h
    obtain ⟨l, e⟩ := Option.isSome_iff_exists.mp h'
    obtain ⟨a, xs, rfl, hq, _⟩ := asL_sq R r e
    exact .inl ⟨rfl, xs, hq⟩
  | dct =>
    cases x with
    | loc n =>
      cases r with
      | @loc _ a hm =>
        unfold tyD at h
        dsimp only at h
        split at h
        · rename_i ks l e
          cases R.cell n a _ hm e with
          | dct q _ _ => exact .inr (.inr (.inl ⟨rfl, .inl ⟨_, q⟩⟩))
        · rename_i ks l e
          cases R.cell n a _ hm e with
          | dtt q _ _ => exact .inr (.inr (.inl ⟨rfl, .inr ⟨_, q⟩⟩))
        · cases h
    | dct ks l =>
      cases r with
      | dct q _ _ => exact .inr (.inr (.inl ⟨rfl, .inl ⟨_, R.le _ _ q⟩⟩))
    | _ => cases h
  | tup => cases x <;> cases h
def methF (t : Ty) (op : D → List D → List Cell → Res) (fo : Ev) (fs : List Ev) : Ev := fun ρ S => (fo ρ S).bind fun x S1 => if tyD S1 t x = true then evs fs ρ S1 (op x) else .bad
theorem fe_bm {X : Cx} {W : WX} {e : Expr} {op : D → List D → List Cell → Res} {r : V → List V → Hp → VK → Prop} {t : Ty} {fo : Ev} {fs : List Ev} (hK : X.K = o.K) (h : PE X e (tBM X.K (tyN t) r (tE o W fo) (tAs o W fs))) (hm : MtS o op r) : PE X e (tE o W (methF t op fo fs)) :=
  PE.of h fun σ H Q ⟨m, F, S, ρ, R, q⟩ => by
  refine ⟨m, F, S, ρ, R, (Aft.bind q).map ?_⟩
  rintro x H1 ⟨m1, F1, S1, d1, p1, e1, R1, rep1, q1⟩
  by_cases ht : tyD S1 t d1 = true
  · rw [if_pos ht] at q1
    refine ⟨by rw [hK]; exact tyD_rel R1 rep1 ht, args_imp R1 q1 fun m2 F2 S2 ds vs H2 p2 e2 R2 reps hl q2 => ?_⟩
    exact hm W m2 F2 S2 ρ σ H2 d1 x ds vs Q R2 (rep1.mono p2 e2) reps q2
  · rw [if_neg ht] at q1
    exact q1.elim
theorem fe_bm0 {X : Cx} {W : WX} {e : Expr} {op : D → List D → List Cell → Res} {r : V → List V → Hp → VK → Prop} {t : Ty} {fo : Ev} (hK : X.K = o.K) (h : PE X e (tBM0 X.K (tyN t) r (tE o W fo))) (hm : MtS o op r) : PE X e (tE o W (methF t op fo [])) :=
  PE.of h fun σ H Q ⟨m, F, S, ρ, R, q⟩ => by
  refine ⟨m, F, S, ρ, R, (Aft.bind q).map ?_⟩
  rintro x H1 ⟨m1, F1, S1, d1, p1, e1, R1, rep1, q1⟩
  by_cases ht : tyD S1 t d1 = true
  · rw [if_pos ht] at q1
    exact ⟨by rw [hK]; exact tyD_rel R1 rep1 ht, hm W m1 F1 S1 ρ σ H1 d1 x [] [] Q R1 rep1 .nil q1⟩
  · rw [if_neg ht] at q1
    exact q1.elim
/-- the list at a place of the store -/
def onL (x : D) (S : List Cell) (k : Nat → List D → Res) : Res := match x with
  | .loc n => match S[n]? with
    | some (.lst l) => k n l
    | _ => .bad
  | _ => .bad
theorem onL_rel {m : List Addr} {F : Hp} {S : List Cell} {ρ : Slots} {σ : St} {H : Hp} {W : WX} {x : D} {v : V} {k : Nat → List D → Res} {Q : VK} (R : Rel o.K o.T o.g m F S ρ σ H) (r : Rep o.K o.T m F x v) (q : Aft o m F ρ σ W (onL x S k) Q) :
    ∃ n l a xs, v = .ref a ∧ m[n]? = some a ∧ S[n]? = some (.lst l) ∧ H a = some (.lst xs) ∧ Reps o.K o.T m F l xs ∧ Aft o m F ρ σ W (k n l) Q := by
  cases x with
  | loc n =>
    cases r with
    | @loc _ a hm =>
      unfold onL at q
      dsimp only at q
      split at q
      · rename_i l e
        cases R.cell n a _ hm e with
        | lst hq rs => exact ⟨n, l, a, _, rfl, hm, e, hq, rs, q⟩
      · exact q.elim
  | _ => exact q.elim
def mAppend : D → List D → List Cell → Res := fun x ds S => match ds with
  | [d] => onL x S fun n l => if l.length ≤ big then .ok .non (S.set n (.lst (l ++ [d]))) else .bad
  | _ => .bad
theorem Aft.put {m : List Addr} {F : Hp} {S : List Cell} {ρ : Slots} {σ : St} {H : Hp} {W : WX} {Q : VK} {n : Nat} {a : Addr} {u : HO} {c : Cell} {d : D} {v : V} (R : Rel o.K o.T o.g m F S ρ σ H) (hm : m[n]? = some a) (hc : CellOk o.K o.T m F (upd H a u) a c) (r : Rep o.K o.T m F d v)
    (q : Aft o m F ρ σ W (.ok d (S.set n c)) Q) : Q v (upd H a u) := q m F v _ (List.prefix_refl m) (Le.refl F) (R.put hm hc) r
theorem ms_append : MtS o mAppend rAppend := by
  intro W m F S ρ σ H x v ds vs Q R r rs q
  match ds, rs, q with
  | [d], .cons rd .nil, q =>
    obtain ⟨n, l, a, xs, rfl, hm, e, hq, rl, q⟩ := onL_rel R r q
    by_cases hl : l.length ≤ big
    · rw [if_pos hl] at q
      refine ⟨a, xs, _, rfl, rfl, hq, ?_, Aft.put R hm (.lst upd_same (rl.append (.cons rd .nil))) .non q⟩
      rw [← rl.length]
      exact Nat.lt_of_le_of_lt hl (by decide)
    · rw [if_neg hl] at q
      exact q.elim
def mExtend : D → List D → List Cell → Res := fun x ds S => match ds with
  | [d] => match asL S d with
    | some k => onL x S fun n l => if l.length + k.length ≤ big then .ok .non (S.set n (.lst (l ++ k))) else .bad
    | none => .bad
  | _ => .bad
def rExtendL : V → List V → Hp → VK → Prop := fun x vs H Q => ∃ l b xs zs, x = .ref l ∧ vs = [.ref b] ∧ H l = some (.lst xs) ∧ Rd H b (.lst zs) ∧ xs.length + zs.length ≤ sizeLine ∧ Q .non (upd H l (.lst (xs ++ zs)))
theorem mt_extendL {X : Cx} : MtR X "list.extend" rExtendL := by
  intro pins s σ H x vs v us Q I rx rv h
  obtain ⟨l, b, xs, zs, rfl, rfl, hH, hB, hz, q⟩ := h
  cases rx
  obtain ⟨u, rfl, ru⟩ := rv.one
  cases ru
  obtain ⟨z, its, n, r, hl, e⟩ := I.lstM hH
  obtain ⟨z2, its2, n2, r2, hl2, e2⟩ := lstR I hB
  have hsz : its.toArray.size + its2.toArray.size ≤ sizeLine := by rw [List.size_toArray, List.size_toArray]; omega
  have hlong : ¬ (!its.toArray.isEmpty && Builtin.List.listTooLong (its.toArray.size + its2.toArray.size)) = true := by
    rw [notLongL hsz, Bool.and_false]
    exact Bool.false_ne_true
  refine PySem.call_meets F.slot_list_extend ⟨_, e, rfl⟩ F.entry_list_extend (F.args_list_extend_2 _ _)
    (AutoSeq1.list_extend_list_list_0 l its.toArray n b its2.toArray n2 hlong (by rw [List.size_toArray]; omega) (by omega)) ⟨e, e2, ?_⟩
  refine ⟨.non, _, I.lset (its' := its ++ its2) hH e (by simp) (r.append r2) ?_, rfl, q⟩
  rw [List.length_append]
  omega
theorem ms_extend : MtS o mExtend rExtendL := by
  intro W m F S ρ σ H x v ds vs Q R r rs q
  match ds, rs, q with
  | [d], .cons rd .nil, q =>
    have q' : Aft o m F ρ σ W (match asL S d with
      | some k => onL x S fun n l => if l.length + k.length ≤ big then Res.ok .non (S.set n (.lst (l ++ k))) else .bad
      | none => .bad) Q := q
    split at q'
    · rename_i k ek
      obtain ⟨n, l, a, xs, rfl, hm, e, hq, rl, q⟩ := onL_rel R r q'
      obtain ⟨b, zs, rfl, hb, rk⟩ := asL_rd R rd ek
      by_cases hl : l.length + k.length ≤ big
      · rw [if_pos hl] at q
        refine ⟨a, b, xs, zs, rfl, rfl, hq, hb, ?_, Aft.put R hm (.lst upd_same (rl.append rk)) .non q⟩
        rw [← rl.length, ← rk.length]
        exact big_le hl
      · rw [if_neg hl] at q
        exact q.elim
    · exact q'.elim
def mPop0 : D → List D → List Cell → Res := fun x ds S => match ds with
  | [] => onL x S fun n l => match l[l.length - 1]? with
    | some d => .ok d (S.set n (.lst l.dropLast))
    | none => .bad
  | _ => .bad
theorem Reps.dropLast {K : PySem.W.Frag} {T : Tab} {m : List Addr} {F : Hp} {ds : List D} {vs : List V} (h : Reps K T m F ds vs) : Reps K T m F ds.dropLast vs.dropLast := by
  rw [List.dropLast_eq_take, List.dropLast_eq_take, h.length]
  exact h.take _
theorem ms_pop0 : MtS o mPop0 rPop := by
  intro W m F S ρ σ H x v ds vs Q R r rs q
  match ds, rs, q with
  | [], .nil, q =>
    obtain ⟨n, l, a, xs, rfl, hm, e, hq, rl, q⟩ := onL_rel R r q
    split at q
    · rename_i d ed
      obtain ⟨w, h1, h2⟩ := rl.get ed
      refine ⟨a, xs, w, rfl, rfl, hq, by rw [← rl.length]; exact h1, Aft.put R hm (.lst upd_same rl.dropLast) h2 q⟩
    · exact q.elim
def mPop1 : D → List D → List Cell → Res := fun x ds S => match ds with
  | [.int i] => onL x S fun n l => if (decide (-(2 ^ 63) ≤ i) && decide (i < 2 ^ 63)) = true then (match ixN l.length i with
    | some k => match l[k]? with
      | some d => .ok d (S.set n (.lst (l.eraseIdx k)))
      | none => .bad
    | none => .bad) else .bad
  | _ => .bad
theorem ms_pop1 : MtS o mPop1 rPopAt := by
  intro W m F S ρ σ H x v ds vs Q R r rs q
  match ds, rs, q with
  | [.int i], .cons ri .nil, q =>
    cases ri
    obtain ⟨n, l, a, xs, rfl, hm, e, hq, rl, q⟩ := onL_rel R r q
    by_cases hb : (decide (-(2 ^ 63) ≤ i) && decide (i < 2 ^ 63)) = true
    · rw [if_pos hb] at q
      have hb' := Bool.and_eq_true_iff.mp hb
      split at q
      · rename_i k ek
        split at q
        · rename_i d ed
          obtain ⟨w, h1, h2⟩ := rl.get ed
          exact ⟨a, xs, i, k, w, rfl, rfl, hq, of_decide_eq_true hb'.1, of_decide_eq_true hb'.2, by rw [← rl.length]; exact (ixN_seq ek).1, h1, Aft.put R hm (.lst upd_same (rl.erase k)) h2 q⟩
        · exact q.elim
      · exact q.elim
    · rw [if_neg hb] at q
      exact q.elim
def mClear : D → List D → List Cell → Res := fun x ds S => match ds with
  | [] => onL x S fun n _ => .ok .non (S.set n (.lst []))
  | _ => .bad
theorem ms_clear : MtS o mClear rClear := by
  intro W m F S ρ σ H x v ds vs Q R r rs q
  match ds, rs, q with
  | [], .nil, q =>
    obtain ⟨n, l, a, xs, rfl, hm, e, hq, rl, q⟩ := onL_rel R r q
    exact ⟨a, xs, rfl, rfl, hq, Aft.put R hm (.lst upd_same .nil) .non q⟩
def mReverse : D → List D → List Cell → Res := fun x ds S => match ds with
  | [] => onL x S fun n l => .ok .non (S.set n (.lst l.reverse))
  | _ => .bad
theorem ms_reverse : MtS o mReverse rReverse := by
  intro W m F S ρ σ H x v ds vs Q R r rs q
  match ds, rs, q with
  | [], .nil, q =>
    obtain ⟨n, l, a, xs, rfl, hm, e, hq, rl, q⟩ := onL_rel R r q
    exact ⟨a, xs, rfl, rfl, hq, Aft.put R hm (.lst upd_same rl.reverse) .non q⟩

def setC (x y d : D) (S : List Cell) : Option (List Cell) := match x with
  | .loc n => match S[n]? with
    | some (.lst l) => match y with
      | .int i => (ixN l.length i).map fun j => S.set n (.lst (l.set j d))
      | _ => none
    | some (.dct ks l) => match keyD y with
      | some k => if ks.Nodup ∧ ks.length ≤ big then some (S.set n (.dct (putKs ks k) (putDs ks l k d))) else none
      | none => none
    | some (.dtt ks l) => match y with
      | .tup t => match keysD t with
        | some k => if ks.Nodup ∧ ks.length ≤ big then some (S.set n (.dtt (putKs ks k) (putDs ks l k d))) else none
        | none => none
      | _ => none
    | _ => none
  | _ => none
def rSetA : V → V → V → Hp → (Hp → Prop) → Prop := fun o i v H Q => rSetL o i v H Q ∨ ∃ a H', o = .ref a ∧ DPut H a i v H' ∧ Q H'
theorem set_any {X : Cx} (hu : X.A.units + 1 < cLine) : PSet X rSetA := by
  intro pins s σ H x i v ov iv u Q I r1 r2 r q
  rcases q with q | ⟨a, H', rfl, hp, q⟩
  · exact set_list pins s σ H x i v ov iv u Q I r1 r2 r q
  · cases r1
    exact d_setItem hu I hp r2 r fun s' I' => ⟨H', I', q⟩
def stoS (fx fi fe : Ev) : Sv := fun ρ S => (fe ρ S).then ρ fun d S1 => (fx ρ S1).then ρ fun x S2 => (fi ρ S2).then ρ fun y S3 => match setC x y d S3 with
  | some S4 => .ok (.nx ρ) S4
  | none => .bad
theorem setC_rel {m : List Addr} {F : Hp} {S S' : List Cell} {ρ : Slots} {σ : St} {H : Hp} {x y d : D} {v u w : V} (R : Rel o.K o.T o.g m F S ρ σ H) (rx : Rep o.K o.T m F x v) (ry : Rep o.K o.T m F y u) (rd : Rep o.K o.T m F d w) (h : setC x y d S = some S') {Q : Hp → Prop}
    (q : ∀ H', Rel o.K o.T o.g m F S' ρ σ H' → Q H') : rSetA v u w H Q := by
  cases x with
  | loc n =>
    cases rx with
    | @loc _ a hm =>
      unfold setC at h
      dsimp only at h
      split at h
      · rename_i l e
        cases y with
        | int i =>
          cases ry
          obtain ⟨j, h1, rfl⟩ := Option.map_eq_some_iff.mp h
          cases R.cell n a _ hm e with
          | @lst xs _ hq rs => exact .inl ⟨a, xs, i, j, rfl, rfl, hq, by rw [← rs.length]; exact h1, q _ (R.put hm (.lst upd_same (rs.set rd j)))⟩
        | _ => cases h
      · rename_i ks l e
        split at h
        · rename_i k ek
          by_cases hz : ks.Nodup ∧ ks.length ≤ big
          · rw [if_pos hz] at h
            cases h
            cases R.cell n a _ hm e with
            | @dct _ xs _ hq hl rs =>
              obtain ⟨ys, h1, h2, h3⟩ := put_zip hz.1 hl rs rd (j := k)
              refine .inr ⟨a, _, rfl, .inl ⟨_, k, hq, rep_key ry ek, ?_, rfl⟩, q _ (R.put hm ?_)⟩
              · rw [List.length_zip, ← hl, Nat.min_self]
                exact Nat.lt_of_le_of_lt hz.2 (by decide)
              · rw [h1]
                exact .dct upd_same h2 h3
          · rw [if_neg hz] at h; cases h
        · cases h
      · rename_i ks l e
        cases y with
        | tup t =>
          dsimp only at h
          split at h
          · rename_i k ek
            by_cases hz : ks.Nodup ∧ ks.length ≤ big
            · rw [if_pos hz] at h
              cases h
              cases ry with
              | @tup b zs _ hF rt =>
                cases R.cell n a _ hm e with
                | @dtt _ xs _ hq hl rs =>
                  obtain ⟨ys, h1, h2, h3⟩ := put_zip hz.1 hl rs rd (j := k)
                  have ht : H b = some (.tup (k.map kV)) := by rw [← reps_keys rt ek]; exact R.le _ _ hF
                  refine .inr ⟨a, _, rfl, .inr ⟨_, k, b, hq, rfl, ht, ?_, rfl⟩, q _ (R.put hm ?_)⟩
                  · rw [List.length_zip, ← hl, Nat.min_self]
                    exact Nat.lt_of_le_of_lt hz.2 (by decide)
                  · rw [h1]
                    exact .dtt upd_same h2 h3
            · rw [if_neg hz] at h; cases h
          · cases h
        | _ => cases h
      · cases h
  | _ => cases h
theorem st_sto {X : Cx} {W : WX} {x i e : Expr} {fx fi fe : Ev} {pos tpos : Pos} (hu : X.A.units + 1 < cLine) (hx : PE X x (tE o W fx)) (hi : PE X i (tE o W fi)) (he : PE X e (tE o W fe))
    (ha : ∀ v, assign (.Subscript x i tpos) X.env v = (do
      let ov ← holding [v] (eval x X.env)
      let iv ← holding [v, ov] (eval i X.env)
      standAt tpos
      holding [v, ov, iv] (setItem ov iv v)
      release [v, ov, iv] []))
    (hs : swapsWithSole [.Subscript x i tpos] e pos.line X.env = pure false) (hw : swappedStores [.Subscript x i tpos] e X.env = pure none) (h1 : (assignEach [.Subscript x i tpos] X.env).map (·.2) = [assign (.Subscript x i tpos) X.env]) :
    PS X (.Assign [.Subscript x i tpos] e pos) (tS o W (stoS fx fi fe)) := PS.of (ps_asg he (pg_sub hx hi (set_any hu) ha) hs hw h1) fun D σ H ⟨m, F, S, ρ, R, q⟩ => by
  refine ⟨m, F, S, ρ, R, (SAft.exp q).map ?_⟩
  rintro v H1 ⟨m1, F1, S1, d, p1, e1, R1, rep1, q1⟩
  refine ⟨m1, F1, S1, ρ, R1, (SAft.exp q1).map ?_⟩
  rintro v2 H2 ⟨m2, F2, S2, d2, p2, e2, R2, rep2, q2⟩
  refine ⟨m2, F2, S2, ρ, R2, (SAft.exp q2).map ?_⟩
  rintro v3 H3 ⟨m3, F3, S3, d3, p3, e3, R3, rep3, q3⟩
  cases hc : setC d2 d3 d S3 with
  | none => rw [hc] at q3; exact q3.elim
  | some S4 =>
    rw [hc] at q3
    exact setC_rel R3 (rep2.mono p3 e3) rep3 (rep1.mono (p2.trans p3) (e2.trans e3)) hc fun H' R' => q3 m3 F3 σ H' (List.prefix_refl m3) (Le.refl F3) R'
end


def optAll (f : D → Option D) : List D → Option (List D)
  | [] => some []
  | d :: ds => match f d, optAll f ds with
    | some x, some xs => some (x :: xs)
    | _, _ => none
def fzCell (fl : Nat → List Str) (f : D → Option D) : Option Cell → Option D
  | some (.lst l) => (optAll f l).map .lst
  | some (.dct ks l) => (optAll f l).map (.dct ks)
  | some (.obj c ns l) => if ns = fl c then (optAll f l).map (.obj c) else none
  | _ => none
/-- d, when all that was made from the n-th thing on is kept still -/
def fzD (fl : Nat → List Str) (S : List Cell) (n : Nat) : Nat → D → Option D
  | 0, _ => none
  | k + 1, d => match d with
    | .loc i => if i < n then some (.loc i) else fzCell fl (fzD fl S n k) S[i]?
    | .tup l => (optAll (fzD fl S n k) l).map .tup
    | .ktup l => (optAll (fzD fl S n k) l).map .ktup
    | .lst l => (optAll (fzD fl S n k) l).map .lst
    | .klst l => (optAll (fzD fl S n k) l).map .klst
    | .dct ks l => (optAll (fzD fl S n k) l).map (.dct ks)
    | .obj c l => (optAll (fzD fl S n k) l).map (.obj c)
    | .non => some .non
    | .bl b => some (.bl b)
    | .int i => some (.int i)
    | .str x => some (.str x)
def fzC (f : D → Option D) : Cell → Option Cell
  | .lst l => (optAll f l).map .lst
  | .dct ks l => (optAll f l).map (.dct ks)
  | .dtt ks l => (optAll f l).map (.dtt ks)
  | .obj c ns l => (optAll f l).map (.obj c ns)
  | .dead => some .dead
def fzCs (f : D → Option D) : List Cell → Option (List Cell)
  | [] => some []
  | d :: ds => match fzC f d, fzCs f ds with
    | some x, some xs => some (x :: xs)
    | _, _ => none
open Classical in
/-- what stands still then -/
noncomputable def stillF (F H : Hp) (l : List Addr) : Hp := fun a => if a ∈ l then H a else F a
theorem optAll_rel {K : PySem.W.Frag} {T : Tab} {m m' : List Addr} {F F' : Hp} {f : D → Option D} (h : ∀ d v d', Rep K T m F d v → f d = some d' → Rep K T m' F' d' v) : ∀ {ds : List D} {vs : List V} {ds' : List D}, Reps K T m F ds vs → optAll f ds = some ds' → Reps K T m' F' ds' vs
  | _, _, _, .nil, e => by cases e; exact .nil
  | _, _, _, .cons r rs, e => by
    unfold optAll at e
    split at e
    · rename_i x xs e1 e2
      cases e
      exact .cons (h _ _ _ r e1) (optAll_rel h rs e2)
    · cases e
section
variable {K : PySem.W.Frag} {T : Tab} {g : Gh} {m : List Addr} {F : Hp} {S : List Cell} {ρ : Slots} {σ : St} {H : Hp} {n : Nat}
theorem still_le (R : Rel K T g m F S ρ σ H) : Le F (stillF F H (m.drop n)) := fun a o e => by
  unfold stillF
  rw [if_neg]
  · exact e
  · intro h
    obtain ⟨i, hi, q⟩ := List.mem_iff_getElem.mp (List.mem_of_mem_drop h)
    have := R.ap i a (by rw [List.getElem?_eq_getElem hi, q])
    rw [e] at this
    cases this
theorem still_at {a : Addr} {i : Nat} (hm : m[i]? = some a) (hi : ¬ i < n) : stillF F H (m.drop n) a = H a := by
  unfold stillF
  rw [if_pos]
  have : (m.drop n)[i - n]? = some a := by rw [List.getElem?_drop]; rw [show n + (i - n) = i by omega]; exact hm
  exact List.mem_of_getElem? this
theorem still_at' {a : Addr} (hm : a ∉ m.drop n) : stillF F H (m.drop n) a = F a := by
  unfold stillF
  rw [if_neg hm]
theorem Reps.map' {ds : List D} {vs : List V} {f : D → Option D} {m' : List Addr} {F' : Hp} {ds' : List D} {C : List D → D} {d' : D} {P : List D → Prop} (r : Reps K T m F ds vs) (e : (optAll f ds).map C = some d')
    (h : ∀ d v d', Rep K T m F d v → f d = some d' → Rep K T m' F' d' v) : ∃ ds', d' = C ds' ∧ Reps K T m' F' ds' vs := by
  cases z : optAll f ds with
  | none => rw [z] at e; cases e
  | some ds' =>
    rw [z] at e
    cases e
    exact ⟨ds', rfl, optAll_rel h r z⟩
theorem optAll_map {ds : List D} {f : D → Option D} {β : Type} {C : List D → β} {d' : β} (e : (optAll f ds).map C = some d') : ∃ ds', d' = C ds' ∧ optAll f ds = some ds' := by
  cases z : optAll f ds with
  | none => rw [z] at e; cases e
  | some ds' =>
    rw [z] at e
    cases e
    exact ⟨ds', rfl, rfl⟩
theorem fz_rel (R : Rel K T g m F S ρ σ H) : ∀ (k : Nat) (d : D) (v : V) (d' : D), Rep K T m F d v → fzD T.fl S n k d = some d' → Rep K T (m.take n) (stillF F H (m.drop n)) d' v
  | 0, _, _, _, _, h => by cases h
  | k + 1, d, v, d', r, h => by
    have ih := fz_rel R k
    have le := still_le (n := n) R
    unfold fzD at h
    cases r with
    | non => cases h; exact .non
    | bl b => cases h; exact .bl b
    | int i => cases h; exact .int i
    | str x => cases h; exact .str x
    | tup q rs =>
      obtain ⟨ds', rfl, z⟩ := optAll_map h
      exact .tup (le _ _ q) (optAll_rel ih rs z)
    | ktup q rs =>
      obtain ⟨ds', rfl, z⟩ := optAll_map h
      exact .ktup q (optAll_rel ih rs z)
    | klst q rs =>
      obtain ⟨ds', rfl, z⟩ := optAll_map h
      exact .klst q (optAll_rel ih rs z)
    | lst q rs =>
      obtain ⟨ds', rfl, z⟩ := optAll_map h
      exact .lst (le.rd q) (optAll_rel ih rs z)
    | dct q l rs =>
      obtain ⟨ds', rfl, z⟩ := optAll_map h
      exact .dct (le _ _ q) l (optAll_rel ih rs z)
    | obj q l rs =>
      obtain ⟨ds', rfl, z⟩ := optAll_map h
      exact .obj (le _ _ q) l (optAll_rel ih rs z)
    | @loc i a hm =>
      dsimp only at h
      by_cases hi : i < n
      · rw [if_pos hi] at h
        cases h
        exact .loc (by rw [List.getElem?_take_of_lt hi]; exact hm)
      · rw [if_neg hi] at h
        have ea := still_at (F := F) (H := H) hm hi
        cases c : S[i]? with
        | none => rw [c] at h; cases h
        | some c' =>
          rw [c] at h
          cases R.cell i a c' hm c with
          | lst q rs =>
            obtain ⟨ds', rfl, z⟩ := optAll_map h
            exact .lst (.inl (by rw [ea]; exact q)) (optAll_rel ih rs z)
          | dct q l rs =>
            obtain ⟨ds', rfl, z⟩ := optAll_map h
            exact .dct (by rw [ea]; exact q) l (optAll_rel ih rs z)
          | dtt q l rs => cases h
          | @obj cc dx ns xs ds q l rs =>
            unfold fzCell at h
            dsimp only at h
            by_cases hn : ns = T.fl cc
            · rw [if_pos hn] at h
              subst hn
              obtain ⟨ds', rfl, z⟩ := optAll_map h
              exact .obj (by rw [ea]; exact q) l (optAll_rel ih rs z)
            · rw [if_neg hn] at h; cases h
          | dead => cases h
theorem fzC_rel (R : Rel K T g m F S ρ σ H) {k : Nat} {a : Addr} {c c' : Cell} (r : CellOk K T m F H a c) (h : fzC (fzD T.fl S n k) c = some c') : CellOk K T (m.take n) (stillF F H (m.drop n)) H a c' := by
  have ih := fz_rel (n := n) R k
  cases r with
  | lst q rs =>
    obtain ⟨ds', rfl, z⟩ := optAll_map h
    exact .lst q (optAll_rel ih rs z)
  | dct q l rs =>
    obtain ⟨ds', rfl, z⟩ := optAll_map h
    exact .dct q l (optAll_rel ih rs z)
  | dtt q l rs =>
    obtain ⟨ds', rfl, z⟩ := optAll_map h
    exact .dtt q l (optAll_rel ih rs z)
  | obj q l rs =>
    obtain ⟨ds', rfl, z⟩ := optAll_map h
    exact .obj q l (optAll_rel ih rs z)
  | dead => cases h; exact .dead
theorem fzCs_get {f : D → Option D} : ∀ {l l' : List Cell} {i : Nat} {c : Cell}, fzCs f l = some l' → l'[i]? = some c → ∃ c0, l[i]? = some c0 ∧ fzC f c0 = some c
  | [], _, i, c, h, e => by cases h; simp at e
  | x :: xs, _, i, c, h, e => by
    unfold fzCs at h
    split at h
    · rename_i y ys e1 e2
      cases h
      cases i with
      | zero =>
        simp at e
        subst e
        exact ⟨x, rfl, e1⟩
      | succ i =>
        simp at e
        obtain ⟨c0, h0, h1⟩ := fzCs_get e2 e
        exact ⟨c0, by simpa using h0, h1⟩
    · cases h
theorem fzCs_len {f : D → Option D} : ∀ {l l' : List Cell}, fzCs f l = some l' → l'.length = l.length
  | [], _, h => by cases h; rfl
  | x :: xs, _, h => by
    unfold fzCs at h
    split at h
    · rename_i y ys e1 e2
      cases h
      rw [List.length_cons, List.length_cons, fzCs_len e2]
    · cases h
/-- what was made from the n-th on stands still from now on -/
theorem Rel.seal {k : Nat} {S' : List Cell} (R : Rel K T g m F S [] [] H) (hn : g.m0.length ≤ n) (hS : fzCs (fzD T.fl S n k) (S.take n) = some S') : Rel K T g (m.take n) (stillF F H (m.drop n)) S' [] [] H := by
  have le := still_le (n := n) R
  have low : ∀ (i : Nat) a, (m.take n)[i]? = some a → i < n ∧ m[i]? = some a := fun i a h => by
    rw [List.getElem?_take] at h
    split at h
    · exact ⟨‹_›, h⟩
    · cases h
  have apart : ∀ (i : Nat) a, (m.take n)[i]? = some a → a ∉ m.drop n := fun i a h hd => by
    obtain ⟨hi, hm⟩ := low i a h
    obtain ⟨j, hj⟩ := List.getElem?_of_mem hd
    rw [List.getElem?_drop] at hj
    obtain ⟨x1, e1⟩ := List.getElem?_eq_some_iff.mp hm
    obtain ⟨x2, e2⟩ := List.getElem?_eq_some_iff.mp hj
    have := (List.getElem_inj R.nd).mp (e1.trans e2.symm)
    omega
  refine ⟨?_, R.nd.sublist (List.take_sublist _ _), fun a o h => ?_, fun i a h => ?_, fun i a c h1 h2 => ?_, rfl, fun i d h => by simp at h, R.frame, ?_, fun a o h => ?_, fun i a h => R.newm i a (low i a h).2, R.leF.trans le, fun i a h => R.there i a (low i a h).2⟩
  · rw [fzCs_len hS, List.length_take, List.length_take, R.len]
  · by_cases hd : a ∈ m.drop n
    · unfold stillF at h
      rw [if_pos hd] at h
      exact h
    · rw [still_at' hd] at h
      exact R.le a o h
  · rw [still_at' (apart i a h)]
    exact R.ap i a (low i a h).2
  · obtain ⟨hi, hm⟩ := low i a h1
    obtain ⟨c0, hc, e⟩ := fzCs_get hS h2
    rw [List.getElem?_take_of_lt hi] at hc
    exact fzC_rel R (R.cell i a c0 hm hc) e
  · obtain ⟨t, ht⟩ := R.pre
    refine ⟨t.take (n - g.m0.length), ?_⟩
    rw [← ht, List.take_append, List.take_of_length_le hn]
  · by_cases hd : a ∈ m.drop n
    · obtain ⟨j, hj⟩ := List.getElem?_of_mem hd
      rw [List.getElem?_drop] at hj
      rcases R.newm _ a hj with q | q
      · omega
      · exact .inr q
    · rw [still_at' hd] at h
      exact R.newF a o h
end
/-- a def's result with all that it made kept still -/
def sealR (fl : Nat → List Str) (n : Nat) (r : Res) : Res := match r with
  | .ok d S => match fzD fl S n 60 d, fzCs (fzD fl S n 60) (S.take n) with
    | some d', some S' => .ok d' S'
    | _, _ => .bad
  | .err c d S => match fzD fl S n 60 d, fzCs (fzD fl S n 60) (S.take n) with
    | some d', some S' => .err c d' S'
    | _, _ => .bad
  | .bad => .bad
def sealF (fl : Nat → List Str) (G : Fn) : Fn := fun ds S => sealR fl S.length (G ds S)
theorem CAft.unseal {K : PySem.W.Frag} {T : Tab} {H : Hp} {m : List Addr} {F : Hp} {S : List Cell} {r : Res} {Q : VK} {E : XK} (hl : m.length = S.length) (q : CAft K T H m F (sealR T.fl S.length r) Q E) : CAft K T H m F r Q E := by
  have tk : ∀ m' : List Addr, m <+: m' → m'.take S.length = m := fun m' h => by
    obtain ⟨t, rfl⟩ := h
    rw [← hl, List.take_left']
    rfl
  cases r with
  | ok d S1 =>
    unfold sealR at q
    dsimp only at q
    split at q
    · rename_i d' S' e1 e2
      intro m' F' v H' p e R rep
      have R2 := R.seal (n := S.length) (Nat.le_of_eq hl) e2
      have rep2 := fz_rel (n := S.length) R _ _ _ _ rep e1
      rw [tk m' p] at R2 rep2
      exact q m _ v H' (List.prefix_refl m) (e.trans (still_le R)) R2 rep2
    · exact q.elim
  | err c d S1 =>
    unfold sealR at q
    dsimp only at q
    split at q
    · rename_i d' S' e1 e2
      intro m' F' v H' dd p e R rep hd
      have R2 := R.seal (n := S.length) (Nat.le_of_eq hl) e2
      have rep2 := fz_rel (n := S.length) R _ _ _ _ rep e1
      rw [tk m' p] at R2 rep2
      exact q m _ v H' dd (List.prefix_refl m) (e.trans (still_le R)) R2 rep2 hd
    · exact q.elim
  | bad => exact q
section
variable {P : Program} {w : World} {K : PySem.W.Frag} {T : Tab} {mg : Str → Option Value} {base : Heap}
theorem fn_seal {f : Addr} {fd : FuncData} {ps : List Str} {k n : Nat} {CX : CXT} {G : Fn} (h : FnOk P w K mg base CX k f fd ps (spF K T n G)) : FnOk P w K mg base CX k f fd ps (spF K T n (sealF T.fl G)) :=
  h.imp fun vs H Q E ⟨hl, m, F, S, ds, R, reps, q⟩ => ⟨hl, m, F, S, ds, R, reps, CAft.unseal R.len q⟩
end


inductive HitD (K : PySem.W.Frag) (H : Hp) (ls : List (Key × V)) : List (Key × V) → Bool → Prop
  | nil : HitD K H ls [] true
  | miss {k : Key} {v : V} {r : List (Key × V)} : valV ls k = none → HitD K H ls ((k, v) :: r) false
  | hit {k : Key} {v u : V} {d e : PyData} {r : List (Key × V)} {b : Bool} : valV ls k = some u → Dp K H v d → Dp K H u e → SeqAt.shaped d = true → SeqAt.shaped e = true → HitD K H ls r b → HitD K H ls ((k, v) :: r) (PyData.eqv d e && b)
def rEqX (K : PySem.W.Frag) : R2 := fun x y H Q => ∃ a b ks ls r, x = .ref a ∧ y = .ref b ∧ H a = some (.dK ks) ∧ H b = some (.dK ls) ∧ (ks.length = ls.length → HitD K H ls ks r) ∧ Q (.bl (ks.length == ls.length && r)) H
def rNeX (K : PySem.W.Frag) : R2 := fun x y H Q => ∃ a b ks ls r, x = .ref a ∧ y = .ref b ∧ H a = some (.dK ks) ∧ H b = some (.dK ls) ∧ (ks.length = ls.length → HitD K H ls ks r) ∧ Q (.bl (!(ks.length == ls.length && r))) H
theorem hits_D {X : Cx} {pins : List (Addr × Obj)} {σ : St} {H : Hp} {s : Shared} (I : Inv X pins σ H s) {A : Around} (hu : A.units + 64 < cLine) {ls : List (Key × V)} {vb : List (Key × Value)} (rb : KV ls vb) {ks : List (Key × V)} {r : Bool} (h : HitD X.K H ls ks r) :
    ∀ {va : List (Key × Value)}, KV ks va → PySem.W.KeqHits A s vb va r := by
  induction h with
  | nil =>
    intro va ra
    cases ra
    exact .nil
  | @miss k v rest hn =>
    intro va ra
    cases ra with
    | @cons _ q _ qs h t =>
      obtain ⟨h1, h2⟩ := h
      obtain ⟨kk, vv⟩ := q
      have h1' : k = kk := h1
      subst h1'
      have rr : RelO none (valueAt vb k) := by rw [← hn]; exact rb.val k
      refine .miss ?_
      cases z : valueAt vb k with
      | none => rfl
      | some y => rw [z] at rr; exact (show False from rr).elim
  | @hit k v u d e rest b hs dv du sd se _ ih =>
    intro va ra
    cases ra with
    | @cons _ q _ qs h t =>
      obtain ⟨h1, h2⟩ := h
      obtain ⟨kk, vv⟩ := q
      have h1' : k = kk := h1
      subst h1'
      have rr : RelO (some u) (valueAt vb k) := by rw [← hs]; exact rb.val k
      obtain ⟨y, hy, ry⟩ := rr.some_of
      obtain ⟨as, r1⟩ := Dp.reads I d v vv dv h2
      obtain ⟨bs, r2⟩ := Dp.reads I e u y du ry
      exact .hit hy (SeqAt.eqAt_reads d e A s vv y as bs r1 r2 (SeqAt.canLay_of_shaped sd) (SeqAt.canLay_of_shaped se) (SeqAt.room_of_shaped sd hu)) (ih t)
theorem op_eqX {X : Cx} (hu : X.A.units + 65 < cLine) : OpR X (compareOp .Eq) (rEqX X.K) := by
  intro pins s σ H x y v u Q I rx ry h
  obtain ⟨a, b, ks, ls, r, rfl, rfl, ea, eb, hp, q⟩ := h
  obtain rfl : v = Value.ref a := rx
  obtain rfl : u = Value.ref b := ry
  obtain ⟨_, ya, va, ra, da⟩ := (show ObjOk X.prog X.w H s.heap a (.dK ks) from I.hok a _ ea)
  obtain ⟨_, yb, vb, rb, db⟩ := (show ObjOk X.prog X.w H s.heap b (.dK ls) from I.hok b _ eb)
  have l1 : ks.length = va.length := ra.length
  have l2 : ls.length = vb.length := rb.length
  refine PySem.W.keq_eq (knd := mixKind X.prog X.w) (r := r) ya yb da db (by omega) (fun hl => hits_D I (by show X.A.units + 1 + 64 < cLine; omega) rb (hp (by omega)) ra) (fin_bl I q ?_)
  rw [l1, l2]
theorem op_neX {X : Cx} (hu : X.A.units + 65 < cLine) : OpR X (compareOp .NotEq) (rNeX X.K) := by
  intro pins s σ H x y v u Q I rx ry h
  obtain ⟨a, b, ks, ls, r, rfl, rfl, ea, eb, hp, q⟩ := h
  obtain rfl : v = Value.ref a := rx
  obtain rfl : u = Value.ref b := ry
  obtain ⟨_, ya, va, ra, da⟩ := (show ObjOk X.prog X.w H s.heap a (.dK ks) from I.hok a _ ea)
  obtain ⟨_, yb, vb, rb, db⟩ := (show ObjOk X.prog X.w H s.heap b (.dK ls) from I.hok b _ eb)
  have l1 : ks.length = va.length := ra.length
  have l2 : ls.length = vb.length := rb.length
  refine PySem.W.keq_ne (knd := mixKind X.prog X.w) (r := r) ya yb da db (by omega) (fun hl => hits_D I (by show X.A.units + 1 + 64 < cLine; omega) rb (hp (by omega)) ra) (fin_bl I q ?_)
  rw [l1, l2]
/-- a dict's keys and values -/
def dctV (S : List Cell) : D → Option (List Key × List D)
  | .dct ks l => some (ks, l)
  | .loc n => match S[n]? with
    | some (.dct ks l) => some (ks, l)
    | _ => none
  | _ => none
def eqKV (S : List Cell) (ks' : List Key) (ds' : List D) : List Key → List D → Option Bool
  | k :: ks, d :: ds => match look ks' ds' k with
    | none => some false
    | some d' => match eqD S d d' with
      | none => none
      | some e => match eqKV S ks' ds' ks ds with
        | none => none
        | some b => some (e && b)
  | [], [] => some true
  | _, _ => none
def eqDct (S : List Cell) (x y : List Key × List D) : Option Bool := if x.1.length = y.1.length then eqKV S y.1 y.2 x.1 x.2 else some false
section
variable {K : PySem.W.Frag} {T : Tab} {g : Gh} {m : List Addr} {F : Hp} {S : List Cell} {ρ : Slots} {σ : St} {H : Hp}
theorem dctV_rel {d : D} {v : V} {p : List Key × List D} (R : Rel K T g m F S ρ σ H) (r : Rep K T m F d v) (h : dctV S d = some p) : ∃ a xs, v = .ref a ∧ H a = some (.dK (p.1.zip xs)) ∧ p.1.length = xs.length ∧ Reps K T m F p.2 xs := by
  cases r with
  | @dct a ks xs ds q l rs =>
    cases h
    exact ⟨a, xs, rfl, R.le _ _ q, l, rs⟩
  | @loc n a hm =>
    unfold dctV at h
    dsimp only at h
    split at h
    · rename_i ks l e
      cases h
      cases R.cell n a _ hm e with
      | dct q l rs => exact ⟨a, _, rfl, q, l, rs⟩
    · cases h
  | _ => cases h
theorem eqKV_rel (R : Rel K T g m F S ρ σ H) {ks' : List Key} {ds' : List D} {ys : List V} (rs' : Reps K T m F ds' ys) : ∀ {ks : List Key} {ds : List D} {xs : List V} {b : Bool}, Reps K T m F ds xs → eqKV S ks' ds' ks ds = some b → HitD K H (ks'.zip ys) (ks.zip xs) b
  | [], [], _, _, r, h => by
    cases r
    cases h
    exact .nil
  | [], _ :: _, _, _, _, h => by cases h
  | _ :: _, [], _, _, _, h => by cases h
  | k :: ks, d :: ds, _, b, r, h => by
    cases r with
    | @cons _ _ v vs r rs =>
      unfold eqKV at h
      split at h
      · rename_i e
        cases h
        exact .miss (look_none rs' e)
      · rename_i d' e
        obtain ⟨u, hu, ru⟩ := look_val rs' e
        split at h
        · cases h
        · rename_i e2 he
          split at h
          · cases h
          · rename_i b2 hb
            cases h
            obtain ⟨x, y, h1, h2, s1, s2, rfl⟩ := eqD_of he
            exact .hit hu (seen_dp R r h1) (seen_dp R ru h2) s1 s2 (eqKV_rel R rs' rs hb)
theorem eqDct_rel (R : Rel K T g m F S ρ σ H) {x y : D} {v u : V} {p q : List Key × List D} {b : Bool} (rx : Rep K T m F x v) (ry : Rep K T m F y u) (hx : dctV S x = some p) (hy : dctV S y = some q) (h : eqDct S p q = some b) :
    ∃ a c ks ls r, v = .ref a ∧ u = .ref c ∧ H a = some (.dK ks) ∧ H c = some (.dK ls) ∧ (ks.length = ls.length → HitD K H ls ks r) ∧ b = (ks.length == ls.length && r) := by
  obtain ⟨a, xs, rfl, ha, la, rxs⟩ := dctV_rel R rx hx
  obtain ⟨c, ys, rfl, hc, lc, rys⟩ := dctV_rel R ry hy
  refine ⟨a, c, _, _, b, rfl, rfl, ha, hc, ?_, ?_⟩
  · intro hl
    rw [List.length_zip, List.length_zip, ← la, ← lc, Nat.min_self, Nat.min_self] at hl
    unfold eqDct at h
    rw [if_pos hl] at h
    exact eqKV_rel R rys rxs h
  · rw [List.length_zip, List.length_zip, ← la, ← lc, Nat.min_self, Nat.min_self]
    unfold eqDct at h
    by_cases hl : p.1.length = q.1.length
    · rw [hl]
      simp
    · rw [if_neg hl] at h
      cases h
      have : (p.1.length == q.1.length) = false := by simpa using hl
      rw [this]
      rfl
end

def all2 (f : D → D → Bool) : List D → List D → Bool
  | x :: xs, y :: ys => f x y && all2 f xs ys
  | [], [] => true
  | _, _ => false
def sameKV (f : D → D → Bool) (ks' : List Key) (ds' : List D) : List Key → List D → Bool
  | k :: ks, d :: ds => (match look ks' ds' k with
    | some d' => f d d'
    | none => false) && sameKV f ks' ds' ks ds
  | [], [] => true
  | _, _ => false
def sameD : Nat → D → D → Bool
  | 0, _, _ => false
  | k + 1, x, y => match x, y with
    | .non, .non => true
    | .bl a, .bl b => a == b
    | .int a, .int b => a == b
    | .str a, .str b => decide (a = b)
    | .tup a, .tup b => all2 (sameD k) a b
    | .tup a, .ktup b => all2 (sameD k) a b
    | .ktup a, .tup b => all2 (sameD k) a b
    | .ktup a, .ktup b => all2 (sameD k) a b
    | .lst a, .lst b => all2 (sameD k) a b
    | .dct ks l, .dct ks' l' => decide (ks.length = ks'.length) && sameKV (sameD k) ks' l' ks l
    | _, _ => false
theorem all2_len {f : D → D → Bool} : ∀ {xs ys : List D}, all2 f xs ys = true → xs.length = ys.length
  | [], [], _ => rfl
  | [], _ :: _, h => by cases h
  | _ :: _, [], h => by cases h
  | x :: xs, y :: ys, h => by
    unfold all2 at h
    rw [List.length_cons, List.length_cons, all2_len (Bool.and_eq_true_iff.mp h).2]
theorem all2_get {f : D → D → Bool} : ∀ {xs ys : List D}, all2 f xs ys = true → ∀ (j : Nat) x y, xs[j]? = some x → ys[j]? = some y → f x y = true
  | [], _, _, j, x, y, h1, _ => by simp at h1
  | _ :: _, [], _, j, x, y, _, h2 => by simp at h2
  | x0 :: xs, y0 :: ys, h, j, x, y, h1, h2 => by
    unfold all2 at h
    obtain ⟨ha, hb⟩ := Bool.and_eq_true_iff.mp h
    cases j with
    | zero =>
      simp at h1 h2
      subst h1; subst h2
      exact ha
    | succ j => exact all2_get hb j x y (by simpa using h1) (by simpa using h2)
theorem sameKV_get {f : D → D → Bool} {ks' : List Key} {ds' : List D} : ∀ {ks : List Key} {ds : List D}, sameKV f ks' ds' ks ds = true → ∀ (j : Nat) k d, ks[j]? = some k → ds[j]? = some d → ∃ d', look ks' ds' k = some d' ∧ f d d' = true
  | [], _, _, j, k, d, h1, _ => by simp at h1
  | _ :: _, [], _, j, k, d, _, h2 => by simp at h2
  | k0 :: ks, d0 :: ds, h, j, k, d, h1, h2 => by
    unfold sameKV at h
    obtain ⟨ha, hb⟩ := Bool.and_eq_true_iff.mp h
    cases j with
    | zero =>
      simp at h1 h2
      subst h1; subst h2
      split at ha
      · exact ⟨_, by assumption, ha⟩
      · cases ha
    | succ j => exact sameKV_get hb j k d (by simpa using h1) (by simpa using h2)
theorem allT {l : List Nat} : (l.all fun _ => true) = true := List.all_eq_true.mpr fun _ _ => rfl
theorem vals_at {xs : List V} {us : List Value} (r : Vals xs us) {j : Nat} (h : j < us.length) : ∃ x, xs[j]? = some x ∧ RelV x us[j] := by
  have hl : j < xs.length := by rw [r.length]; exact h
  obtain ⟨u, e, q⟩ := r.get (List.getElem?_eq_getElem hl)
  rw [List.getElem?_eq_getElem h] at e
  cases e
  exact ⟨_, List.getElem?_eq_getElem hl, q⟩
theorem kv_at : ∀ {ks : List (Key × V)} {va : List (Key × Value)} {k : Key} {v : Value}, KV ks va → (k, v) ∈ va → ∃ (j : Nat) (x : V), ks[j]? = some (k, x) ∧ RelV x v
  | [], _, _, _, r, h => by cases r; cases h
  | p :: ks, _, k, v, r, h => by
    cases r with
    | @cons _ q _ qs a b =>
      obtain ⟨h1, h2⟩ := a
      rcases List.mem_cons.mp h with e | e
      · subst e
        refine ⟨0, p.2, ?_, h2⟩
        have : p.1 = k := h1
        rw [← this]
        rfl
      · obtain ⟨j, x, e1, e2⟩ := kv_at b e
        exact ⟨j + 1, x, by simpa using e1, e2⟩
theorem zip_at {ks : List Key} {xs : List V} {j : Nat} {k : Key} {x : V} (h : (ks.zip xs)[j]? = some (k, x)) : ks[j]? = some k ∧ xs[j]? = some x := by
  rw [List.getElem?_zip_eq_some] at h
  exact h
section
variable {X : Cx} {pins : List (Addr × Obj)} {σ : St} {H : Hp} {s : Shared} {T : Tab} {m : List Addr} {F : Hp}
open PySem.W in
theorem seq_tree (I : Inv X pins σ H s) {k : Nat} {xs ys : List V} {ds es : List D} {us ws : List Value} (ih : ∀ d d' v v' u u', Rep X.K T m F d v → Rep X.K T m F d' v' → RelV v u → RelV v' u' → sameD k d d' = true → EqTree X.prog X.w s k u u' true)
    (rx : Reps X.K T m F ds xs) (ry : Reps X.K T m F es ys) (vx : Vals xs us) (vy : Vals ys ws) (h : all2 (sameD k) ds es = true) : us.toArray.size = ws.toArray.size ∧ ∀ j (h1 : j < us.toArray.size) (h2 : j < ws.toArray.size), EqTree X.prog X.w s k us.toArray[j] ws.toArray[j] true := by
  refine ⟨?_, fun j h1 h2 => ?_⟩
  · have := all2_len h
    have a1 := rx.length
    have a2 := ry.length
    have a3 := vx.length
    have a4 := vy.length
    simp
    omega
  · have h1' : j < us.length := by simpa using h1
    have h2' : j < ws.length := by simpa using h2
    obtain ⟨x, ex, rx1⟩ := vals_at vx h1'
    obtain ⟨y, ey, ry1⟩ := vals_at vy h2'
    obtain ⟨d, ed, rd⟩ := rx.getV ex
    obtain ⟨e, ee, re⟩ := ry.getV ey
    simpa using ih d e x y _ _ rd re rx1 ry1 (all2_get h j d e ed ee)
open PySem.W in
theorem refs_tree {k : Nat} {a b : Addr} (h : a ≠ b → EqTree X.prog X.w s k (.ref a) (.ref b) true) : EqTree X.prog X.w s k (.ref a) (.ref b) true := by
  by_cases e : a = b
  · subst e; exact .same
  · exact h e
open PySem.W in
theorem tup_tree (I : Inv X pins σ H s) {k : Nat} {a b : Addr} {xs ys : List V} {ds es : List D} (ih : ∀ d d' v v' u u', Rep X.K T m F d v → Rep X.K T m F d' v' → RelV v u → RelV v' u' → sameD k d d' = true → EqTree X.prog X.w s k u u' true)
    (ha : SqT X.K H a xs) (hb : SqT X.K H b ys) (rx : Reps X.K T m F ds xs) (ry : Reps X.K T m F es ys) (h : all2 (sameD k) ds es = true) : EqTree X.prog X.w s (k + 1) (.ref a) (.ref b) true := by
  refine refs_tree fun ne => ?_
  obtain ⟨us, vx, ⟨o1, e1, c1, n1, d1⟩, _⟩ := I.tuple ha
  obtain ⟨ws, vy, ⟨o2, e2, c2, n2, d2⟩, _⟩ := I.tuple hb
  obtain ⟨hsz, tr⟩ := seq_tree I ih rx ry vx vy h
  have := EqTree.tuples (prog := X.prog) (w := X.w) (s := s) (n := k) (e := fun _ => true) ne ⟨_, e1, c1, n1, d1⟩ ⟨_, e2, c2, n2, d2⟩ tr
  rw [hsz] at this
  rw [show ((List.range (min ws.toArray.size ws.toArray.size)).all (fun _ => true) && ws.toArray.size == ws.toArray.size) = true by rw [allT]; simp] at this
  exact this
open PySem.W in
theorem lst_tree (I : Inv X pins σ H s) {k : Nat} {a b : Addr} {xs ys : List V} {ds es : List D} (ih : ∀ d d' v v' u u', Rep X.K T m F d v → Rep X.K T m F d' v' → RelV v u → RelV v' u' → sameD k d d' = true → EqTree X.prog X.w s k u u' true)
    (ha : SqL X.K H a xs) (hb : SqL X.K H b ys) (rx : Reps X.K T m F ds xs) (ry : Reps X.K T m F es ys) (h : all2 (sameD k) ds es = true) : EqTree X.prog X.w s (k + 1) (.ref a) (.ref b) true := by
  refine refs_tree fun ne => ?_
  obtain ⟨us, vx, p1, _⟩ := I.list ha
  obtain ⟨ws, vy, p2, _⟩ := I.list hb
  obtain ⟨hsz, tr⟩ := seq_tree I ih rx ry vx vy h
  have := EqTree.lists (prog := X.prog) (w := X.w) (s := s) (n := k) (e := fun _ => true) ne p1.isList p2.isList hsz tr
  rw [allT] at this
  exact this
open PySem.W in
theorem same_tree (I : Inv X pins σ H s) (le : Le F H) : ∀ (k : Nat) (d d' : D) (v v' : V) (u u' : Value), Rep X.K T m F d v → Rep X.K T m F d' v' → RelV v u → RelV v' u' → sameD k d d' = true → EqTree X.prog X.w s k u u' true
  | 0, _, _, _, _, _, _, _, _, _, _, h => by cases h
  | k + 1, d, d', v, v', u, u', r, r', q, q', h => by
    have ih := same_tree I le k
    unfold sameD at h
    cases r with
    | non =>
      cases r' <;> simp at h
      exact .leaf fun A _ => eqAt_same q q' rfl
    | bl a =>
      cases r' <;> simp at h
      subst h
      exact .leaf fun A _ => eqAt_same q q' rfl
    | int a =>
      cases r' <;> simp at h
      subst h
      exact .leaf fun A _ => eqAt_same q q' rfl
    | str a =>
      cases r' <;> simp at h
      subst h
      exact .leaf fun A _ => eqAt_same q q' rfl
    | tup a rs =>
      cases q
      cases r' with
      | tup b rs' =>
        cases q'
        exact tup_tree I ih (.inl (.inl (le _ _ a))) (.inl (.inl (le _ _ b))) rs rs' h
      | ktup b rs' =>
        cases q'
        exact tup_tree I ih (.inl (.inl (le _ _ a))) ((Le.zero _).sqT b) rs rs' h
      | _ => cases h
    | ktup a rs =>
      cases q
      cases r' with
      | tup b rs' =>
        cases q'
        exact tup_tree I ih ((Le.zero _).sqT a) (.inl (.inl (le _ _ b))) rs rs' h
      | ktup b rs' =>
        cases q'
        exact tup_tree I ih ((Le.zero _).sqT a) ((Le.zero _).sqT b) rs rs' h
      | _ => cases h
    | lst a rs =>
      cases q
      cases r' with
      | lst b rs' =>
        cases q'
        exact lst_tree I ih (.inl (le.rd a)) (.inl (le.rd b)) rs rs' h
      | _ => cases h
    | @dct a ks xs ds ea la rs =>
     cases q
     cases r' with
     | @dct b ks' ys ds' eb lb rs' =>
      cases q'
      have h : (decide (ks.length = ks'.length) && sameKV (sameD k) ks' ds' ks ds) = true := h
      rw [Bool.and_eq_true, decide_eq_true_eq] at h
      obtain ⟨hl, hk⟩ := h
      refine refs_tree fun ne => ?_
      obtain ⟨_, ya, va, ra, da⟩ := (show ObjOk X.prog X.w H s.heap a (.dK (ks.zip xs)) from I.hok a _ (le _ _ ea))
      obtain ⟨_, yb, vb, rb, db⟩ := (show ObjOk X.prog X.w H s.heap b (.dK (ks'.zip ys)) from I.hok b _ (le _ _ eb))
      have key : ∀ kk vv, (kk, vv) ∈ va → ∃ y, valueAt vb kk = some y ∧ EqTree X.prog X.w s k vv y true := fun kk vv hm => by
        obtain ⟨j, x, e1, rxv⟩ := kv_at ra hm
        obtain ⟨e2, e3⟩ := zip_at e1
        obtain ⟨d1, e4, rd⟩ := rs.getV e3
        obtain ⟨d2, e5, e6⟩ := sameKV_get hk j kk d1 e2 e4
        obtain ⟨u2, e7, ru2⟩ := look_val rs' e5
        have rr : RelO (some u2) (valueAt vb kk) := by rw [← e7]; exact rb.val kk
        obtain ⟨y, hy, ry⟩ := rr.some_of
        exact ⟨y, hy, ih d1 d2 x u2 vv y rd ru2 rxv ry e6⟩
      have tr := EqTree.dicts (prog := X.prog) (w := X.w) (s := s) (n := k) (knd := mixKind X.prog X.w) (e := fun _ => true) ne ya yb da db (fun kk vv y hm hy => by
        obtain ⟨y', h1, h2⟩ := key kk vv hm
        rw [h1] at hy
        cases hy
        exact h2)
      have hlen : va.length = vb.length := by
        have l1 := ra.length
        have l2 := rb.length
        rw [List.length_zip] at l1 l2
        omega
      have hall : (va.all fun p => (valueAt vb p.1).isSome && true) = true := List.all_eq_true.mpr fun p hp => by
        obtain ⟨y', h1, _⟩ := key p.1 p.2 hp
        rw [h1]
        rfl
      rw [hall, hlen] at tr
      simpa using tr
     | _ => cases h
    | _ => cases r' <;> cases h
end
/-- x == y by their depth: the same things -/
def rEqS (K : PySem.W.Frag) : R2 := fun x y H Q => ∃ T m F d d', Le F H ∧ Rep K T m F d x ∧ Rep K T m F d' y ∧ sameD 60 d d' = true ∧ Q (.bl true) H
def isSeqD : D → Bool
  | .lst _ => true
  | .tup _ => true
  | .ktup _ => true
  | _ => false
open PySem.W in
theorem op_eqS {X : Cx} (hu : X.A.units + 65 < cLine) : OpR X (compareOp .Eq) (fun x y H Q => ∃ T m F d d', Le F H ∧ Rep X.K T m F d x ∧ Rep X.K T m F d' y ∧ isSeqD d = true ∧ sameD 60 d d' = true ∧ Q (.bl true) H) := by
  intro pins s σ H x y v u Q I rx ry h
  obtain ⟨T, m, F, d, d', le, r, r', hd, hs, q⟩ := h
  have ih := same_tree (T := T) (m := m) I le 59
  have tup : ∀ {a b : Addr} {xs ys : List V} {ds es : List D}, RelV (.ref a) v → RelV (.ref b) u → SqT X.K H a xs → SqT X.K H b ys → Reps X.K T m F ds xs → Reps X.K T m F es ys → all2 (sameD 59) ds es = true → wpAny (model X.prog X.w) X.A (compareOp .Eq v u) (EP X pins σ Q) (fun e s' => X.xe e s') s := by
    intro a b xs ys ds es hv hw ha hb rs rs' h
    cases hv
    cases hw
    obtain ⟨us, vx, ⟨o1, e1, c1, n1, d1⟩, _⟩ := I.tuple ha
    obtain ⟨ws, vy, ⟨o2, e2, c2, n2, d2⟩, _⟩ := I.tuple hb
    obtain ⟨hsz, tr⟩ := seq_tree I ih rs rs' vx vy h
    refine eq_tuplesT (n := 59) (e := fun _ => true) ⟨_, e1, c1, n1, d1⟩ ⟨_, e2, c2, n2, d2⟩ tr (by omega) (fin_bl I q ?_)
    rw [allT, hsz]
    simp
  cases r with
  | tup a rs =>
    cases r' with
    | tup b rs' => exact tup rx ry (.inl (.inl (le _ _ a))) (.inl (.inl (le _ _ b))) rs rs' hs
    | ktup b rs' => exact tup rx ry (.inl (.inl (le _ _ a))) ((Le.zero _).sqT b) rs rs' hs
    | _ => cases hs
  | ktup a rs =>
    cases r' with
    | tup b rs' => exact tup rx ry ((Le.zero _).sqT a) (.inl (.inl (le _ _ b))) rs rs' hs
    | ktup b rs' => exact tup rx ry ((Le.zero _).sqT a) ((Le.zero _).sqT b) rs rs' hs
    | _ => cases hs
  | lst a rs =>
    cases r' with
    | lst b rs' =>
      cases rx
      cases ry
      obtain ⟨us, vx, p1, _⟩ := I.list (.inl (le.rd a))
      obtain ⟨ws, vy, p2, _⟩ := I.list (.inl (le.rd b))
      obtain ⟨hsz, tr⟩ := seq_tree I ih rs rs' vx vy hs
      refine eq_listsT (n := 59) (e := fun _ => true) p1.isList p2.isList hsz tr (by omega) (fin_bl I q ?_)
      rw [allT]
    | _ => cases hs
  | _ => cases hd
def eqSeq (fl : Nat → List Str) (S : List Cell) (x y : D) : Bool := match fzD fl S 0 60 x, fzD fl S 0 60 y with
  | some a, some b => isSeqD a && sameD 60 a b
  | _, _ => false
def eqDD (S : List Cell) (x y : D) : Option Bool := match dctV S x, dctV S y with
  | some p, some q => eqDct S p q
  | _, _ => none
def opEq2 (fl : Nat → List Str) : Op2 := fun x y S => match eqD S x y with
  | some b => .ok (.bl b) S
  | none => match eqDD S x y with
    | some b => .ok (.bl b) S
    | none => if eqSeq fl S x y = true then .ok (.bl true) S else .bad
def opNe2 : Op2 := fun x y S => match eqD S x y with
  | some b => .ok (.bl (!b)) S
  | none => match eqDD S x y with
    | some b => .ok (.bl (!b)) S
    | none => .bad
def rEqAll (K : PySem.W.Frag) : R2 := fun x y H Q => rEqD K x y H Q ∨ (rEqX K x y H Q ∨ ∃ T m F d d', Le F H ∧ Rep K T m F d x ∧ Rep K T m F d' y ∧ isSeqD d = true ∧ sameD 60 d d' = true ∧ Q (.bl true) H)
def rNeAll (K : PySem.W.Frag) : R2 := fun x y H Q => rNeD K x y H Q ∨ rNeX K x y H Q
theorem op_eqAll {X : Cx} (hu : X.A.units + 65 < cLine) : OpR X (compareOp .Eq) (rEqAll X.K) := (op_eqD (by omega)).or ((op_eqX hu).or (op_eqS hu))
theorem op_neAll {X : Cx} (hu : X.A.units + 65 < cLine) : OpR X (compareOp .NotEq) (rNeAll X.K) := (op_neD (by omega)).or (op_neX hu)
theorem eqDD_rel {K : PySem.W.Frag} {T : Tab} {g : Gh} {m : List Addr} {F : Hp} {S : List Cell} {ρ : Slots} {σ : St} {H : Hp} (R : Rel K T g m F S ρ σ H) {x y : D} {v u : V} {b : Bool} (rx : Rep K T m F x v) (ry : Rep K T m F y u) (h : eqDD S x y = some b) :
    ∃ a c ks ls r, v = .ref a ∧ u = .ref c ∧ H a = some (.dK ks) ∧ H c = some (.dK ls) ∧ (ks.length = ls.length → HitD K H ls ks r) ∧ b = (ks.length == ls.length && r) := by
  unfold eqDD at h
  split at h
  · rename_i p q h1 h2
    exact eqDct_rel R rx ry h1 h2 h
  · cases h
theorem ops_eq2 {o : Wo} : OpS o (opEq2 o.T.fl) (rEqAll o.K) := by
  intro W m F S ρ σ H x y v u Q R rx ry q
  unfold opEq2 at q
  split at q
  · rename_i b e
    obtain ⟨d, e', h1, h2, s1, s2, rfl⟩ := eqD_of e
    exact .inl ⟨d, e', seen_dp R rx h1, seen_dp R ry h2, s1, s2, Aft.done R (.bl _) q⟩
  · split at q
    · rename_i b e
      obtain ⟨a, c, ks, ls, r, rfl, rfl, ha, hc, hp, rfl⟩ := eqDD_rel R rx ry e
      exact .inr (.inl ⟨a, c, ks, ls, r, rfl, rfl, ha, hc, hp, Aft.done R (.bl _) q⟩)
    · by_cases hs : eqSeq o.T.fl S x y = true
      · rw [if_pos hs] at q
        unfold eqSeq at hs
        split at hs
        · rename_i a b e1 e2
          obtain ⟨h1, h2⟩ := Bool.and_eq_true_iff.mp hs
          have r1 := fz_rel (n := 0) R _ _ _ _ rx e1
          have r2 := fz_rel (n := 0) R _ _ _ _ ry e2
          refine .inr (.inr ⟨o.T, m.take 0, stillF F H (m.drop 0), a, b, fun a' o' h => ?_, r1, r2, h1, h2, Aft.done R (.bl _) q⟩)
          by_cases hd : a' ∈ m.drop 0
          · unfold stillF at h
            rw [if_pos hd] at h
            exact h
          · rw [still_at' hd] at h
            exact R.le a' o' h
        · cases hs
      · rw [if_neg hs] at q
        exact q.elim
theorem ops_ne2 {o : Wo} : OpS o opNe2 (rNeAll o.K) := by
  intro W m F S ρ σ H x y v u Q R rx ry q
  unfold opNe2 at q
  split at q
  · rename_i b e
    obtain ⟨d, e', h1, h2, s1, s2, rfl⟩ := eqD_of e
    exact .inl ⟨d, e', seen_dp R rx h1, seen_dp R ry h2, s1, s2, Aft.done R (.bl _) q⟩
  · split at q
    · rename_i b e
      obtain ⟨a, c, ks, ls, r, rfl, rfl, ha, hc, hp, rfl⟩ := eqDD_rel R rx ry e
      exact .inr ⟨a, c, ks, ls, r, rfl, rfl, ha, hc, hp, Aft.done R (.bl _) q⟩
    · exact q.elim


section
variable {X : Cx} {o : Wo} {W : WX} {e : Expr}
/-- a new thing that may change from then on -/
def cellF (f : Ev) : Ev := fun ρ S => (f ρ S).bind fun d S1 => match asCell d with
  | some c => .ok (.loc S1.length) (S1 ++ [c])
  | none => .bad
theorem fe_cell {f : Ev} (h : PE X e (tN o W f)) : PE X e (tE o W (cellF f)) := PE.of h fun σ H Q ⟨m, F, S, ρ, R, q⟩ => by
  refine ⟨m, F, S, ρ, R, ?_⟩
  unfold cellF at q
  cases hr : f ρ S with
  | ok d S1 =>
    rw [hr] at q
    intro m1 F1 H1 p u pr le R1 hp n
    obtain ⟨c, ec, hc⟩ := n.cell (H := H1) (p := p) (List.prefix_append m1 [p])
    have q' : Aft o m F ρ σ W (match asCell d with
      | some c => Res.ok (.loc S1.length) (S1 ++ [c])
      | none => .bad) Q := q
    rw [ec] at q'
    have R2 := R1.push hp hc
    have rl : Rep o.K o.T (m1 ++ [p]) F1 (.loc S1.length) (.ref p) := .loc (by rw [← R1.len]; simp)
    exact q' (m1 ++ [p]) F1 _ _ (pr.trans (List.prefix_append m1 [p])) le R2 rl
  | err c d S1 =>
    rw [hr] at q
    exact q
  | bad =>
    rw [hr] at q
    exact q
end

section
variable {X : Cx} {CX : CXT} {k n : Nat} {f C : Addr} {fd : FuncData} {ps ks : List Str} {sp : Sp} {E : St → XK} {x m : Str} {p pos apos : Pos} {e ob : Expr} {es : List Expr} {kws : List Keyword} {ta : TE} {t tk : TA}
  {gg : List Value → List Value → List Value} {gV : List V → List V → List V}
theorem runKS {pins : List (Addr × Obj)} {σ : St} {H : Hp} {s : Shared} {Q : VK} {us ws : List Value} {vs zs : List V} (F : FnOk X.prog X.w X.K X.mg X.base CX k f fd ps sp) (hr : Room k X.A) (hb : KBn X.K fd ps n ks gg gV) (hx : PassesAt CX X σ (E σ))
    (I : Inv X pins σ H s) (r : Vals vs us) (rz : Vals zs ws) (l1 : vs.length = n) (l2 : zs.length = ks.length) (h : sp (gV vs zs) H Q (E σ)) : wpAny (model X.prog X.w) X.A (call (.ref f) us (ks.zip ws)) (EP X pins σ Q) X.xe s := by
  refine wpAny_call (codeAny_mono (F.run X.A X.stack s H ⟨us, ks.zip ws⟩ (gg us ws) (gV vs zs) Q (E σ) hr I.env0 (hb.to s us ws I.kIn (by rw [← r.length]; exact l1) (by rw [← rz.length]; exact l2)) (hb.rel r rz) h) fun r s' hq => ?_)
  cases r with
  | error e => exact hx pins H s e s' I hq
  | ok fl =>
    cases fl with
    | ret u => exact I.after hq
    | next => exact False.elim hq
    | brk => exact False.elim hq
    | cont => exact False.elim hq
def tCallKS (n m : Nat) (sp : Sp) (gV : List V → List V → List V) (E : St → XK) (t tk : TA) : TE := fun σ H Q => t σ H fun vs H1 => tk σ H1 fun zs H2 => vs.length = n ∧ zs.length = m ∧ sp (gV vs zs) H2 Q (E σ)
theorem pe_callKS0 (F : FnOk X.prog X.w X.K X.mg X.base CX k f fd ps sp) (hr : Room k X.A) (hg : Gl X x) (hm : X.mg x = some (.ref f)) (hk : PySem.W.keepIn X.K (.ref f) = true) (hb : KBn X.K fd ps 0 ks gg gV) (hx : ∀ σ, PassesAt CX X σ (E σ)) (hkw : PK X kws tk)
    (hall : (backToKw pos (keywordEach kws X.env)).all (·.1.isSome) = true) (hks : (backToKw pos (keywordEach kws X.env)).filterMap (·.1) = ks) (hdb : (x == ("__debug__" : Str)) = false)
    (hpl : ((backTo pos (starEach [] X.env)).any (·.1) || (backToKw pos (keywordEach kws X.env)).any (·.1.isNone)) = false) :
    PE X (.Call (.Name x p) [] kws pos) (tCallKS 0 ks.length sp gV E tNil tk) := by
  refine ⟨fun pins s σ H Q I h => ?_⟩
  refine wpAny_Call_Name_kw (ld_glob I hg hm ?_ hdb)
  refine PySem.W.callWith_KW0 (h₀ := X.base) I.ok.mod.kin hk hall ?_ hpl
  refine thn (hkw.run pos pins s σ H _ I h) fun ws s2 ⟨zs, H2, I2, rz, l1, l2, q2⟩ => ⟨I2.kIn, ?_⟩
  rw [hks]
  exact runKS (us := []) (vs := []) F hr hb (hx σ) I2 .nil rz rfl l2 q2
theorem pe_callKS (F : FnOk X.prog X.w X.K X.mg X.base CX k f fd ps sp) (hr : Room k X.A) (hg : Gl X x) (hm : X.mg x = some (.ref f)) (hk : PySem.W.keepIn X.K (.ref f) = true) (hb : KBn X.K fd ps n ks gg gV) (hx : ∀ σ, PassesAt CX X σ (E σ)) (ha : PA X (e :: es) t) (hkw : PK X kws tk)
    (hall : (backToKw pos (keywordEach kws X.env)).all (·.1.isSome) = true) (hks : (backToKw pos (keywordEach kws X.env)).filterMap (·.1) = ks) (hdb : (x == ("__debug__" : Str)) = false) (he : starEach (e :: es) X.env = (false, eval e X.env) :: starEach es X.env)
    (hpl : ((backTo pos (starEach (e :: es) X.env)).any (·.1) || (backToKw pos (keywordEach kws X.env)).any (·.1.isNone)) = false) :
    PE X (.Call (.Name x p) (e :: es) kws pos) (tCallKS n ks.length sp gV E t tk) := by
  refine ⟨fun pins s σ H Q I h => ?_⟩
  refine wpAny_Call_Name_kw (ld_glob I hg hm ?_ hdb)
  refine PySem.W.callWith_KW (h₀ := X.base) I.ok.mod.kin hk hall (thn (ha.run pos pins s σ H _ I h) fun us s1 ⟨vs, H1, I1, r, q⟩ => ?_) hpl he
  refine thn (hkw.run pos pins s1 σ H1 _ I1 q) fun ws s2 ⟨zs, H2, I2, rz, l1, l2, q2⟩ => ⟨I2.kIn, ?_⟩
  rw [hks]
  exact runKS F hr hb (hx σ) I2 r rz l1 l2 q2
theorem run_makeS {pins : List (Addr × Obj)} {σ : St} {H : Hp} {s : Shared} {Q : VK} {us : List Value} {vs : List V} (M : Mk X.K C f) (F : FnOk X.prog X.w X.K X.mg X.base CX k f fd ps sp) (hr : Room (k + 1) X.A) (hb : Binds X.K fd ps [])
    (hx : PassesAt CX X σ (E σ)) (I : Inv X pins σ H s) (r : Vals vs us)
    (h : ∀ x dx, H x = none → H dx = none → dx ≠ x → sp (.ref x :: vs) (upd (upd H dx (.own x)) x (.ins C dx [])) (fun v H2 => v = .non ∧ Q (.ref x) H2) (E σ)) :
    wpAny (model X.prog X.w) X.A (call (.ref C) us) (EP X pins σ Q) X.xe s := by
  have hq := h (s.heap.objs.size + 1) s.heap.objs.size (I.hok.fresh (Nat.le_succ _)) (I.hok.fresh (Nat.le_refl _)) (Nat.ne_of_lt (Nat.lt_succ_self _))
  have I2 := Inv.made (C := C) I
  have r2 : Vals (V.ref (s.heap.objs.size + 1) :: vs) (Value.ref (s.heap.objs.size + 1) :: us) := .cons rfl r
  have hl : (Value.ref (s.heap.objs.size + 1) :: us).length = ps.length := by
    have z := r2.length
    rw [F.len _ _ _ _ hq] at z
    exact z.symm
  have b := hb _ (Value.ref (s.heap.objs.size + 1) :: us) I2.kIn (by rw [List.append_nil]; exact hl)
  rw [List.append_nil] at b
  refine wpAny_call (make_map (f := f) I.kIn M.makes M.init (beq_iff_eq.mp M.fn) (codeAny_mono (F.run _ X.stack _ _ ⟨Value.ref (s.heap.objs.size + 1) :: us, []⟩ (Value.ref (s.heap.objs.size + 1) :: us) _ _ (E σ) (hr.make C us [])
    (I2.env0.make C us []) b r2 hq) fun r s' hq' => ?_))
  cases r with
  | error e => exact hx pins _ _ e s' I2 hq'
  | ok fl =>
    cases fl with
    | ret u =>
      obtain ⟨v, H', I3, rv, ev, q3⟩ := I2.after hq'
      subst ev
      exact ⟨rv, ⟨V.ref (s.heap.objs.size + 1), H', I3, rfl, q3⟩⟩
    | next => exact False.elim hq'
    | brk => exact False.elim hq'
    | cont => exact False.elim hq'
def tMakeS (C : Addr) (sp : Sp) (E : St → XK) (t : TA) : TE := fun σ H Q => t σ H fun vs H1 => ∀ x dx, H1 x = none → H1 dx = none → dx ≠ x →
  sp (.ref x :: vs) (upd (upd H1 dx (.own x)) x (.ins C dx [])) (fun v H2 => v = .non ∧ Q (.ref x) H2) (E σ)
theorem pe_makeS (M : Mk X.K C f) (F : FnOk X.prog X.w X.K X.mg X.base CX k f fd ps sp) (hr : Room (k + 1) X.A) (hg : Gl X x) (hm : X.mg x = some (.ref C)) (hb : Binds X.K fd ps []) (hx : ∀ σ, PassesAt CX X σ (E σ))
    (ha : PA X (e :: es) t) (hdb : (x == ("__debug__" : Str)) = false) (he : starEach (e :: es) X.env = (false, eval e X.env) :: starEach es X.env) (hpl : (backTo pos (starEach es X.env)).any (·.1) = false) :
    PE X (.Call (.Name x p) (e :: es) [] pos) (tMakeS C sp E t) := by
  refine ⟨fun pins s σ H Q I h => ?_⟩
  refine wpAny_Call_Name_kw (ld_glob I hg hm ?_ hdb)
  refine PySem.W.callWith_K (h₀ := X.base) I.ok.mod.kin M.kp (thn (ha.run pos pins s σ H _ I h) fun us s1 ⟨vs, H1, I1, r, q⟩ => ⟨I1.kIn, ?_⟩) he hpl
  exact run_makeS M F hr hb (hx σ) I1 r q
theorem pe_makeS0 (M : Mk X.K C f) (F : FnOk X.prog X.w X.K X.mg X.base CX k f fd ps sp) (hr : Room (k + 1) X.A) (hg : Gl X x) (hm : X.mg x = some (.ref C)) (hb : Binds X.K fd ps []) (hx : ∀ σ, PassesAt CX X σ (E σ)) (hdb : (x == ("__debug__" : Str)) = false) :
    PE X (.Call (.Name x p) [] [] pos) (tMakeS C sp E tNil) := by
  refine ⟨fun pins s σ H Q I h => ?_⟩
  refine wpAny_Call_Name_kw (ld_glob I hg hm ?_ hdb)
  exact PySem.W.callWith_K0 I.kIn M.kp (run_makeS (us := []) M F hr hb (hx σ) I .nil h)
def tMethS (C : Addr) (m : Str) (sp : Sp) (E : St → XK) (ta : TE) (t : TA) : TE := fun σ H Q => ta σ H fun x H1 => ∃ a dx fs, x = .ref a ∧ H1 a = some (.ins C dx fs) ∧ fs.lookup m = none ∧ t σ H1 fun vs H2 => sp (x :: vs) H2 Q (E σ)
theorem pe_methS {pl : Sem Bool} (he : PE X ob ta) (c : Cls X.K C) (hm : Meth X.K C m f) (F : FnOk X.prog X.w X.K X.mg X.base CX k f fd ps sp) (hr : Room k X.A) (hb : Binds X.K fd ps []) (hx : ∀ σ, PassesAt CX X σ (E σ)) (ha : PA X (e :: es) t)
    (hst : starEach (e :: es) X.env = (false, eval e X.env) :: starEach es X.env) (hpl : (backTo pos (starEach es X.env)).any (·.1) = false)
    (ht : eval (.Call (.Attribute ob m apos) (e :: es) [] pos) X.env = (do
      let ov ← eval ob X.env
      standAt apos.atName
      let (f, first) ← holding [ov] (getMethod ov m pl)
      callWith pos f first (backTo pos (starEach (e :: es) X.env)) (backToKw pos (keywordEach [] X.env)))) :
    PE X (.Call (.Attribute ob m apos) (e :: es) [] pos) (tMethS C m sp E ta t) := by
  refine ⟨fun pins s σ H Q I h => ?_⟩
  refine PySem.W.methodCall_KW (pl := pl) (thn (he.run pins s σ H _ I h) fun u s1 ⟨x, H1, I1, rx, a, dx, fs, ex, ea, l, q⟩ => ?_) ht
  subst ex
  obtain rfl : u = Value.ref a := rx
  refine getmeth_ok I1 ea c hm l ?_
  refine PySem.W.callWith_K (first := [.ref a]) (h₀ := X.base) I.ok.mod.kin hm.kp (thn (ha.run pos pins s1 σ H1 _ I1 q) fun us s2 ⟨vs, H2, I2, r, q2⟩ => ⟨I2.kIn, ?_⟩) hst hpl
  exact run_fnS (us := .ref a :: us) (vs := .ref a :: vs) F hr hb (hx σ) I2 (.cons rfl r) q2
theorem pe_methS0 {pl : Sem Bool} (he : PE X ob ta) (c : Cls X.K C) (hm : Meth X.K C m f) (F : FnOk X.prog X.w X.K X.mg X.base CX k f fd ps sp) (hr : Room k X.A) (hb : Binds X.K fd ps []) (hx : ∀ σ, PassesAt CX X σ (E σ))
    (ht : eval (.Call (.Attribute ob m apos) [] [] pos) X.env = (do
      let ov ← eval ob X.env
      standAt apos.atName
      let (f, first) ← holding [ov] (getMethod ov m pl)
      callWith pos f first (backTo pos (starEach [] X.env)) (backToKw pos (keywordEach [] X.env)))) :
    PE X (.Call (.Attribute ob m apos) [] [] pos) (tMethS C m sp E ta tNil) := by
  refine ⟨fun pins s σ H Q I h => ?_⟩
  refine PySem.W.methodCall_KW (pl := pl) (thn (he.run pins s σ H _ I h) fun u s1 ⟨x, H1, I1, rx, a, dx, fs, ex, ea, l, q⟩ => ?_) ht
  subst ex
  obtain rfl : u = Value.ref a := rx
  refine getmeth_ok I1 ea c hm l ?_
  exact PySem.W.callWith_K0 (first := [.ref a]) I1.kIn hm.kp (run_fnS (us := [.ref a]) (vs := [.ref a]) F hr hb (hx σ) I1 (.cons rfl .nil) q)
end

def pick {α : Type} (ix : List Nat) (l : List α) : List α := ix.filterMap (l[·]?)
theorem vals_pick {ix : List Nat} {vs : List V} {us : List Value} (r : Vals vs us) : Vals (pick ix vs) (pick ix us) := by
  unfold pick
  induction ix with
  | nil => exact .nil
  | cons i ix ih =>
    rw [List.filterMap_cons, List.filterMap_cons]
    cases e : vs[i]? with
    | none =>
      have : us[i]? = none := by
        rw [List.getElem?_eq_none_iff] at e ⊢
        rw [← r.length]
        exact e
      rw [this]
      exact ih
    | some v =>
      obtain ⟨u, hu, ru⟩ := r.get e
      rw [hu]
      exact .cons ru ih
theorem reps_pick {K : PySem.W.Frag} {T : Tab} {m : List Addr} {F : Hp} {ix : List Nat} {ds : List D} {vs : List V} (r : Reps K T m F ds vs) : Reps K T m F (pick ix ds) (pick ix vs) := by
  unfold pick
  induction ix with
  | nil => exact .nil
  | cons i ix ih =>
    rw [List.filterMap_cons, List.filterMap_cons]
    cases e : ds[i]? with
    | none =>
      have : vs[i]? = none := by
        rw [List.getElem?_eq_none_iff] at e ⊢
        rw [← r.length]
        exact e
      rw [this]
      exact ih
    | some d =>
      obtain ⟨u, hu, ru⟩ := r.get e
      rw [hu]
      exact .cons ru ih
/-- how keywords bind, no default: ix puts what is given in the parameters' order -/
theorem kbn_of {K : PySem.W.Frag} {x qual : Str} {st : Stmt} {f : Addr} {fd : FuncData} {ps ks : List Str} {n : Nat} {ix : List Nat} (F : Fun K x qual st f fd)
    (h : ∀ (kV doc pm : Value) (an : Option Addr) (cdv ct : Value) (us ws : List Value), us.length = n → ws.length = ks.length → bindArgs (PySem.W.fnOf x qual (defArgs st) (defBody st) (defScope st) .none kV doc pm an cdv ct) ⟨us, ks.zip ws⟩ = pure (ps.zip (pick ix (us ++ ws)))) :
    KBn K fd ps n ks (fun us ws => pick ix (us ++ ws)) (fun vs zs => pick ix (vs ++ zs)) := by
  obtain ⟨oc, od, kV, doc, pm, an, cdv, ct, osl, rfl, lk, hcd⟩ := F.ex
  exact ⟨fun s us ws _ l1 l2 => .of_eq (h kV doc pm an cdv ct us ws l1 l2), fun r1 r2 => vals_pick (r1.append r2)⟩
section
variable {X : Cx} {o : Wo} {W : WX} {k n : Nat} {f C : Addr} {fd : FuncData} {ps ks : List Str} {G : Fn} {x mn : Str} {p pos apos kpos : Pos} {e ob : Expr} {es : List Expr} {kws : List Keyword} {fs kfs : List Ev} {fe fo : Ev} {ix : List Nat}
theorem fk_nil : PK X [] (tAs o W []) := pk_nil
theorem fk_cons {nm : Option Str} (ha : PE X e (tE o W fe)) (hr : PK X kws (tAs o W fs)) : PK X (⟨nm, e, kpos⟩ :: kws) (tAs o W (fe :: fs)) := pk_cons ha hr
def callKF (ix : List Nat) (G : Fn) (fs kfs : List Ev) : Ev := fun ρ S => evs fs ρ S fun ds S1 => evs kfs ρ S1 fun es S2 => G (pick ix (ds ++ es)) S2
theorem fe_callK (hl : ix.length = ps.length) (hi : ∀ i ∈ ix, i < fs.length + kfs.length) (hn : fs.length = n) (hkn : kfs.length = ks.length)
    (FO : FnOk X.prog X.w X.K X.mg X.base (L2N.CX X.prog X.w) k f fd ps (spF o.K o.T ps.length G)) (hr : Room k X.A) (hg : Gl X x) (hm : X.mg x = some (.ref f)) (hk : PySem.W.keepIn X.K (.ref f) = true)
    (hb : KBn X.K fd ps n ks (fun us ws => pick ix (us ++ ws)) (fun vs zs => pick ix (vs ++ zs))) (tk : L2N.Takes X W) (ha : PA X (e :: es) (tAs o W fs)) (hkw : PK X kws (tAs o W kfs))
    (hall : (backToKw pos (keywordEach kws X.env)).all (·.1.isSome) = true) (hks : (backToKw pos (keywordEach kws X.env)).filterMap (·.1) = ks) (hdb : (x == ("__debug__" : Str)) = false) (he : starEach (e :: es) X.env = (false, eval e X.env) :: starEach es X.env)
    (hpl : ((backTo pos (starEach (e :: es) X.env)).any (·.1) || (backToKw pos (keywordEach kws X.env)).any (·.1.isNone)) = false) :
    PE X (.Call (.Name x p) (e :: es) kws pos) (tE o W (callKF ix G fs kfs)) := PE.of (pe_callKS FO hr hg hm hk hb (fun σ => L2N.passAt tk σ) ha hkw hall hks hdb he hpl) fun σ H Q q => by
  obtain ⟨m, F, S, ρ, R, q⟩ := q
  refine args_imp R q fun m1 F1 S1 ds vs H1 p1 e1 R1 reps hl1 q1 => ?_
  refine args_imp R1 q1 fun m2 F2 S2 es zs H2 p2 e2 R2 reps2 hl2 q2 => ?_
  have rr := reps_pick (ix := ix) ((reps.mono p2 e2).append reps2)
  refine ⟨by rw [← reps.length, hl1, hn], by rw [← reps2.length, hl2, hkn], ?_, m2, F2, S2, _, R2.self, rr, call_imp R2 q2⟩
  show (pick ix (vs ++ zs)).length = ps.length
  rw [← hl]
  unfold pick
  have tot : ∀ (l : List Nat), (∀ i ∈ l, i < fs.length + kfs.length) → (l.filterMap ((vs ++ zs)[·]?)).length = l.length := by
    intro l
    induction l with
    | nil => intro _; rfl
    | cons i l ih =>
      intro hi
      have hlt : i < (vs ++ zs).length := by
        rw [List.length_append, ← reps.length, ← reps2.length, hl1, hl2]
        exact hi i List.mem_cons_self
      rw [List.filterMap_cons, List.getElem?_eq_getElem hlt]
      show (_ :: _).length = _
      rw [List.length_cons, List.length_cons, ih fun j hj => hi j (List.mem_cons_of_mem _ hj)]
  exact tot ix hi
theorem fe_callK0 (hl : ix.length = ps.length) (hi : ∀ i ∈ ix, i < kfs.length) (hkn : kfs.length = ks.length)
    (FO : FnOk X.prog X.w X.K X.mg X.base (L2N.CX X.prog X.w) k f fd ps (spF o.K o.T ps.length G)) (hr : Room k X.A) (hg : Gl X x) (hm : X.mg x = some (.ref f)) (hk : PySem.W.keepIn X.K (.ref f) = true)
    (hb : KBn X.K fd ps 0 ks (fun us ws => pick ix (us ++ ws)) (fun vs zs => pick ix (vs ++ zs))) (tk : L2N.Takes X W) (hkw : PK X kws (tAs o W kfs))
    (hall : (backToKw pos (keywordEach kws X.env)).all (·.1.isSome) = true) (hks : (backToKw pos (keywordEach kws X.env)).filterMap (·.1) = ks) (hdb : (x == ("__debug__" : Str)) = false)
    (hpl : ((backTo pos (starEach [] X.env)).any (·.1) || (backToKw pos (keywordEach kws X.env)).any (·.1.isNone)) = false) :
    PE X (.Call (.Name x p) [] kws pos) (tE o W (callKF ix G [] kfs)) := PE.of (pe_callKS0 FO hr hg hm hk hb (fun σ => L2N.passAt tk σ) hkw hall hks hdb hpl) fun σ H Q q => by
  obtain ⟨m, F, S, ρ, R, q⟩ := q
  have q : Aft o m F ρ σ W (evs kfs ρ S fun es S2 => G (pick ix ([] ++ es)) S2) Q := q
  refine args_imp R q fun m2 F2 S2 es zs H2 p2 e2 R2 reps2 hl2 q2 => ?_
  have rr := reps_pick (ix := ix) reps2
  refine ⟨rfl, by rw [← reps2.length, hl2, hkn], ?_, m2, F2, S2, _, R2.self, rr, call_imp R2 q2⟩
  show (pick ix ([] ++ zs)).length = ps.length
  rw [← hl, List.nil_append]
  unfold pick
  have tot : ∀ (l : List Nat), (∀ i ∈ l, i < kfs.length) → (l.filterMap (zs[·]?)).length = l.length := by
    intro l
    induction l with
    | nil => intro _; rfl
    | cons i l ih =>
      intro hi
      have hlt : i < zs.length := by
        rw [← reps2.length, hl2]
        exact hi i List.mem_cons_self
      rw [List.filterMap_cons, List.getElem?_eq_getElem hlt]
      show (_ :: _).length = _
      rw [List.length_cons, List.length_cons, ih fun j hj => hi j (List.mem_cons_of_mem _ hj)]
  exact tot ix hi

def mkR (c : Nat) (G : Fn) (ds : List D) (S : List Cell) : Res := match G (.loc S.length :: ds) (S ++ [.obj c [] []]) with
  | .ok .non S' => .ok (.loc S.length) S'
  | .err cc d S' => .err cc d S'
  | _ => .bad
def makeF (c : Nat) (G : Fn) (fs : List Ev) : Ev := fun ρ S => evs fs ρ S (mkR c G)
/-- .. an object that does not change any more -/
def makeZ (fl : Nat → List Str) (c : Nat) (G : Fn) (fs : List Ev) : Ev := fun ρ S => evs fs ρ S fun ds S1 => sealR fl S1.length (mkR c G ds S1)
theorem make_core {K : PySem.W.Frag} {T : Tab} {m : List Addr} {F : Hp} {S : List Cell} {H : Hp} {c : Nat} {ds : List D} {vs : List V} {Q : VK} {E : XK} (R : Rel K T ⟨H, m, F⟩ m F S [] [] H) (reps : Reps K T m F ds vs) (hl : vs.length = n) (q : CAft K T H m F (mkR c G ds S) Q E) :
    ∀ x dx, H x = none → H dx = none → dx ≠ x → spF K T (n + 1) G (.ref x :: vs) (upd (upd H dx (.own x)) x (.ins (T.cls c) dx [])) (fun v H2 => v = .non ∧ Q (.ref x) H2) E := by
  intro x dx hx hdx ne
  have R1 := R.wide (Le.new (o := .own x) hdx)
  have hx1 : upd H dx (.own x) x = none := by rw [upd_ne ne.symm]; exact hx
  have R2 := R1.push (p := x) (o := .ins (T.cls c) dx []) (c := .obj c [] []) hx1 (.obj (xs := []) (ns := []) upd_same rfl .nil)
  have pr : m <+: m ++ [x] := List.prefix_append m [x]
  refine ⟨by rw [List.length_cons, hl], m ++ [x], F, S ++ [.obj c [] []], .loc S.length :: ds, R2.self, .cons (.loc (by rw [← R.len]; simp)) (reps.mono pr (Le.refl F)), ?_⟩
  unfold mkR at q
  split at q
  · rename_i S' e
    rw [e]
    intro m' F' v H' p1 e1 R' rep
    cases rep
    exact ⟨rfl, q m' F' (.ref x) H' (pr.trans p1) e1 (R2.back R' p1 e1) (.loc (pre_get p1 (by rw [← R.len]; simp)))⟩
  · rename_i cc d S' e
    rw [e]
    intro m' F' v H' dd p1 e1 R' rep hd
    exact q m' F' v H' dd (pr.trans p1) e1 (R2.back R' p1 e1) rep hd
  · exact q.elim
theorem fe_make {c : Nat} (hn : fs.length = n) (M : Mk X.K (o.T.cls c) f) (FO : FnOk X.prog X.w X.K X.mg X.base (L2N.CX X.prog X.w) k f fd ps (spF o.K o.T (n + 1) G)) (hr : Room (k + 1) X.A) (hg : Gl X x) (hm : X.mg x = some (.ref (o.T.cls c))) (hb : Binds X.K fd ps []) (tk : L2N.Takes X W)
    (ha : PA X (e :: es) (tAs o W fs)) (hdb : (x == ("__debug__" : Str)) = false) (he : starEach (e :: es) X.env = (false, eval e X.env) :: starEach es X.env) (hpl : (backTo pos (starEach es X.env)).any (·.1) = false) :
    PE X (.Call (.Name x p) (e :: es) [] pos) (tE o W (makeF c G fs)) := PE.of (pe_makeS M FO hr hg hm hb (fun σ => L2N.passAt tk σ) ha hdb he hpl) fun σ H Q q => by
  obtain ⟨m, F, S, ρ, R, q⟩ := q
  exact args_imp R q fun m1 F1 S1 ds vs H1 p1 e1 R1 reps hl q1 => make_core R1.self reps (by rw [← reps.length, hl, hn]) (call_imp R1 q1)
theorem fe_makeZ {c : Nat} (hn : fs.length = n) (M : Mk X.K (o.T.cls c) f) (FO : FnOk X.prog X.w X.K X.mg X.base (L2N.CX X.prog X.w) k f fd ps (spF o.K o.T (n + 1) G)) (hr : Room (k + 1) X.A) (hg : Gl X x) (hm : X.mg x = some (.ref (o.T.cls c))) (hb : Binds X.K fd ps []) (tk : L2N.Takes X W)
    (ha : PA X (e :: es) (tAs o W fs)) (hdb : (x == ("__debug__" : Str)) = false) (he : starEach (e :: es) X.env = (false, eval e X.env) :: starEach es X.env) (hpl : (backTo pos (starEach es X.env)).any (·.1) = false) :
    PE X (.Call (.Name x p) (e :: es) [] pos) (tE o W (makeZ o.T.fl c G fs)) := PE.of (pe_makeS M FO hr hg hm hb (fun σ => L2N.passAt tk σ) ha hdb he hpl) fun σ H Q q => by
  obtain ⟨m, F, S, ρ, R, q⟩ := q
  exact args_imp R q fun m1 F1 S1 ds vs H1 p1 e1 R1 reps hl q1 => make_core R1.self reps (by rw [← reps.length, hl, hn]) (CAft.unseal R1.len (call_imp R1 q1))
theorem fe_make0 {c : Nat} (M : Mk X.K (o.T.cls c) f) (FO : FnOk X.prog X.w X.K X.mg X.base (L2N.CX X.prog X.w) k f fd ps (spF o.K o.T 1 G)) (hr : Room (k + 1) X.A) (hg : Gl X x) (hm : X.mg x = some (.ref (o.T.cls c))) (hb : Binds X.K fd ps []) (tk : L2N.Takes X W)
    (hdb : (x == ("__debug__" : Str)) = false) : PE X (.Call (.Name x p) [] [] pos) (tE o W (makeF c G [])) := PE.of (pe_makeS0 M FO hr hg hm hb (fun σ => L2N.passAt tk σ) hdb) fun σ H Q q => by
  obtain ⟨m, F, S, ρ, R, q⟩ := q
  exact make_core (n := 0) R.self .nil rfl (call_imp R q)

def objV (fl : Nat → List Str) (S : List Cell) : D → Option (Nat × List Str × List D)
  | .obj c l => some (c, fl c, l)
  | .loc n => match S[n]? with
    | some (.obj c ns l) => some (c, ns, l)
    | _ => none
  | _ => none
theorem objV_rel {K : PySem.W.Frag} {T : Tab} {g : Gh} {m : List Addr} {F : Hp} {S : List Cell} {ρ : Slots} {σ : St} {H : Hp} {d : D} {v : V} {p : Nat × List Str × List D} (R : Rel K T g m F S ρ σ H) (r : Rep K T m F d v) (h : objV T.fl S d = some p) :
    ∃ a dx xs, v = .ref a ∧ H a = some (.ins (T.cls p.1) dx (p.2.1.zip xs)) ∧ p.2.1.length = xs.length ∧ Reps K T m F p.2.2 xs := by
  cases r with
  | @obj a dx c xs ds q l rs =>
    cases h
    exact ⟨a, dx, xs, rfl, R.le _ _ q, l, rs⟩
  | @loc n a hm =>
    unfold objV at h
    dsimp only at h
    split at h
    · rename_i c ns l e
      cases h
      cases R.cell n a _ hm e with
      | obj q l rs => exact ⟨a, _, _, rfl, q, l, rs⟩
    · cases h
  | _ => cases h
theorem look_lookup {K : PySem.W.Frag} {T : Tab} {m : List Addr} {F : Hp} {fn : Str} : ∀ {ns : List Str} {ds : List D} {xs : List V} {d : D}, Reps K T m F ds xs → look ns ds fn = some d → ∃ v, (ns.zip xs).lookup fn = some v ∧ Rep K T m F d v
  | [], _, _, _, _, h => by cases h
  | _ :: _, [], _, _, _, h => by cases h
  | k :: ks, d0 :: ds, _, d, r, h => by
    cases r with
    | @cons _ _ v vs r rs =>
      unfold look at h
      show ∃ w, List.lookup fn ((k, v) :: ks.zip vs) = some w ∧ _
      by_cases e : k = fn
      · rw [if_pos e] at h
        cases h
        have hb : (fn == k) = true := beq_iff_eq.mpr e.symm
        refine ⟨v, ?_, r⟩
        rw [List.lookup_cons, hb]
      · rw [if_neg e] at h
        obtain ⟨w, h1, h2⟩ := look_lookup rs h
        have hb : (fn == k) = false := beq_eq_false_iff_ne.mpr fun z => e z.symm
        refine ⟨w, ?_, h2⟩
        rw [List.lookup_cons, hb]
        exact h1
theorem lookup_out {fn : Str} : ∀ {ns : List Str} {xs : List V}, fn ∉ ns → (ns.zip xs).lookup fn = none
  | [], _, _ => rfl
  | _ :: _, [], _ => rfl
  | k :: ks, x :: xs, h => by
    rw [List.mem_cons] at h
    have hb : (fn == k) = false := beq_eq_false_iff_ne.mpr fun z => h (.inl z)
    show List.lookup fn ((k, x) :: ks.zip xs) = none
    rw [List.lookup_cons, hb]
    exact lookup_out fun z => h (.inr z)
def getF (fl : Nat → List Str) (c : Nat) (fn : Str) (x : D) (S : List Cell) : Res := match objV fl S x with
  | some (c', ns, l) => if c' = c then (match look ns l fn with
    | some d => .ok d S
    | none => .bad) else .bad
  | none => .bad
def fldF (fl : Nat → List Str) (c : Nat) (fn : Str) (f : Ev) : Ev := fun ρ S => (f ρ S).bind (getF fl c fn)
theorem fe_fld {c : Nat} {fn : Str} (hK : X.K = o.K) (he : PE X e (tE o W fe)) (hb : attributeBase e fn X.env (eval e X.env) = eval e X.env) (hc : Cls X.K (o.T.cls c)) (hn : NoAttr X.K (o.T.cls c) fn) : PE X (.Attribute e fn pos) (tE o W (fldF o.T.fl c fn fe)) :=
  PE.of (pe_fld he hb) fun σ H Q q => by
  obtain ⟨m, F, S, ρ, R, q⟩ := q
  refine ⟨m, F, S, ρ, R, (Aft.bind q).map ?_⟩
  rintro x H1 ⟨m1, F1, S1, d1, p1, e1, R1, rep1, q1⟩
  unfold getF at q1
  split at q1
  · rename_i c' ns l ho
    by_cases hcc : c' = c
    · subst hcc
      rw [if_pos rfl] at q1
      split at q1
      · rename_i d hd
        obtain ⟨a, dx, xs, rfl, ha, hl, rs⟩ := objV_rel R1 rep1 ho
        obtain ⟨v, hv, rv⟩ := look_lookup rs hd
        exact ⟨a, _, dx, _, v, rfl, ha, hc, hn, hv, Aft.done R1 rv q1⟩
      · exact q1.elim
    · rw [if_neg hcc] at q1
      exact q1.elim
  · exact q1.elim
theorem putF_zip {K : PySem.W.Frag} {T : Tab} {m : List Addr} {F : Hp} {fn : Str} {d : D} {v : V} (r : Rep K T m F d v) : ∀ {ns : List Str} {ds : List D} {xs : List V}, ns.length = xs.length → Reps K T m F ds xs →
    ∃ xs', putF fn v (ns.zip xs) = (if fn ∈ ns then ns else ns ++ [fn]).zip xs' ∧ (if fn ∈ ns then ns else ns ++ [fn]).length = xs'.length ∧ Reps K T m F (putDs ns ds fn d) xs'
  | [], ds, xs, hl, rs => by
    cases xs with
    | nil =>
      cases rs
      exact ⟨[v], rfl, rfl, .cons r .nil⟩
    | cons x xs => cases hl
  | k :: ks, ds, xs, hl, rs => by
    cases rs with
    | nil => cases hl
    | @cons d0 ds x xs r0 rs =>
      show ∃ xs', putF fn v ((k, x) :: ks.zip xs) = _ ∧ _
      unfold putF putDs
      by_cases e : k = fn
      · rw [if_pos e, if_pos e, if_pos (by rw [e]; exact List.mem_cons_self)]
        exact ⟨v :: xs, rfl, hl, .cons r rs⟩
      · rw [if_neg e, if_neg e]
        obtain ⟨xs', h1, h2, h3⟩ := putF_zip r (by simpa using hl) rs
        by_cases hm : fn ∈ ks
        · rw [if_pos hm] at h1 h2
          rw [if_pos (List.mem_cons_of_mem _ hm)]
          exact ⟨x :: xs', by rw [h1]; rfl, by rw [List.length_cons, List.length_cons, h2], .cons r0 h3⟩
        · rw [if_neg hm] at h1 h2
          have hm' : fn ∉ k :: ks := fun z => by
            rcases List.mem_cons.mp z with z | z
            · exact e z.symm
            · exact hm z
          rw [if_neg hm']
          exact ⟨x :: xs', by rw [h1]; rfl, by rw [List.cons_append, List.length_cons, List.length_cons, h2], .cons r0 h3⟩
def setF (c : Nat) (fn : Str) (x d : D) (S : List Cell) : Option (List Cell) := match x with
  | .loc n => match S[n]? with
    | some (.obj c' ns l) => if c' = c ∧ ns.length < 1000 then some (S.set n (.obj c (if fn ∈ ns then ns else ns ++ [fn]) (putDs ns l fn d))) else none
    | _ => none
  | _ => none
def stoF (c : Nat) (fn : Str) (fx fe : Ev) : Sv := fun ρ S => (fe ρ S).then ρ fun d S1 => (fx ρ S1).then ρ fun x S2 => match setF c fn x d S2 with
  | some S3 => .ok (.nx ρ) S3
  | none => .bad
theorem st_fld {c : Nat} {fn : Str} {fx : Ev} {pos' : Pos} (hK : X.K = o.K) (hx : PE X ob (tE o W fx)) (he : PE X e (tE o W fe)) (hs : swapsWith e (some (.Attribute ob fn pos')) pos.line X.env = pure false) (hc : Cls X.K (o.T.cls c)) (hn : NoAttr X.K (o.T.cls c) fn) :
    PS X (.Assign [.Attribute ob fn pos'] e pos) (tS o W (stoF c fn fx fe)) := PS.of (ps_fld hx he hs) fun En σ H ⟨m, F, S, ρ, R, q⟩ => by
  refine ⟨m, F, S, ρ, R, (SAft.exp q).map ?_⟩
  rintro y H1 ⟨m1, F1, S1, d, p1, e1, R1, rep1, q1⟩
  refine ⟨m1, F1, S1, ρ, R1, (SAft.exp q1).map ?_⟩
  rintro x H2 ⟨m2, F2, S2, dx, p2, e2, R2, rep2, q2⟩
  have rd := rep1.mono p2 e2
  split at q2
  · rename_i S3 hs3
    cases rep2 with
    | @loc n a hm =>
      unfold setF at hs3
      dsimp only at hs3
      split at hs3
      · rename_i c' ns l hS
        by_cases hcc : c' = c ∧ ns.length < 1000
        · rw [if_pos hcc] at hs3
          cases hs3
          obtain ⟨rfl, hlt⟩ := hcc
          cases R2.cell n a _ hm hS with
          | @obj _ dx' _ xs _ q l rs =>
            obtain ⟨xs', h1, h2, h3⟩ := putF_zip (fn := fn) rd l rs
            refine ⟨a, _, dx', _, rfl, q, hc, hn, by rw [List.length_zip]; omega, ?_⟩
            rw [h1]
            exact q2 m2 F2 σ _ (List.prefix_refl m2) (Le.refl F2) (R2.put hm (.obj upd_same h2 h3))
        · rw [if_neg hcc] at hs3; cases hs3
      · cases hs3
    | _ => cases hs3
  · exact q2.elim

def hasM (fl : Nat → List Str) (c : Nat) (mn : Str) (S : List Cell) (x : D) : Bool := match objV fl S x with
  | some (c', ns, _) => decide (c' = c) && decide (mn ∉ ns)
  | none => false
def methCF (fl : Nat → List Str) (c : Nat) (mn : Str) (G : Fn) (fo : Ev) (fs : List Ev) : Ev := fun ρ S => (fo ρ S).bind fun x S1 => if hasM fl c mn S1 x = true then evs fs ρ S1 fun ds S2 => G (x :: ds) S2 else .bad
theorem hasM_rel {K : PySem.W.Frag} {T : Tab} {g : Gh} {m : List Addr} {F : Hp} {S : List Cell} {ρ : Slots} {σ : St} {H : Hp} {d : D} {v : V} {c : Nat} {mn : Str} (R : Rel K T g m F S ρ σ H) (r : Rep K T m F d v) (h : hasM T.fl c mn S d = true) :
    ∃ a dx fs, v = .ref a ∧ H a = some (.ins (T.cls c) dx fs) ∧ fs.lookup mn = none := by
  unfold hasM at h
  split at h
  · rename_i c' ns l ho
    obtain ⟨h1, h2⟩ := Bool.and_eq_true_iff.mp h
    have h1 := of_decide_eq_true h1
    subst h1
    obtain ⟨a, dx, xs, rfl, ha, hl, rs⟩ := objV_rel R r ho
    exact ⟨a, dx, _, rfl, ha, lookup_out (of_decide_eq_true h2)⟩
  · cases h
theorem fe_meth {c : Nat} {pl : Sem Bool} (hn : fs.length = n) (ho : PE X ob (tE o W fo)) (hc : Cls X.K (o.T.cls c)) (hm : Meth X.K (o.T.cls c) mn f) (FO : FnOk X.prog X.w X.K X.mg X.base (L2N.CX X.prog X.w) k f fd ps (spF o.K o.T (n + 1) G)) (hr : Room k X.A) (hb : Binds X.K fd ps []) (tk : L2N.Takes X W)
    (ha : PA X (e :: es) (tAs o W fs)) (hst : starEach (e :: es) X.env = (false, eval e X.env) :: starEach es X.env) (hpl : (backTo pos (starEach es X.env)).any (·.1) = false)
    (ht : eval (.Call (.Attribute ob mn apos) (e :: es) [] pos) X.env = (do
      let ov ← eval ob X.env
      standAt apos.atName
      let (f, first) ← holding [ov] (getMethod ov mn pl)
      callWith pos f first (backTo pos (starEach (e :: es) X.env)) (backToKw pos (keywordEach [] X.env)))) :
    PE X (.Call (.Attribute ob mn apos) (e :: es) [] pos) (tE o W (methCF o.T.fl c mn G fo fs)) := PE.of (pe_methS ho hc hm FO hr hb (fun σ => L2N.passAt tk σ) ha hst hpl ht) fun σ H Q q => by
  obtain ⟨m, F, S, ρ, R, q⟩ := q
  refine ⟨m, F, S, ρ, R, (Aft.bind q).map ?_⟩
  rintro x H1 ⟨m1, F1, S1, d1, p1, e1, R1, rep1, q1⟩
  by_cases hh : hasM o.T.fl c mn S1 d1 = true
  · rw [if_pos hh] at q1
    obtain ⟨a, dx, fs', rfl, ha', hl'⟩ := hasM_rel R1 rep1 hh
    refine ⟨a, dx, fs', rfl, ha', hl', args_imp R1 q1 fun m2 F2 S2 ds vs H2 p2 e2 R2 reps hl q2 => ?_⟩
    exact ⟨by rw [List.length_cons, ← reps.length, hl, hn], m2, F2, S2, d1 :: ds, R2.self, .cons (rep1.mono p2 e2) reps, call_imp R2 q2⟩
  · rw [if_neg hh] at q1
    exact q1.elim
theorem fe_meth0 {c : Nat} {pl : Sem Bool} (ho : PE X ob (tE o W fo)) (hc : Cls X.K (o.T.cls c)) (hm : Meth X.K (o.T.cls c) mn f) (FO : FnOk X.prog X.w X.K X.mg X.base (L2N.CX X.prog X.w) k f fd ps (spF o.K o.T 1 G)) (hr : Room k X.A) (hb : Binds X.K fd ps []) (tk : L2N.Takes X W)
    (ht : eval (.Call (.Attribute ob mn apos) [] [] pos) X.env = (do
      let ov ← eval ob X.env
      standAt apos.atName
      let (f, first) ← holding [ov] (getMethod ov mn pl)
      callWith pos f first (backTo pos (starEach [] X.env)) (backToKw pos (keywordEach [] X.env)))) :
    PE X (.Call (.Attribute ob mn apos) [] [] pos) (tE o W (methCF o.T.fl c mn G fo [])) := PE.of (pe_methS0 ho hc hm FO hr hb (fun σ => L2N.passAt tk σ) ht) fun σ H Q q => by
  obtain ⟨m, F, S, ρ, R, q⟩ := q
  refine ⟨m, F, S, ρ, R, (Aft.bind q).map ?_⟩
  rintro x H1 ⟨m1, F1, S1, d1, p1, e1, R1, rep1, q1⟩
  by_cases hh : hasM o.T.fl c mn S1 d1 = true
  · rw [if_pos hh] at q1
    obtain ⟨a, dx, fs', rfl, ha', hl'⟩ := hasM_rel R1 rep1 hh
    exact ⟨a, dx, fs', rfl, ha', hl', rfl, m1, F1, S1, [d1], R1.self, .cons rep1 .nil, call_imp R1 q1⟩
  · rw [if_neg hh] at q1
    exact q1.elim
end


def negF (f : Ev) : Ev := fun ρ S => (f ρ S).bind fun x S1 => match x with
  | .int i => .ok (.int (-i)) S1
  | _ => .bad
section
variable {X : Cx} {o : Wo} {W : WX} {e : Expr} {fe : Ev} {pos : Pos}
theorem fe_neg (he : PE X e (tE o W fe)) : PE X (.UnaryOp .USub e pos) (tE o W (negF fe)) := PE.of (pe_un un_neg he) fun σ H Q ⟨m, F, S, ρ, R, q⟩ => by
  refine ⟨m, F, S, ρ, R, (Aft.bind q).map ?_⟩
  rintro x H1 ⟨m1, F1, S1, d1, p1, e1, R1, rep1, q1⟩
  cases d1 with
  | int i =>
    cases rep1
    exact ⟨i, rfl, Aft.done R1 (.int _) q1⟩
  | _ => exact q1.elim
end

def enumD : Nat → List D → List D
  | _, [] => []
  | i, d :: ds => .tup [.int i, d] :: enumD (i + 1) ds
theorem enumD_len : ∀ (i : Nat) (l : List D), (enumD i l).length = l.length
  | _, [] => rfl
  | i, d :: ds => by
    unfold enumD
    rw [List.length_cons, List.length_cons, enumD_len]
theorem enumD_get : ∀ (k : Nat) (l : List D) (i : Nat), (enumD k l)[i]? = l[i]?.map fun d => .tup [.int ((k + i : Nat) : Int), d]
  | _, [], i => by simp [enumD]
  | k, d :: ds, 0 => by simp [enumD]
  | k, d :: ds, i + 1 => by
    unfold enumD
    rw [List.getElem?_cons_succ, List.getElem?_cons_succ, enumD_get, show k + 1 + i = k + (i + 1) by omega]
/-- a list that stands still -/
def stillL : D → Option (List D)
  | .lst l => some l
  | _ => none
def enumI (f : Ev) : Src := fun ρ S => match f ρ S with
  | .ok d S1 => match stillL d with
    | some l => .ok (enumD 0 l) none S1
    | none => .bad
  | .err c d S1 => .err c d S1
  | .bad => .bad
def zipD : List D → List D → List D
  | a :: as, b :: bs => .tup [a, b] :: zipD as bs
  | _, _ => []
theorem zipD_get : ∀ (l k : List D) (i : Nat), (zipD l k)[i]? = (l[i]?.bind fun a => k[i]?.map fun b => .tup [a, b])
  | [], k, i => by simp [zipD]
  | _ :: _, [], i => by
    cases i <;> simp [zipD]
  | a :: as, b :: bs, 0 => by simp [zipD]
  | a :: as, b :: bs, i + 1 => by
    unfold zipD
    rw [List.getElem?_cons_succ, List.getElem?_cons_succ, List.getElem?_cons_succ, zipD_get]
theorem zipD_len : ∀ (l k : List D), (zipD l k).length = min l.length k.length
  | [], k => by simp [zipD]
  | _ :: _, [] => by simp [zipD]
  | a :: as, b :: bs => by
    unfold zipD
    rw [List.length_cons, List.length_cons, List.length_cons, zipD_len]
    omega
section
variable {o : Wo} {W : WX} {m0 : List Addr} {F0 : Hp} {a b : Addr} {l k : List D}
theorem walks_enum {xs : List V} (hq : Rd F0 a (.lst xs)) (rs : Reps o.K o.T m0 F0 l xs) (ok : List Cell → Prop) : Walks o (Ite o.K a) (enumD 0 l) ok m0 F0 := fun g m F S ρ σ H p e R _ i => by
  have hH : SqL o.K H a xs := .inl ((e.trans R.le).rd hq)
  have rs' := rs.mono p e
  refine ⟨fun h => ⟨xs, hH, by rw [enumD_len] at h; rw [← rs.length]; exact h⟩, fun d hd => ?_⟩
  rw [enumD_get] at hd
  cases hl : l[i]? with
  | none => rw [hl] at hd; cases hd
  | some d0 =>
    rw [hl] at hd
    cases hd
    obtain ⟨v, hv, rv⟩ := rs'.get hl
    refine ⟨⟨xs, v, hH, hv⟩, fun x H' y => ?_⟩
    obtain ⟨T, x0, rfl, hT, rfl, hy⟩ := y
    have := hy xs hH
    rw [hv] at this
    cases this
    refine ⟨_, Le.new (R.le.none hT), R.grow hT, .tup upd_same (.cons ?_ (.cons (rv.mono (List.prefix_refl m) (Le.new (R.le.none hT))) .nil))⟩
    rw [Nat.zero_add]
    exact .int _
theorem walks_zip {xs ys : List V} (hq : Rd F0 a (.lst xs)) (rs : Reps o.K o.T m0 F0 l xs) (hq2 : Rd F0 b (.lst ys)) (rs2 : Reps o.K o.T m0 F0 k ys) (ok : List Cell → Prop) : Walks o (Itz o.K a b) (zipD l k) ok m0 F0 := fun g m F S ρ σ H p e R _ i => by
  have hH : SqL o.K H a xs := .inl ((e.trans R.le).rd hq)
  have hH2 : SqL o.K H b ys := .inl ((e.trans R.le).rd hq2)
  have rs' := rs.mono p e
  have rs2' := rs2.mono p e
  refine ⟨fun h => ⟨xs, ys, hH, hH2, by rw [zipD_len, rs.length, rs2.length] at h; omega⟩, fun d hd => ?_⟩
  rw [zipD_get] at hd
  cases hl : l[i]? with
  | none => rw [hl] at hd; cases hd
  | some d0 =>
    rw [hl] at hd
    cases hk : k[i]? with
    | none => rw [hk] at hd; cases hd
    | some d1 =>
      rw [hk] at hd
      cases hd
      obtain ⟨v, hv, rv⟩ := rs'.get hl
      obtain ⟨u, hu, ru⟩ := rs2'.get hk
      refine ⟨⟨xs, ys, v, u, hH, hH2, hv, hu⟩, fun x H' y => ?_⟩
      obtain ⟨T, x0, y0, rfl, hT, rfl, hy, hy2⟩ := y
      have := hy xs hH
      rw [hv] at this
      cases this
      have := hy2 ys hH2
      rw [hu] at this
      cases this
      exact ⟨_, Le.new (R.le.none hT), R.grow hT, .tup upd_same (.cons (rv.mono (List.prefix_refl m) (Le.new (R.le.none hT))) (.cons (ru.mono (List.prefix_refl m) (Le.new (R.le.none hT))) .nil))⟩
def zipI (f f2 : Ev) : Src := fun ρ S => match f ρ S with
  | .err c d S1 => .err c d S1
  | .bad => .bad
  | .ok d S1 => match f2 ρ S1 with
    | .err c d S1 => .err c d S1
    | .bad => .bad
    | .ok d2 S2 => match stillL d, stillL d2 with
      | some l, some k => .ok (zipD l k) none S2
      | _, _ => .bad
theorem stillL_eq {d : D} {l : List D} (h : stillL d = some l) : d = .lst l := by
  cases d <;> cases h
  rfl
theorem fi_enum {X : Cx} {e : Expr} {f : Ev} {p pos tpos : Pos} {elts : List Expr} {kk : Nat} (hK : X.K = o.K) (hg : Gl X "enumerate") (hm : X.mg "enumerate" = none) (h : PE X e (tE o W f)) (hs' : starEach (e :: []) X.env = (false, eval e X.env) :: starEach [] X.env) (hs : starEach [e] X.env = [(false, eval e X.env)]) :
    PI X (.Tuple elts kk tpos) (.Call (.Name "enumerate" p) [e] [] pos) (tI o W (enumI f)) := PI.of (pi_enum hg hm (pa_cons h pa_nil hs') hs) fun σ H Rr q => by
  obtain ⟨m, F, S, ρ, R, q⟩ := q
  refine ⟨m, F, S, ρ, R, ?_⟩
  unfold enumI at q
  cases hr : f ρ S with
  | err c d S1 => rw [hr] at q; exact q
  | bad => rw [hr] at q; exact q
  | ok d S1 =>
    rw [hr] at q
    intro m1 F1 v H1 pr le R1 rep
    dsimp only at q
    cases hs : stillL d with
    | none =>
      rw [hs] at q
      exact q.elim
    | some l =>
      rw [hs] at q
      have hd := stillL_eq hs
      subst hd
      cases rep with
      | @lst a xs _ hq rs =>
        rw [hK]
        exact ⟨a, xs, rfl, .inl (R1.le.rd hq), q m1 F1 _ H1 pr le R1 True.intro (walks_enum hq rs _)⟩
theorem fi_zip {X : Cx} {e e2 : Expr} {f f2 : Ev} {p pos tpos : Pos} {elts : List Expr} {kk : Nat} (hK : X.K = o.K) (hg : Gl X "zip") (hm : X.mg "zip" = none) (h : PE X e (tE o W f)) (h2 : PE X e2 (tE o W f2)) (hs2 : starEach (e2 :: []) X.env = (false, eval e2 X.env) :: starEach [] X.env)
    (hs : starEach [e, e2] X.env = (false, eval e X.env) :: starEach [e2] X.env) (hpl : (backTo pos (starEach [e2] X.env)).any (·.1) = false) :
    PI X (.Tuple elts kk tpos) (.Call (.Name "zip" p) [e, e2] [] pos) (tI o W (zipI f f2)) := PI.of (pi_zip hg hm (pa_cons h (pa_cons h2 pa_nil hs2) hs) hs hpl) fun σ H Rr q => by
  obtain ⟨m, F, S, ρ, R, q⟩ := q
  refine ⟨m, F, S, ρ, R, ?_⟩
  unfold zipI at q
  cases hr : f ρ S with
  | err c d S1 => rw [hr] at q; exact q
  | bad => rw [hr] at q; exact q
  | ok d S1 =>
    rw [hr] at q
    intro m1 F1 v H1 pr le R1 rep
    refine ⟨m1, F1, S1, ρ, R1, ?_⟩
    dsimp only at q
    cases hr2 : f2 ρ S1 with
    | err c d S1 => rw [hr2] at q; exact fun m' F' v H' dd p2 e2 => q m' F' v H' dd (pr.trans p2) (le.trans e2)
    | bad => rw [hr2] at q; exact q
    | ok d2 S2 =>
      rw [hr2] at q
      intro m2 F2 v2 H2 pr2 le2 R2 rep2
      dsimp only at q
      cases hs : stillL d with
      | none =>
        rw [hs] at q
        exact q.elim
      | some l =>
        rw [hs] at q
        have hd := stillL_eq hs
        subst hd
        cases hs2 : stillL d2 with
        | none =>
          rw [hs2] at q
          exact q.elim
        | some k =>
          rw [hs2] at q
          have hd := stillL_eq hs2
          subst hd
          have rep := rep.mono pr2 le2
          cases rep with
          | @lst a xs _ hq rs =>
            cases rep2 with
            | @lst b ys _ hq2 rs2 =>
              rw [hK]
              exact ⟨a, b, xs, ys, rfl, .inl (R2.le.rd hq), .inl (R2.le.rd hq2), q m2 F2 _ H2 (pr.trans pr2) (le.trans le2) R2 True.intro (walks_zip hq rs hq2 rs2 _)⟩
end

def signsD (x : Str) : List D := x.cps.toList.map fun c => .str ⟨#[c]⟩
def strI (f : Ev) : Src := fun ρ S => match f ρ S with
  | .ok (.str x) S1 => .ok (signsD x) none S1
  | .err c d S1 => .err c d S1
  | _ => .bad
section
variable {o : Wo} {W : WX} {m0 : List Addr} {F0 : Hp}
theorem walks_str {x : Str} (ok : List Cell → Prop) : Walks o (Its x) (signsD x) ok m0 F0 := fun g m F S ρ σ H p e R _ i => by
  have hl : (signsD x).length = x.cps.size := by simp [signsD]
  refine ⟨fun h => by rw [hl] at h; exact h, fun d hd => ?_⟩
  have hi : i < x.cps.size := by rw [← hl]; exact (List.getElem?_eq_some_iff.mp hd).1
  refine ⟨hi, fun v H' y => ?_⟩
  obtain ⟨rfl, c, hc, rfl⟩ := y
  refine ⟨F, Le.refl F, R, ?_⟩
  unfold signsD at hd
  rw [List.getElem?_map, Array.getElem?_toList, hc] at hd
  cases hd
  exact .str _
theorem fi_str {X : Cx} {tg e : Expr} {f : Ev} (h : PE X e (tE o W f)) : PI X tg e (tI o W (strI f)) := PI.of (pi_str h) fun σ H Rr q => by
  obtain ⟨m, F, S, ρ, R, q⟩ := q
  refine ⟨m, F, S, ρ, R, ?_⟩
  unfold strI at q
  cases hr : f ρ S with
  | err c d S1 => rw [hr] at q; exact q
  | bad => rw [hr] at q; exact q
  | ok d S1 =>
    rw [hr] at q
    intro m1 F1 v H1 pr le R1 rep
    cases d with
    | str x =>
      cases rep
      exact ⟨x, rfl, q m1 F1 _ H1 pr le R1 True.intro (walks_str _)⟩
    | _ => exact q.elim
end

def leS (a b : Str) : Bool := !Spec.ltCps b.cps.toList a.cps.toList
def sortS (l : List Str) : List Str := l.mergeSort leS
theorem leS_eq (a b : Str) : leS a b = decide (a.cps.toList ≤ b.cps.toList) := by
  unfold leS
  rw [PyProof.Rows.ltCps_eq]
  by_cases h : b.cps.toList < a.cps.toList
  · rw [decide_eq_true h]
    rw [decide_eq_false]
    · rfl
    · exact List.not_le.mpr h
  · rw [decide_eq_false h]
    rw [decide_eq_true]
    · rfl
    · exact List.not_lt.mp h
theorem leS_trans (a b c : Str) (h1 : leS a b = true) (h2 : leS b c = true) : leS a c = true := by
  rw [leS_eq] at *
  exact decide_eq_true (List.le_trans (of_decide_eq_true h1) (of_decide_eq_true h2))
theorem leS_total (a b : Str) : (leS a b || leS b a) = true := by
  rw [leS_eq, leS_eq]
  rcases List.le_total a.cps.toList b.cps.toList with h | h
  · rw [decide_eq_true h]; rfl
  · rw [decide_eq_true h, Bool.or_true]
theorem leS_anti (a b : Str) (h1 : leS a b = true) (h2 : leS b a = true) : a = b := by
  rw [leS_eq] at *
  have := List.le_antisymm (of_decide_eq_true h1) (of_decide_eq_true h2)
  cases a with
  | mk x =>
    cases b with
    | mk y =>
      have e : x = y := by
        cases x; cases y
        simpa using this
      rw [e]
theorem sorted_pair : ∀ (p : Str) (l : List Str), PyProof.Rows.risingS p l = true → (p :: l).Pairwise (fun a b => leS a b = true)
  | p, [], _ => by simp
  | p, x :: r, h => by
    unfold PyProof.Rows.risingS at h
    obtain ⟨h1, h2⟩ := Bool.and_eq_true_iff.mp h
    have ih := sorted_pair x r h2
    refine List.pairwise_cons.mpr ⟨fun y hy => ?_, ih⟩
    rcases List.mem_cons.mp hy with e | e
    · subst e; exact h1
    · exact leS_trans _ _ _ h1 ((List.pairwise_cons.mp ih).1 y e)
theorem sorted_is {ys xs : List Str} (hp : ys.Perm xs) (hs : PyProof.Rows.sortedS ys = true) : ys = sortS xs := by
  have h1 : ys.Pairwise (fun a b => leS a b = true) := by
    cases ys with
    | nil => exact .nil
    | cons x r => exact sorted_pair x r hs
  have h2 : (sortS xs).Pairwise (fun a b => leS a b = true) := List.pairwise_mergeSort leS_trans leS_total xs
  exact List.Perm.eq_of_pairwise (fun a b _ _ => leS_anti a b) h1 h2 (hp.trans (List.mergeSort_perm xs leS).symm)
def bSorted : OpN := fun ds S => match ds with
  | [x] => match asL S x with
    | some l => match strsD l with
      | some ss => if ss.length < 64 then .ok (.lst ((sortS ss).map .str)) S else .bad
      | none => .bad
    | none => .bad
  | _ => .bad
theorem cn_sorted {o : Wo} : CalN o bSorted (rSortedS o.K) := by
  intro W m F S ρ σ H ds vs Q R rs q
  cases rs with
  | nil => exact q.elim
  | @cons d ds v vs r rs =>
    cases rs with
    | cons _ _ => exact q.elim
    | nil =>
      unfold bSorted at q
      dsimp only at q
      split at q
      · rename_i l e
        split at q
        · rename_i ss e2
          by_cases h64 : ss.length < 64
          · rw [if_pos h64] at q
            obtain ⟨a, xs, rfl, hq, rl⟩ := asL_sq R r e
            have ex := strsD_rel rl e2
            subst ex
            refine ⟨a, ss, rfl, hq, h64, fun ys p hp hs hn => ?_⟩
            rw [sorted_is hp hs]
            exact q m F H p _ (List.prefix_refl m) (Le.refl F) R hn (.lst (reps_strs _))
          · rw [if_neg h64] at q
            exact q.elim
        · exact q.elim
      · exact q.elim


def mergeKs : List Key → List Key → List Key
  | ks, [] => ks
  | ks, j :: js => mergeKs (putKs ks j) js
def mergeDs : List Key → List D → List Key → List D → List D
  | ks, ds, j :: js, d :: es => mergeDs (putKs ks j) (putDs ks ds j d) js es
  | _, ds, _, _ => ds
theorem putKs_nodup {κ : Type} [DecidableEq κ] {ks : List κ} {j : κ} (h : ks.Nodup) : (putKs ks j).Nodup := by
  unfold putKs
  by_cases hm : j ∈ ks
  · rw [if_pos hm]; exact h
  · rw [if_neg hm, List.nodup_append]
    exact ⟨h, by simp, fun a ha b hb => by simp at hb; subst hb; exact fun z => hm (z ▸ ha)⟩
section
variable {K : PySem.W.Frag} {T : Tab} {m : List Addr} {F : Hp}
theorem merge_zip : ∀ {js : List Key} {es : List D} {ys : List V} {ks : List Key} {ds : List D} {xs : List V}, ks.Nodup → ks.length = xs.length → Reps K T m F ds xs → js.length = ys.length → Reps K T m F es ys →
    ∃ xs', mergeK (ks.zip xs) (js.zip ys) = (mergeKs ks js).zip xs' ∧ (mergeKs ks js).length = xs'.length ∧ Reps K T m F (mergeDs ks ds js es) xs'
  | [], es, ys, ks, ds, xs, nd, hl, rs, hl2, rs2 => by
    refine ⟨xs, rfl, hl, ?_⟩
    unfold mergeDs
    exact rs
  | j :: js, es, ys, ks, ds, xs, nd, hl, rs, hl2, rs2 => by
    cases rs2 with
    | nil => cases hl2
    | @cons d0 es y ys r rs2 =>
      obtain ⟨xs1, h1, h2, h3⟩ := put_zip nd hl rs r (j := j)
      obtain ⟨xs2, g1, g2, g3⟩ := merge_zip (putKs_nodup (j := j) nd) h2 h3 (by simpa using hl2) rs2
      refine ⟨xs2, ?_, g2, g3⟩
      show mergeK (putK (ks.zip xs) j y) (js.zip ys) = (mergeKs (putKs ks j) js).zip xs2
      rw [h1, g1]
end
def tPx (K : PySem.W.Frag) (T : Tab) : List (Ev × Ev) → List (TE × TE)
  | [] => []
  | (f, g) :: r => (tEx K T f, tEx K T g) :: tPx K T r
def pairsF : List (Ev × Ev) → Slots → List Cell → (List D → List D → List Cell → Res) → Res
  | [], _, S, k => k [] [] S
  | (f, g) :: r, ρ, S, k => bindN (f ρ S) fun x S1 => bindN (g ρ S1) fun y S2 => pairsF r ρ S2 fun xs ys S3 => k (x :: xs) (y :: ys) S3
theorem bindN_ok {r : Res} {k : D → List Cell → Res} {d : D} {S : List Cell} (h : bindN r k = .ok d S) : ∃ x S1, r = .ok x S1 ∧ k x S1 = .ok d S := by
  cases r with
  | ok x S1 => exact ⟨x, S1, rfl, h⟩
  | err c d S => cases h
  | bad => cases h
theorem Side.at {K : PySem.W.Frag} {T : Tab} {g : Gh} {m2 : List Addr} {F2 : Hp} {H' : Hp} {p : Addr} {u : HO} (sd : Side g m2 F2 p) (hp : H' p = some u) {mm : List Addr} {FF : Hp} {SS : List Cell} {ρρ : Slots} {σσ : St} {HH : Hp} (r : Rel K T ⟨H', m2, F2⟩ mm FF SS ρρ σσ HH) : Side g mm FF p ∧ HH p = some u := by
  refine ⟨⟨?_, fun hm => ?_, sd.h⟩, r.frame p _ hp sd.m⟩
  · cases z : FF p with
    | none => rfl
    | some w =>
      rcases r.newF p w z with y | y
      · have y2 : F2 p = some w := y
        rw [sd.f] at y2; cases y2
      · have y' : H' p = none := y
        rw [hp] at y'; cases y'
  · obtain ⟨n, hn, e⟩ := List.mem_iff_getElem.mp hm
    have e' : mm[n]? = some p := by rw [List.getElem?_eq_getElem hn, e]
    rcases r.newm n p e' with y | y
    · have h2 := pre_get r.pre (List.getElem?_eq_getElem (l := m2) (i := n) y)
      rw [e'] at h2
      have e2 : p = m2[n] := Option.some.inj h2
      exact sd.m (by rw [e2]; exact List.getElem_mem y)
    · have y' : H' p = none := y
      rw [hp] at y'; cases y'
theorem keys_of_reps {K : PySem.W.Frag} {T : Tab} {m : List Addr} {F : Hp} {ds : List D} {vs : List V} {ks : List Key} (r : Reps K T m F ds vs) (h : keysD ds = some ks) : vs = ks.map kV := reps_keys r h
theorem zip_map {ks : List Key} {us : List V} (hl : ks.length = us.length) : (ks.map kV).zip us = (ks.zip us).map fun kv => (kV kv.1, kv.2) := by
  induction ks generalizing us with
  | nil => rfl
  | cons k ks ih =>
    cases us with
    | nil => cases hl
    | cons u us =>
      have hl' : ks.length = us.length := by simpa using hl
      show (kV k, u) :: (ks.map kV).zip us = (kV k, u) :: (ks.zip us).map fun kv => (kV kv.1, kv.2)
      rw [ih hl']
theorem keysD_len : ∀ {ds : List D} {ks : List Key}, keysD ds = some ks → ks.length = ds.length
  | [], _, h => by cases h; rfl
  | d :: ds, _, h => by
    unfold keysD at h
    split at h
    · rename_i k ks e1 e2
      cases h
      rw [List.length_cons, List.length_cons, keysD_len e2]
    · cases h
section
variable {X : Cx} {o : Wo} {W : WX} {pos : Pos}
theorem fp_nil {K : PySem.W.Frag} {T : Tab} : PPs X pos [] [] (tPx K T []) := pps_nil
theorem fp_cons {K : PySem.W.Frag} {T : Tab} {k v : Expr} {ks : List (Option Expr)} {vs : List Expr} {f g : Ev} {r : List (Ev × Ev)} (hk : PE X k (tEx K T f)) (hv : PE X v (tEx K T g)) (hr : PPs X pos ks vs (tPx K T r)) : PPs X pos (some k :: ks) (v :: vs) (tPx K T ((f, g) :: r)) := pps_cons hk hv hr
theorem pairs_run {K : PySem.W.Frag} {T : Tab} {g : Gh} {d : D} {S' : List Cell} : ∀ {fs : List (Ev × Ev)} {m : List Addr} {F : Hp} {S : List Cell} {ρ : Slots} {σ : St} {H : Hp} {k : List D → List D → List Cell → Res} {Z : List (V × V) → Hp → Prop},
    Rel K T g m F S ρ σ H → pairsF fs ρ S k = .ok d S' →
    (∀ m1 F1 S1 ds es vs us H1, m <+: m1 → Le F F1 → Rel K T g m1 F1 S1 ρ σ H1 → Reps K T m1 F1 ds vs → Reps K T m1 F1 es us → ds.length = fs.length → es.length = fs.length → k ds es S1 = .ok d S' → Z (vs.zip us) H1) → tPairs (tPx K T fs) σ H Z
  | [], m, F, S, ρ, σ, H, k, Z, R, q, z => z m F S [] [] [] [] H (List.prefix_refl m) (Le.refl F) R .nil .nil rfl rfl q
  | (f, f2) :: fs, m, F, S, ρ, σ, H, k, Z, R, q, z => by
    unfold pairsF at q
    obtain ⟨x, S1, h1, q1⟩ := bindN_ok q
    obtain ⟨y, S2, h2, q2⟩ := bindN_ok q1
    refine ⟨g, m, F, S, ρ, R, ?_⟩
    rw [h1]
    intro m1 F1 v1 H1 p1 e1 R1 rep1
    refine ⟨g, m1, F1, S1, ρ, R1, ?_⟩
    rw [h2]
    intro m2 F2 v2 H2 p2 e2 R2 rep2
    exact pairs_run R2 q2 fun m3 F3 S3 ds es vs us H3 p3 e3 R3 reps reps2 hl hl2 q3 => z m3 F3 S3 (x :: ds) (y :: es) (v1 :: vs) (v2 :: us) H3 (p1.trans (p2.trans p3)) (e1.trans (e2.trans e3)) R3
      (.cons (rep1.mono (p2.trans p3) (e2.trans e3)) reps) (.cons (rep2.mono p3 e3) reps2) (by rw [List.length_cons, List.length_cons, hl]) (by rw [List.length_cons, List.length_cons, hl2]) q3
def dispK (xs ys : List D) (S : List Cell) : Res := match keysD xs with
  | some ks => .ok (.dct (mergeKs [] ks) (mergeDs [] [] ks ys)) S
  | none => .bad
def dispF (fs : List (Ev × Ev)) : Ev := fun ρ S => match pairsF fs ρ S dispK with
  | .ok d S1 => .ok d S1
  | _ => .bad
theorem fn_disp {keys : List (Option Expr)} {values : List Expr} {fs : List (Ev × Ev)} (h : PPs X pos keys values (tPx o.K o.T fs)) (hall : keys.all (·.isSome) = true) (hl : keys.length = values.length) (h0 : keys ≠ []) (h15 : keys.length ≤ 15) (hfs : fs.length ≤ 15) :
    PE X (.Dict keys values pos) (tN o W (dispF fs)) := PE.of (pe_disp h hall hl h0 h15) fun σ H Q ⟨m, F, S, ρ, R, q⟩ => by
  intro p hp
  unfold dispF at q
  split at q
  · rename_i d S' hr
    have sd0 : Side o.g m F p := ⟨R.le.none hp, R.out hp, R.entry hp⟩
    have R1 := R.sideU (o := .dK []) sd0
    refine pairs_run R1.selfS hr fun m1 F1 S1 ds es vs us H1 p1 e1 R2 reps reps2 hl1 hl2 q1 => ?_
    obtain ⟨sd, hH⟩ := sd0.at upd_same R2
    have R3 := R1.back R2.bare p1 e1
    unfold dispK at q1
    split at q1
    · rename_i ks hk
      cases q1
      have hkl := keysD_len hk
      have hul : ks.length = us.length := by rw [hkl, hl1, ← reps2.length, hl2]
      refine ⟨hH, ks.zip us, ?_, ?_, ?_⟩
      · rw [reps_keys reps hk, zip_map hul]
      · rw [List.length_zip]
        omega
      · obtain ⟨xs', g1, g2, g3⟩ := merge_zip (ks := []) (ds := []) (xs := []) List.nodup_nil rfl .nil hul reps2
        have g1' : mergeK [] (ks.zip us) = (mergeKs [] ks).zip xs' := g1
        rw [g1']
        have R4 := R3.side (u := none) sd
        have en : (fun b => if b = p then none else H1 b) p = none := if_pos rfl
        have eu : upd H1 p (.dK ((mergeKs [] ks).zip xs')) = upd (fun b => if b = p then none else H1 b) p (.dK ((mergeKs [] ks).zip xs')) := by
          funext b
          by_cases e : b = p
          · subst e; rw [upd_same, upd_same]
          · rw [upd_ne e, upd_ne e, if_neg e]
        rw [eu]
        exact q m1 F1 _ p _ p1 e1 R4 en (.dct g2 g3)
    · cases q1
  · exact q.elim
/-- {} -/
theorem fn_dnew : PE X (.Dict [] [] pos) (tN o W (cF (.dct [] []))) := PE.of pe_dnewK fun σ H Q ⟨m, F, S, ρ, R, q⟩ => fun p hp => q m F H p _ (List.prefix_refl m) (Le.refl F) R hp (.dct (xs := []) (ks := []) rfl .nil)
end

def pairsD : List D → Option (List Key × List D)
  | [] => some ([], [])
  | .tup [k, v] :: r => match keyD k, pairsD r with
    | some j, some (js, vs) => some (j :: js, v :: vs)
    | _, _ => none
  | _ :: _ => none
theorem pairsD_rel {K : PySem.W.Frag} {T : Tab} {m : List Addr} {F H : Hp} (le : Le F H) : ∀ {l : List D} {xs : List V} {js : List Key} {vs : List D}, Reps K T m F l xs → pairsD l = some (js, vs) →
    ∃ ps us, xs = ps.map V.ref ∧ js.length = us.length ∧ Reps K T m F vs us ∧ Paired (fun p kv => SqT K H p [kV kv.1, kv.2]) ps (js.zip us)
  | [], _, _, _, r, h => by
    cases r
    cases h
    exact ⟨[], [], rfl, rfl, .nil, .nil⟩
  | d :: l, _, js, vs, r, h => by
    cases r with
    | @cons _ _ x xs r rs =>
      unfold pairsD at h
      split at h
      · rename_i heq
        cases heq
      · rename_i k v rr heq
        cases heq
        split at h
        · rename_i j js' vs' e1 e2
          cases h
          obtain ⟨ps, us, rfl, hl, rv, hp⟩ := pairsD_rel le rs e2
          cases r with
          | @tup a ys _ ha rys =>
            cases rys with
            | @cons _ _ y1 _ ry1 rys =>
              cases rys with
              | @cons _ _ y2 _ ry2 rys =>
                cases rys
                have := rep_key ry1 e1
                subst this
                exact ⟨a :: ps, y2 :: us, rfl, by simpa using hl, .cons ry2 rv, .cons (.inl (.inl (le _ _ ha))) hp⟩
        · cases h
      · cases h
def bDict : OpN := fun ds S => match ds with
  | [x] => match asL S x with
    | some l => match pairsD l with
      | some (ks, vs) => .ok (.dct (mergeKs [] ks) (mergeDs [] [] ks vs)) S
      | none => .bad
    | none => .bad
  | _ => .bad
theorem cn_dict {o : Wo} : CalN o bDict (fun xs H Q => ∃ (a : Addr) (ps : List Addr) (kvs : List (Key × V)), xs = [.ref a] ∧ SqL o.K H a (ps.map V.ref) ∧ Paired (fun p kv => SqT o.K H p [kV kv.1, kv.2]) ps kvs ∧
    ∀ p, H p = none → Q (.ref p) (upd H p (.dK (mergeK [] kvs)))) := by
  intro W m F S ρ σ H ds vs Q R rs q
  cases rs with
  | nil => exact q.elim
  | @cons d ds v vs r rs =>
    cases rs with
    | cons _ _ => exact q.elim
    | nil =>
      unfold bDict at q
      dsimp only at q
      split at q
      · rename_i l e
        split at q
        · rename_i ks ws e2
          obtain ⟨a, xs, rfl, hq, rl⟩ := asL_sq R r e
          obtain ⟨ps, us, rfl, hl, rv, hp⟩ := pairsD_rel R.le rl e2
          refine ⟨a, ps, ks.zip us, rfl, hq, hp, fun p hn => ?_⟩
          obtain ⟨xs', g1, g2, g3⟩ := merge_zip (ks := []) (ds := []) (xs := []) List.nodup_nil rfl .nil hl rv
          have g1' : mergeK [] (ks.zip us) = (mergeKs [] ks).zip xs' := g1
          rw [g1']
          exact q m F H p _ (List.prefix_refl m) (Le.refl F) R hn (.dct g2 g3)
        · exact q.elim
      · exact q.elim
def bDictCopy : OpN := fun ds S => match ds with
  | [x] => match dctV S x with
    | some (ks, vs) => .ok (.dct ks vs) S
    | none => .bad
  | _ => .bad
def rDictCopy : List V → Hp → VK → Prop := fun xs H Q => ∃ (a : Addr) (kvs : List (Key × V)), xs = [.ref a] ∧ Rd H a (.dK kvs) ∧ ∀ p, H p = none → Q (.ref p) (upd H p (.dK kvs))
theorem call_dictCopy {X : Cx} : CallR X (.type "dict") rDictCopy := by
  intro pins s σ H xs us Q I r q
  obtain ⟨a, kvs, rfl, hq, q⟩ := q
  rw [Vals.ref1 r]
  exact d_copyOf I hq fun p s' hp I' => ⟨.ref p, _, I', rfl, q p hp⟩
theorem cn_dictCopy {o : Wo} : CalN o bDictCopy rDictCopy := by
  intro W m F S ρ σ H ds vs Q R rs q
  cases rs with
  | nil => exact q.elim
  | @cons d ds v vs r rs =>
    cases rs with
    | cons _ _ => exact q.elim
    | nil =>
      unfold bDictCopy at q
      dsimp only at q
      split at q
      · rename_i ks ws e
        obtain ⟨a, xs, rfl, ha, hl, rx⟩ := dctV_rel R r e
        exact ⟨a, _, rfl, .inl ha, fun p hn => q m F H p _ (List.prefix_refl m) (Le.refl F) R hn (.dct hl rx)⟩
      · exact q.elim
def mDClear : D → List D → List Cell → Res := fun x ds S => match x, ds with
  | .loc n, [] => match S[n]? with
    | some (.dct _ _) => .ok .non (S.set n (.dct [] []))
    | _ => .bad
  | _, _ => .bad
theorem ms_dclear {o : Wo} : MtS o mDClear rDClear := by
  intro W m F S ρ σ H x v ds vs Q R r rs q
  cases r with
  | @loc n a hm =>
    cases rs with
    | cons _ _ => exact q.elim
    | nil =>
      unfold mDClear at q
      dsimp only at q
      split at q
      · rename_i ks l e
        cases R.cell n a _ hm e with
        | dct hq hl rx =>
          exact ⟨a, _, rfl, rfl, hq, q m F .non _ (List.prefix_refl m) (Le.refl F) (R.put hm (.dct (ks := []) (xs := []) upd_same rfl .nil)) .non⟩
      · exact q.elim
  | _ => exact q.elim

theorem takes_no {X : Cx} : L2N.Takes X (fun _ _ _ _ => False) := fun u s' ⟨_, _, _, _, _, _, _, _, _, _, _, _, _, _, _, _, w⟩ => w.elim
def rEqI (C : Addr) (sp : Sp) : R2 := fun x y H Q => ∃ a b dx dy fs gs, x = .ref a ∧ y = .ref b ∧ H a = some (.ins C dx fs) ∧ H b = some (.ins C dy gs) ∧ sp [.ref a, .ref b] H (fun v H' => (∃ b, v = .bl b) ∧ Q v H') fun _ _ _ => False
theorem op_eqI {X : Cx} {k : Nat} {C f : Addr} {fd : FuncData} {ps : List Str} {sp : Sp} (F : FnOk X.prog X.w X.K X.mg X.base (L2N.CX X.prog X.w) k f fd ps sp) (hr : Room k X.A)
    (hs : PySem.W.findIn X.K (.ref C) "__eq__" = some (some (.ref f))) (hf : PySem.W.isFn X.K (.ref f) = true) (hb : Binds X.K fd ps []) : OpR X (compareOp .Eq) (rEqI C sp) := by
  intro pins s σ H x y u v Q I rx ry d
  obtain ⟨a, b, dx, dy, fs, gs, rfl, rfl, ha, hb', hsp⟩ := d
  cases rx
  cases ry
  obtain ⟨mA, J, _⟩ := ins_get I.hok ha
  obtain ⟨mB, J', _⟩ := ins_get I.hok hb'
  obtain ⟨od, J, _⟩ := J.look
  obtain ⟨od', J', _⟩ := J'.look
  obtain ⟨m, hF⟩ := I.fr
  show wpAny (model X.prog X.w) X.A (richCompare .Eq _ _) (EP X pins σ Q) X.xe s
  refine PySem.W.cmp_K (op := .Eq) (tb := .ref C) hr.units0 hF I.ok.mod.kin J J'.type (by simp [PySem.W.notFirst]) hs hf ?_
  have hl := F.len _ _ _ _ hsp
  have r2 : Vals [V.ref a, V.ref b] [Value.ref a, Value.ref b] := .cons rfl (.cons rfl .nil)
  refine wpAny_call (codeAny_mono (F.run X.A X.stack s H ⟨[.ref a, .ref b], []⟩ [.ref a, .ref b] [.ref a, .ref b] _ _ hr I.env0 (by
    have := hb s [.ref a, .ref b] I.kIn (by simpa using hl)
    simpa using this) r2 hsp) fun r s' hq => ?_)
  cases r with
  | error e => exact (L2N.passAt (takes_no (X := X)) σ) pins H s e s' I hq
  | ok fl =>
    cases fl with
    | ret w =>
      obtain ⟨z, H', I', rz, ⟨bb, ez⟩, q⟩ := I.after hq
      subst ez
      cases rz
      exact ⟨.bl bb, H', I', rfl, q⟩
    | next => exact False.elim hq
    | brk => exact False.elim hq
    | cont => exact False.elim hq
def opEqI (fl : Nat → List Str) (c : Nat) (G : Fn) : Op2 := fun x y S => match objV fl S x, objV fl S y with
  | some (c1, _, _), some (c2, _, _) => if c1 = c ∧ c2 = c then (match G [x, y] S with
    | .ok (.bl b) S' => .ok (.bl b) S'
    | _ => .bad) else .bad
  | _, _ => .bad
theorem ops_eqI {o : Wo} {c : Nat} {G : Fn} : OpS o (opEqI o.T.fl c G) (rEqI (o.T.cls c) (spF o.K o.T 2 G)) := by
  intro W m F S ρ σ H x y v u Q R rx ry q
  unfold opEqI at q
  split at q
  · rename_i c1 n1 l1 c2 n2 l2 h1 h2
    by_cases hc : c1 = c ∧ c2 = c
    · rw [if_pos hc] at q
      obtain ⟨rfl, rfl⟩ := hc
      obtain ⟨a, dx, xs, rfl, ha, _⟩ := objV_rel R rx h1
      obtain ⟨b, dy, ys, rfl, hb, _⟩ := objV_rel R ry h2
      refine ⟨a, b, dx, dy, _, _, rfl, rfl, ha, hb, rfl, m, F, S, [x, y], R.self, .cons rx (.cons ry .nil), ?_⟩
      split at q
      · rename_i bb S' e
        rw [e]
        intro m' F' v H' p le R' rep
        cases rep
        exact ⟨⟨bb, rfl⟩, q m' F' _ H' p le (R.back R' p le) (.bl bb)⟩
      · exact q.elim
    · rw [if_neg hc] at q
      exact q.elim
  · exact q.elim

def isiF (fl : Nat → List Str) (ans : Nat → Option Bool) (f : Ev) : Ev := fun ρ S => (f ρ S).bind fun x S1 => match objV fl S1 x with
  | some (c, _, _) => match ans c with
    | some b => .ok (.bl b) S1
    | none => .bad
  | none => .bad
/-- what is asked of an own class for isinstance at its objects -/
structure IsI (K : PySem.W.Frag) (C D : Addr) (b : Bool) : Prop where
  cl : Cls K C
  ha : PySem.W.findIn K (.ref C) "__class__" = some (some (.builtin "object.__class__"))
  hn : PySem.W.specialIn K (.builtin "object.__class__") "__get__" = some (some (.builtin "getset_descriptor.__get__"))
  htk : PySem.W.takesIn K (.builtin "object.__class__") = some true
  hm : PySem.W.mroIn K C (.type "object") = some true
  one : PySem.W.kitOne K (.ref C) (.ref D) = some b
theorem fe_isi {X : Cx} {o : Wo} {W : WX} {x c : Expr} {f : Ev} {p pos : Pos} {cd : Addr} {ans : Nat → Option Bool} (hK : X.K = o.K) (hg : Gl X "isinstance") (hm : X.mg "isinstance" = none) (hx : PE X x (tE o W f)) (hc : PE X c (tC (.ref cd))) (ha : ∀ c b, ans c = some b → IsI X.K (o.T.cls c) cd b)
    (hs1 : starEach [c] X.env = [(false, eval c X.env)]) (hs2 : starEach [x, c] X.env = (false, eval x X.env) :: starEach [c] X.env) (hpl : (backTo pos (starEach [c] X.env)).any (·.1) = false) (hv : bootBuiltins "isinstance" = some (.builtin "isinstance")) :
    PE X (.Call (.Name "isinstance" p) [x, c] [] pos) (tE o W (isiF o.T.fl ans f)) := PE.of (pe_callB call_isi hg hm hv (pa_cons hx (pa_cons hc pa_nil hs1) hs2) (by decide) (by decide) hs2 hpl) fun σ H Q q => by
  obtain ⟨m, F, S, ρ, R, q⟩ := q
  refine ⟨m, F, S, ρ, R, (Aft.bind q).map ?_⟩
  rintro x H1 ⟨m1, F1, S1, d1, p1, e1, R1, rep1, q1⟩
  split at q1
  · rename_i c' ns l ho
    split at q1
    · rename_i b hb
      obtain ⟨a, dx, xs, rfl, hH, _⟩ := objV_rel R1 rep1 ho
      have I := ha _ _ hb
      exact ⟨.ref a, .ref cd, _, _, b, rfl, .own cd, .base (.ins hH I.cl I.ha I.hn I.htk I.hm), I.one, Aft.done R1 (.bl b) q1⟩
    · exact q1.elim
  · exact q1.elim


def dcV (j : Key) : Res → Option (Option (Key × D) × List Cell)
  | .ok z S3 => some (some (j, z), S3)
  | _ => none
def dcK (e : Ev) (ρ1 : Slots) : Res → Option (Option (Key × D) × List Cell)
  | .ok y S2 => match keyD y with
    | some j => dcV j (e ρ1 S2)
    | none => none
  | _ => none
def dcP (k e : Ev) (ρ1 : Slots) : Res → Option (Option (Key × D) × List Cell)
  | .ok (.bl true) S1 => dcK e ρ1 (k ρ1 S1)
  | .ok (.bl false) S1 => some (none, S1)
  | _ => none
def dcTurn (t : Tgt) (vs : List Nat) (p k e : Ev) (ρ : Slots) (d : D) (S : List Cell) : Option (Option (Key × D) × List Cell) := match t d (wipeD ρ vs) with
  | some ρ1 => dcP k e ρ1 (p ρ1 S)
  | none => none
open Classical in
noncomputable def dcD (l : List D) (c : Option Nat) (t : Tgt) (vs : List Nat) (p k e : Ev) (ρ : Slots) : List D → List Key → List D → List Cell → Res
  | [], ks, acc, S => if Stay c l S then .ok (.dct ks acc) S else .bad
  | d :: ds, ks, acc, S => if Stay c l S ∧ ks.length < big then (match dcTurn t vs p k e ρ d S with
    | some (some (j, z), S3) => dcD l c t vs p k e ρ ds (putKs ks j) (putDs ks acc j z) S3
    | some (none, S1) => dcD l c t vs p k e ρ ds ks acc S1
    | none => .bad) else .bad
noncomputable def dcF (s : Src) (t : Tgt) (vs : List Nat) (p k e : Ev) : Ev := fun ρ S => match s ρ S with
  | .ok l c S1 => dcD l c t vs p k e ρ l [] [] S1
  | .err c d S1 => .err c d S1
  | .bad => .bad
theorem zip_len_le {ks : List Key} {xs : List V} : (ks.zip xs).length ≤ ks.length := by rw [List.length_zip]; omega
section
variable {X : Cx} {o : Wo} {W : WX} {pos : Pos} {kx vx tg iter : Expr} {ifs : List Expr} {scope : Scope} {own : List (Str × Nat)} {s : Src} {t : Tgt} {sl : List Nat} {p k e : Ev}
theorem dc_imp {vs : List Nat} (hsl : ∀ j ∈ sl, j ∈ vs) (σ : St) (H : Hp) (Q : VK) (q : tN o W (dcF s t vs p k e) σ H Q) : tDc (tI o W s) (tGx o.K o.T t sl) (tTx o.K o.T p) (tEx o.K o.T k) (tEx o.K o.T e) vs σ H Q := by
  obtain ⟨m, F, S, ρ, R, q⟩ := q
  refine ⟨m, F, S, ρ, R, ?_⟩
  unfold dcF at q
  cases hr : s ρ S with
  | err c d S1 => rw [hr] at q; exact q
  | bad => rw [hr] at q; exact q
  | ok l c S1 =>
    rw [hr] at q
    intro m1 F1 J H1 pr1 le1 R1 st wk
    intro Dl hD
    refine ⟨fun i kk H' => kk = l.length - i ∧ i ≤ l.length ∧ ∃ m2 F2 S2 ks acc xs, m1 <+: m2 ∧ Le F1 F2 ∧ Rel o.K o.T o.g m2 F2 S2 ρ σ H' ∧ Side o.g m2 F2 Dl ∧ H' Dl = some (.dK (ks.zip xs)) ∧ ks.length = xs.length ∧ ks.Nodup ∧ Reps o.K o.T m2 F2 acc xs ∧
        NAft o m2 F2 ρ σ W (dcD l c t vs p k e ρ (l.drop i) ks acc S2) Q, ⟨_, rfl, Nat.zero_le _, m1, F1, S1, [], [], [], List.prefix_refl m1, Le.refl F1, ?_, ⟨R1.le.none hD, R1.out hD, R1.entry hD⟩, upd_same, rfl, List.nodup_nil, .nil, NAft.from pr1 le1 q⟩, ?_⟩
    · exact R1.sideU ⟨R1.le.none hD, R1.out hD, R1.entry hD⟩
    rintro i kk H' ⟨rfl, hi, m2, F2, S2, ks, acc, xs, pr2, le2, R2, sd, hDl, hkl, hnd, racc, q2⟩
    by_cases hlt : i < l.length
    · have hd : l[i]? = some l[i] := List.getElem?_eq_getElem hlt
      rw [drop_at hd] at q2
      unfold dcD at q2
      by_cases hst : Stay c l S2 ∧ ks.length < big
      · rw [if_pos hst] at q2
        obtain ⟨hst, hbig⟩ := hst
        obtain ⟨go, yl⟩ := (wk o.g m2 F2 S2 ρ σ H' pr2 le2 R2 hst i).2 _ hd
        refine .inr ⟨go, fun H9 => ∃ m2 F2 S2 ks acc xs, m1 <+: m2 ∧ Le F1 F2 ∧ Rel o.K o.T o.g m2 F2 S2 ρ σ H9 ∧ Side o.g m2 F2 Dl ∧ H9 Dl = some (.dK (ks.zip xs)) ∧ ks.length = xs.length ∧ ks.Nodup ∧ Reps o.K o.T m2 F2 acc xs ∧
          NAft o m2 F2 ρ σ W (dcD l c t vs p k e ρ (l.drop (i + 1)) ks acc S2) Q, fun H9 h9 => ⟨l.length - (i + 1), by omega, rfl, hlt, h9⟩, ?_⟩
        intro x H3 hy
        obtain ⟨go', yl'⟩ := (wk ⟨H', m2, F2⟩ m2 F2 S2 ρ σ H' pr2 le2 R2.selfS hst i).2 _ hd
        obtain ⟨F3, le3, R3, rep3⟩ := yl' x H3 hy
        refine ⟨⟨H', m2, F2⟩, m2, F3, S2, wipeD ρ vs, _, R3.wiped vs, rep3, ?_⟩
        unfold dcTurn at q2
        cases ht' : t l[i] (wipeD ρ vs) with
        | none => rw [ht'] at q2; exact q2
        | some ρ1 =>
          rw [ht'] at q2
          dsimp only at q2
          intro σ1 R4 out
          refine ⟨by rw [wipe_out_eq out hsl, wipe_wipe], ?_⟩
          refine ⟨⟨H', m2, F2⟩, m2, F3, S2, ρ1, R4, ?_⟩
          cases hp : p ρ1 S2 with
          | err c d S5 => rw [hp] at q2; exact q2.elim
          | bad => rw [hp] at q2; exact q2.elim
          | ok b S5 =>
            rw [hp] at q2
            intro m5 F5 v5 H5 pr5 le5 R5 rep5
            cases b with
            | bl b =>
              cases rep5
              refine ⟨b, rfl, ?_⟩
              cases b with
              | false =>
                obtain ⟨sd5, hD5⟩ := sd.at hDl R5
                exact ⟨m5, F5, S5, ks, acc, xs, pr2.trans pr5, (le2.trans le3).trans le5, R2.back R5.bare pr5 (le3.trans le5), sd5, hD5, hkl, hnd, racc.mono pr5 (le3.trans le5), NAft.from pr5 (le3.trans le5) q2⟩
              | true =>
                refine ⟨⟨H', m2, F2⟩, m5, F5, S5, ρ1, R5, ?_⟩
                have q3 : NAft o m2 F2 ρ σ W (match dcK e ρ1 (k ρ1 S5) with
                  | some (some (j, z), S3) => dcD l c t vs p k e ρ (l.drop (i + 1)) (putKs ks j) (putDs ks acc j z) S3
                  | some (none, S1) => dcD l c t vs p k e ρ (l.drop (i + 1)) ks acc S1
                  | none => .bad) Q := q2
                cases hk' : k ρ1 S5 with
                | err c d S6 => rw [hk'] at q3; exact q3.elim
                | bad => rw [hk'] at q3; exact q3.elim
                | ok y S6 =>
                  rw [hk'] at q3
                  intro m6 F6 v6 H6 pr6 le6 R6 rep6
                  refine ⟨⟨H', m2, F2⟩, m6, F6, S6, ρ1, R6, ?_⟩
                  unfold dcK at q3
                  dsimp only at q3
                  cases hj : keyD y with
                  | none => rw [hj] at q3; exact q3.elim
                  | some j =>
                    rw [hj] at q3
                    dsimp only at q3
                    cases he' : e ρ1 S6 with
                    | err c d S7 => rw [he'] at q3; exact q3.elim
                    | bad => rw [he'] at q3; exact q3.elim
                    | ok z S7 =>
                      rw [he'] at q3
                      intro m7 F7 v7 H7 pr7 le7 R7 rep7
                      obtain ⟨sd7, hD7⟩ := sd.at hDl R7
                      have pr : m2 <+: m7 := pr5.trans (pr6.trans pr7)
                      have le : Le F2 F7 := le3.trans (le5.trans (le6.trans le7))
                      obtain ⟨ys, g1, g2, g3⟩ := put_zip (j := j) hnd hkl (racc.mono pr le) rep7
                      refine ⟨ks.zip xs, j, rep_key rep6 hj, hD7, ?_, m7, F7, S7, putKs ks j, putDs ks acc j z, ys, pr2.trans pr, le2.trans le, (R2.back R7.bare pr le).sideU sd7, sd7, ?_, g2, putKs_nodup hnd, g3, NAft.from pr le q3⟩
                      · exact Nat.lt_of_le_of_lt zip_len_le (Nat.lt_of_lt_of_le hbig (by decide))
                      · rw [upd_same, g1]
            | _ => exact q2.elim
      · rw [if_neg hst] at q2
        exact q2.elim
    · have ei : i = l.length := by omega
      subst ei
      rw [List.drop_length] at q2
      unfold dcD at q2
      by_cases hst : Stay c l S2
      · rw [if_pos hst] at q2
        refine .inl ⟨(wk o.g m2 F2 S2 ρ σ H' pr2 le2 R2 hst l.length).1 (Nat.le_refl _), ?_⟩
        have R4 := R2.side (u := none) sd
        have en : (fun b => if b = Dl then none else H' b) Dl = none := if_pos rfl
        have eu : H' = upd (fun b => if b = Dl then none else H' b) Dl (.dK (ks.zip xs)) := by
          funext b
          by_cases e : b = Dl
          · subst e; rw [upd_same, hDl]
          · rw [upd_ne e, if_neg e]
        rw [eu]
        exact q2 m2 F2 _ Dl _ (List.prefix_refl m2) (Le.refl F2) R4 en (.dct hkl racc)
      · rw [if_neg hst] at q2
        exact q2.elim
theorem fn_dc (hc : X.calm = true) (hN : X.N.Nodup) (hi : PI X tg iter (tI o W s)) (ok : BlkOk X.N X.env.scope scope own) (hsl : ∀ j ∈ sl, j ∈ own.map (·.2))
    (hg : ∀ (s : Shared) (H : Hp) (C : Addr) (cl : List (Str × Addr)) (fp : List Addr), PG (X.blk s H scope (compEnvC scope cl C X.env) fp) tg (tGx o.K o.T t sl)) (ht : ∀ (s : Shared) (H : Hp) (C : Addr) (cl : List (Str × Addr)) (fp : List Addr), PTs (X.blk s H scope (compEnvC scope cl C X.env) fp) ifs (tTx o.K o.T p))
    (hk : ∀ (s : Shared) (H : Hp) (C : Addr) (cl : List (Str × Addr)) (fp : List Addr), PE (X.blk s H scope (compEnvC scope cl C X.env) fp) kx (tEx o.K o.T k))
    (he : ∀ (s : Shared) (H : Hp) (C : Addr) (cl : List (Str × Addr)) (fp : List Addr), PE (X.blk s H scope (compEnvC scope cl C X.env) fp) vx (tEx o.K o.T e)) (hs : ∀ x, foldedSetIterable iter X.env x = pure x) :
    PE X (.DictComp kx vx [⟨tg, iter, ifs, 0⟩] scope pos) (tN o W (dcF s t (own.map (·.2)) p k e)) := PE.of (pe_dc hc hN hi ok hg ht hk he hs) (dc_imp hsl)
theorem tN_of_tE {f : Ev} {σ : St} {H : Hp} {Q : VK} (q : tE o W f σ H Q) : tN o W f σ H Q := by
  obtain ⟨m, F, S, ρ, R, q⟩ := q
  exact ⟨m, F, S, ρ, R, q.toNew⟩
theorem tN_of_cell {f : Ev} {σ : St} {H : Hp} {Q : VK} (q : tE o W (cellF f) σ H Q) : tN o W f σ H Q := by
  obtain ⟨m, F, S, ρ, R, q⟩ := q
  refine ⟨m, F, S, ρ, R, ?_⟩
  unfold cellF at q
  cases hr : f ρ S with
  | ok d S1 =>
    rw [hr] at q
    intro m1 F1 H1 p u pr le R1 hp n
    obtain ⟨c, ec, hc⟩ := n.cell (H := H1) (p := p) (List.prefix_append m1 [p])
    have q' : Aft o m F ρ σ W (match asCell d with
      | some c => Res.ok (.loc S1.length) (S1 ++ [c])
      | none => .bad) Q := q
    rw [ec] at q'
    have R2 := R1.push hp hc
    have rl : Rep o.K o.T (m1 ++ [p]) F1 (.loc S1.length) (.ref p) := .loc (by rw [← R1.len]; simp)
    exact q' (m1 ++ [p]) F1 _ _ (pr.trans (List.prefix_append m1 [p])) le R2 rl
  | err c d S1 =>
    rw [hr] at q
    exact q
  | bad =>
    rw [hr] at q
    exact q
theorem asg_tE {f : Ev} {i : Nat} {D : Ends} {σ : St} {H : Hp} (q : tS o W (asgS i f) D σ H) : tE o W f σ H fun v H1 => gName i v σ H1 D.nx := by
  obtain ⟨m, F, S, ρ, R, q⟩ := q
  refine ⟨m, F, S, ρ, R, (SAft.exp q).map ?_⟩
  rintro v H1 ⟨m1, F1, S1, d, p, e, R1, rep, q1⟩
  exact q1 m1 F1 _ H1 (List.prefix_refl m1) (Le.refl F1) (R1.slot rep)
section
variable {i : Nat} {y : Str} {py spos : Pos} {elt : Expr}
theorem st_lc (hc : X.calm = true) (hN : X.N.Nodup) (hy : X.N[i]? = some y) (hyl : X.env.scope.names.lookup y = some .local) (hsw : swapsWith (.ListComp elt [⟨tg, iter, ifs, 0⟩] scope pos) (some (.Name y py)) spos.line X.env = pure true)
    (hi : PI X tg iter (tI o W s)) (ok : BlkOk X.N X.env.scope scope own) (hsl : ∀ j ∈ sl, j ∈ own.map (·.2))
    (hg : ∀ (s : Shared) (H : Hp) (C : Addr) (cl : List (Str × Addr)) (fp : List Addr), PG (X.blk s H scope (compEnvC scope cl C X.env) fp) tg (tGx o.K o.T t sl)) (ht : ∀ (s : Shared) (H : Hp) (C : Addr) (cl : List (Str × Addr)) (fp : List Addr), PTs (X.blk s H scope (compEnvC scope cl C X.env) fp) ifs (tTx o.K o.T p))
    (he : ∀ (s : Shared) (H : Hp) (C : Addr) (cl : List (Str × Addr)) (fp : List Addr), PE (X.blk s H scope (compEnvC scope cl C X.env) fp) elt (tEx o.K o.T e)) (hs : ∀ x, foldedSetIterable iter X.env x = pure x) :
    PS X (.Assign [.Name y py] (.ListComp elt [⟨tg, iter, ifs, 0⟩] scope pos) spos) (tS o W (asgS i (compF s t (own.map (·.2)) p e))) :=
  PS.of (ps_setLc hc hN hy hyl hsw hi ok hg ht he hs) fun D σ H q => lc_imp hsl σ H _ (tN_of_tE (asg_tE q))
theorem st_lcC (hc : X.calm = true) (hN : X.N.Nodup) (hy : X.N[i]? = some y) (hyl : X.env.scope.names.lookup y = some .local) (hsw : swapsWith (.ListComp elt [⟨tg, iter, ifs, 0⟩] scope pos) (some (.Name y py)) spos.line X.env = pure true)
    (hi : PI X tg iter (tI o W s)) (ok : BlkOk X.N X.env.scope scope own) (hsl : ∀ j ∈ sl, j ∈ own.map (·.2))
    (hg : ∀ (s : Shared) (H : Hp) (C : Addr) (cl : List (Str × Addr)) (fp : List Addr), PG (X.blk s H scope (compEnvC scope cl C X.env) fp) tg (tGx o.K o.T t sl)) (ht : ∀ (s : Shared) (H : Hp) (C : Addr) (cl : List (Str × Addr)) (fp : List Addr), PTs (X.blk s H scope (compEnvC scope cl C X.env) fp) ifs (tTx o.K o.T p))
    (he : ∀ (s : Shared) (H : Hp) (C : Addr) (cl : List (Str × Addr)) (fp : List Addr), PE (X.blk s H scope (compEnvC scope cl C X.env) fp) elt (tEx o.K o.T e)) (hs : ∀ x, foldedSetIterable iter X.env x = pure x) :
    PS X (.Assign [.Name y py] (.ListComp elt [⟨tg, iter, ifs, 0⟩] scope pos) spos) (tS o W (asgS i (cellF (compF s t (own.map (·.2)) p e)))) :=
  PS.of (ps_setLc hc hN hy hyl hsw hi ok hg ht he hs) fun D σ H q => lc_imp hsl σ H _ (tN_of_cell (asg_tE q))
theorem ps_setDc {wi : TI} {g : TG} {tt : TT} {tk tv : TE} (hc : X.calm = true) (hN : X.N.Nodup) (hy : X.N[i]? = some y) (hyl : X.env.scope.names.lookup y = some .local)
    (hsw : swapsWith (.DictComp kx vx [⟨tg, iter, ifs, 0⟩] scope pos) (some (.Name y py)) spos.line X.env = pure true) (hi : PI X tg iter wi) (ok : BlkOk X.N X.env.scope scope own)
    (hg : ∀ (s : Shared) (H : Hp) (C : Addr) (cl : List (Str × Addr)) (fp : List Addr), PG (X.blk s H scope (compEnvC scope cl C X.env) fp) tg g) (ht : ∀ (s : Shared) (H : Hp) (C : Addr) (cl : List (Str × Addr)) (fp : List Addr), PTs (X.blk s H scope (compEnvC scope cl C X.env) fp) ifs tt)
    (hk : ∀ (s : Shared) (H : Hp) (C : Addr) (cl : List (Str × Addr)) (fp : List Addr), PE (X.blk s H scope (compEnvC scope cl C X.env) fp) kx tk)
    (he : ∀ (s : Shared) (H : Hp) (C : Addr) (cl : List (Str × Addr)) (fp : List Addr), PE (X.blk s H scope (compEnvC scope cl C X.env) fp) vx tv) (hs : ∀ x, foldedSetIterable iter X.env x = pure x) :
    PS X (.Assign [.Name y py] (.DictComp kx vx [⟨tg, iter, ifs, 0⟩] scope pos) spos) (tAsg (tDc wi g tt tk tv (own.map (·.2))) (gName i)) := by
  refine ⟨fun pins s σ H D I h => ?_⟩
  rw [exec_Assign_Name_used _ _ _ _ hsw]
  refine wpAny_bind (wpAny_standAt (wpAny_bind ?_))
  show wpAny _ X.A (do let _ ← comprehension (.DictComp kx vx [⟨tg, iter, ifs, 0⟩] scope pos) scope X.env (firstIterPos [⟨tg, iter, ifs, 0⟩] pos) newDict false (eval iter X.env) (some (assign (.Name y py) X.env))) _ _ s
  have h : tDc wi g tt tk tv (own.map (·.2)) σ H (fun x H1 => gName i x σ H1 D.nx) := h
  refine wpAny_bind (thn (dc_core (Qf := fun _ s' => SP X pins D .next s') hc hN I hi ok hg ht hk he hs h fun L C s' m H' I' q hn f => ?_) fun _ s' hq => wpAny_pure (wpAny_pure hq))
  show wpAny _ _ (assign (.Name y py) X.env (.ref L)) _ _ _
  refine wpAny_assign_Name (store_ok2 (v := V.ref L) I' hN hy (.inl hyl) rfl (fun s2 I2 ⟨a, sb, ha⟩ => ?_) (.inr hyl))
  obtain ⟨f0, f1, f2, f3, f4, f5⟩ := f
  have haC : C ≠ a := by
    rcases ha with z | z
    · rw [z]; exact f1
    · exact fun e => f4 y a z e.symm
  refine ⟨m, hn.sameBut sb haC, fun h3 sb3 => ?_⟩
  exact ⟨_, H', I2.turned (t' := s2.toks) (fun b o hb e => (sb3.2 b hb).trans e) f0 f1 f3 f4 f5, q⟩
theorem swD_true {gs : List Comprehension} {l : Nat} {env : Env} (hk : env.scope.kind = .function) (hy : env.scope.names.lookup y = some .local) (hl : (py.line == pos.line) = true)
    (ha : (scope.names.any fun (n, k) => n == y && (k == .local || k == .cell)) = false) : swapsWith (.DictComp kx vx gs scope pos) (some (.Name y py)) l env = pure true := by
  have ky : env.kindOf y = some .local := hy
  have hb : env.blockKind = .function := by unfold Env.blockKind; rw [hk]; rfl
  unfold swapsWith
  simp only [hb, ky, ha, Expr.pos, hl]
  rfl
theorem st_dc (hc : X.calm = true) (hN : X.N.Nodup) (hy : X.N[i]? = some y) (hyl : X.env.scope.names.lookup y = some .local) (hsw : swapsWith (.DictComp kx vx [⟨tg, iter, ifs, 0⟩] scope pos) (some (.Name y py)) spos.line X.env = pure true)
    (hi : PI X tg iter (tI o W s)) (ok : BlkOk X.N X.env.scope scope own) (hsl : ∀ j ∈ sl, j ∈ own.map (·.2))
    (hg : ∀ (s : Shared) (H : Hp) (C : Addr) (cl : List (Str × Addr)) (fp : List Addr), PG (X.blk s H scope (compEnvC scope cl C X.env) fp) tg (tGx o.K o.T t sl)) (ht : ∀ (s : Shared) (H : Hp) (C : Addr) (cl : List (Str × Addr)) (fp : List Addr), PTs (X.blk s H scope (compEnvC scope cl C X.env) fp) ifs (tTx o.K o.T p))
    (hk : ∀ (s : Shared) (H : Hp) (C : Addr) (cl : List (Str × Addr)) (fp : List Addr), PE (X.blk s H scope (compEnvC scope cl C X.env) fp) kx (tEx o.K o.T k))
    (he : ∀ (s : Shared) (H : Hp) (C : Addr) (cl : List (Str × Addr)) (fp : List Addr), PE (X.blk s H scope (compEnvC scope cl C X.env) fp) vx (tEx o.K o.T e)) (hs : ∀ x, foldedSetIterable iter X.env x = pure x) :
    PS X (.Assign [.Name y py] (.DictComp kx vx [⟨tg, iter, ifs, 0⟩] scope pos) spos) (tS o W (asgS i (dcF s t (own.map (·.2)) p k e))) :=
  PS.of (ps_setDc hc hN hy hyl hsw hi ok hg ht hk he hs) fun D σ H q => dc_imp hsl σ H _ (tN_of_tE (asg_tE q))
theorem st_dcC (hc : X.calm = true) (hN : X.N.Nodup) (hy : X.N[i]? = some y) (hyl : X.env.scope.names.lookup y = some .local) (hsw : swapsWith (.DictComp kx vx [⟨tg, iter, ifs, 0⟩] scope pos) (some (.Name y py)) spos.line X.env = pure true)
    (hi : PI X tg iter (tI o W s)) (ok : BlkOk X.N X.env.scope scope own) (hsl : ∀ j ∈ sl, j ∈ own.map (·.2))
    (hg : ∀ (s : Shared) (H : Hp) (C : Addr) (cl : List (Str × Addr)) (fp : List Addr), PG (X.blk s H scope (compEnvC scope cl C X.env) fp) tg (tGx o.K o.T t sl)) (ht : ∀ (s : Shared) (H : Hp) (C : Addr) (cl : List (Str × Addr)) (fp : List Addr), PTs (X.blk s H scope (compEnvC scope cl C X.env) fp) ifs (tTx o.K o.T p))
    (hk : ∀ (s : Shared) (H : Hp) (C : Addr) (cl : List (Str × Addr)) (fp : List Addr), PE (X.blk s H scope (compEnvC scope cl C X.env) fp) kx (tEx o.K o.T k))
    (he : ∀ (s : Shared) (H : Hp) (C : Addr) (cl : List (Str × Addr)) (fp : List Addr), PE (X.blk s H scope (compEnvC scope cl C X.env) fp) vx (tEx o.K o.T e)) (hs : ∀ x, foldedSetIterable iter X.env x = pure x) :
    PS X (.Assign [.Name y py] (.DictComp kx vx [⟨tg, iter, ifs, 0⟩] scope pos) spos) (tS o W (asgS i (cellF (dcF s t (own.map (·.2)) p k e)))) :=
  PS.of (ps_setDc hc hN hy hyl hsw hi ok hg ht hk he hs) fun D σ H q => dc_imp hsl σ H _ (tN_of_cell (asg_tE q))
end
end

theorem hu65 {A : Around} {k : Nat} (hr : Room k A) : A.units + 65 < cLine := by have := hr.un; omega
section
variable {P : Program} {w : World} {K : PySem.W.Frag} {T : Tab} {mg : Str → Option Value} {base : Heap}
theorem fn_go {x qual : Str} {st : Stmt} {f : Addr} {fd : FuncData} {N ps : List Str} {k : Nat} {b : Sv} (FF : Fun K x qual st f fd) (SC : FnScope N ps (defScope st))
    (hb : ∀ (cdv : Value) (A : Around) (outer : List Env) (s : Shared) (H : Hp) (E : XK) (g : Gh) (W : WX), Room k (A.deeper (PyProof.Rows.envOfC qual (defScope st) s.heap.objs.size f cdv)) → L2N.Takes (cxOf (L2N.CX P w) P w K mg base N qual (defScope st) f cdv A outer s H E) W →
      PSs (cxOf (L2N.CX P w) P w K mg base N qual (defScope st) f cdv A outer s H E) (defBody st) (tS ⟨K, T, g⟩ W b)) :
    FnOk P w K mg base (L2N.CX P w) (k + 1) f fd ps (spF K T ps.length (runF N.length b)) :=
  fn_run FF SC fun cdv A outer s H E o W hr hK hT tk => by
    obtain ⟨K', T', g⟩ := o
    cases hK
    cases hT
    exact hb cdv A outer s H E g W hr tk
end

def spLaw (K : PySem.W.Frag) : Sp := fun vs H Q _ => ∃ (a : Addr) (ns : List Int), vs = [.ref a] ∧ SqL K H a (ns.map V.int) ∧ ns.length ≤ 63 ∧ (∀ z ∈ ns, Builtin.Int.intBits z ≤ 1048576) ∧ ∀ H', Q (.bl true) H'
theorem reps_ints {K : PySem.W.Frag} {T : Tab} {m : List Addr} {F : Hp} : ∀ ns : List Int, Reps K T m F (ns.map D.int) (ns.map V.int)
  | [] => .nil
  | n :: ns => .cons (.int n) (reps_ints ns)
theorem rel_first {K : PySem.W.Frag} {T : Tab} {H F : Hp} (le : Le F H) : Rel K T ⟨H, [], F⟩ [] F [] [] [] H :=
  ⟨rfl, List.nodup_nil, le, fun n a h => by simp at h, fun n a c h _ => by simp at h, rfl, fun i d h => by simp at h, fun a o h _ => h, List.prefix_refl _, fun a o h => .inl h, fun n a h => by simp at h, Le.refl F, fun n a h => by simp at h⟩
/-- what is to be shown of the law's function -/
def LawTrue (G : Fn) : Prop := ∀ ns : List Int, ns.length ≤ 63 → (∀ z ∈ ns, Builtin.Int.intBits z ≤ 1048576) → ∀ d : D, (d = .lst (ns.map D.int) ∨ d = .klst (ns.map D.int)) → ∃ S, G [d] [] = .ok (.bl true) S
theorem law_sp {P : Program} {w : World} {K : PySem.W.Frag} {T : Tab} {mg : Str → Option Value} {base : Heap} {CX : CXT} {k : Nat} {f : Addr} {fd : FuncData} {ps : List Str} {G : Fn} (hG : LawTrue G) (F : FnOk P w K mg base CX k f fd ps (spF K T 1 G)) : FnOk P w K mg base CX k f fd ps (spLaw K) :=
  F.imp fun vs H Q E ⟨a, ns, hv, hS, hl, hb, q⟩ => by
    subst hv
    refine ⟨rfl, ?_⟩
    rcases hS with h | h
    · obtain ⟨S, e⟩ := hG ns hl hb _ (.inl rfl)
      refine ⟨[], fun b => if b = a then H a else none, [], [.lst (ns.map D.int)], rel_first fun b o h => ?_, .cons (.lst (xs := ns.map V.int) ?_ (reps_ints ns)) .nil, ?_⟩
      · by_cases e : b = a
        · subst e; rwa [if_pos rfl] at h
        · rw [if_neg e] at h; cases h
      · rcases h with h | ⟨o, h⟩
        · exact .inl (by show (if a = a then H a else none) = _; rw [if_pos rfl]; exact h)
        · exact .inr ⟨o, by show (if a = a then H a else none) = _; rw [if_pos rfl]; exact h⟩
      · rw [e]
        intro m' F' v H' _ _ _ rep
        cases rep
        exact q H'
    · obtain ⟨S, e⟩ := hG ns hl hb _ (.inr rfl)
      refine ⟨[], fun _ => none, [], [.klst (ns.map D.int)], rel_first (Le.zero _), .cons (.klst (xs := ns.map V.int) (.inr h) (reps_ints ns)) .nil, ?_⟩
      rw [e]
      intro m' F' v H' _ _ _ rep
      cases rep
      exact q H'
theorem cx_none {P : Program} {w : World} {H : Hp} {s : Shared} {e : Value} {s' : Shared} (h : L2N.CX P w [] H s (fun _ _ _ => False) e s') : False := by
  obtain ⟨a, B, H', cls, d, _, _, _, _, _, _, _, h8⟩ := h
  exact h8
theorem walkB {l : PySem.W.OpenLaw} {k : Nat} {q : Program} {loose : List Str} {XP : (Str → Option Value) → Heap → Prop} {YP : World → Heap → Prop} {d : DefRec} {K : Params → PySem.W.Frag} (hn : l.most = some 63) (hdf : d.params.defaults = []) (hr : Room k callerA)
    (hY : ∀ (w : World) (h : Heap), YP w h → (K w.params).In h)
    (F : ∀ (w : World) (mg : Str → Option Value) (fa : Addr) (h : Heap), (K w.params).In h → h.Ns mainGlobals mg → mg d.name = some (.ref fa) →
      ∃ fd : FuncData, (∀ (s : Shared) (u : Value), BindsTo s fd ⟨[u], []⟩ [("script", u)]) ∧ ∀ base : Heap, (K w.params).In base → base.Ns mainGlobals mg → FnOk l.prog w (K w.params) mg base (L2N.CX l.prog w) k fa fd ["script"] (spLaw (K w.params))) :
    PySem.W.WalkO q loose XP YP l.row.toRowW d [] (fun f vs => PySem.call f vs) :=
  L2.walk_ofB (n := 63) (k := k) (x := "script") (CX := fun w => L2N.CX l.prog w) (sp := fun w => spLaw (K w.params)) hn (by decide) hdf hr hY F (fun _ _ a ns hl hb _ hS => ⟨a, ns, rfl, hS, hl, hb, fun _ => rfl⟩) fun _ _ _ _ _ z => cx_none z


def WR (r : Res) (P : D → List Cell → Prop) (E : Nat → D → List Cell → Prop) : Prop := match r with
  | .ok d S => P d S
  | .err c d S => E c d S
  | .bad => False
def WS (r : ResS) (P : Fl → List Cell → Prop) : Prop := match r with
  | .ok f S => P f S
  | .bad => False
abbrev E0 : Nat → D → List Cell → Prop := fun _ _ _ => False
section
variable {P P' : D → List Cell → Prop} {E E' : Nat → D → List Cell → Prop} {Ps Ps' : Fl → List Cell → Prop} {r : Res} {rs : ResS} {S : List Cell} {ρ : Slots} {d : D}
theorem WR_ok : WR (.ok d S) P E = P d S := rfl
theorem WR_err {c : Nat} : WR (.err c d S) P E = E c d S := rfl
theorem WR_bind {k : D → List Cell → Res} : WR (r.bind k) P E = WR r (fun d S => WR (k d S) P E) E := by cases r <;> rfl
theorem WS_ok {f : Fl} : WS (.ok f S) Ps = Ps f S := rfl
theorem WS_then {k : D → List Cell → ResS} : WS (r.then ρ k) Ps = WR r (fun d S => WS (k d S) Ps) (fun c d S => Ps (.er c d ρ) S) := by cases r <;> rfl
def goP (k : Slots → List Cell → ResS) (Ps : Fl → List Cell → Prop) : Fl → List Cell → Prop := fun f S => match f with
  | .nx ρ => WS (k ρ S) Ps
  | f => Ps f S
theorem goP_nx {k : Slots → List Cell → ResS} : goP k Ps (.nx ρ) S = WS (k ρ S) Ps := rfl
theorem goP_ret {k : Slots → List Cell → ResS} : goP k Ps (.ret d) S = Ps (.ret d) S := rfl
theorem goP_ct {k : Slots → List Cell → ResS} : goP k Ps (.ct ρ) S = Ps (.ct ρ) S := rfl
theorem goP_brk {k : Slots → List Cell → ResS} : goP k Ps (.brk ρ) S = Ps (.brk ρ) S := rfl
theorem goP_er {k : Slots → List Cell → ResS} {c : Nat} : goP k Ps (.er c d ρ) S = Ps (.er c d ρ) S := rfl
theorem WS_rthen {k : Slots → List Cell → ResS} : WS (rs.then k) Ps = WS rs (goP k Ps) := by
  cases rs with
  | ok f S => cases f <;> rfl
  | bad => rfl
theorem WR.mono (h : WR r P E) (hp : ∀ d S, P d S → P' d S) (he : ∀ c d S, E c d S → E' c d S) : WR r P' E' := by
  cases r with
  | ok d S => exact hp d S h
  | err c d S => exact he c d S h
  | bad => exact h
theorem WR.imp (h : WR r P E) (hp : ∀ d S, P d S → P' d S) : WR r P' E := h.mono hp fun _ _ _ x => x
theorem WS.mono (h : WS rs Ps) (hp : ∀ f S, Ps f S → Ps' f S) : WS rs Ps' := by
  cases rs with
  | ok f S => exact hp f S h
  | bad => exact h
theorem WR.ex (h : WR r P E0) : ∃ d S, r = .ok d S ∧ P d S := by
  cases r with
  | ok d S => exact ⟨d, S, rfl, h⟩
  | err c d S => exact h.elim
  | bad => exact h.elim
theorem WR.of {d : D} {S : List Cell} (h : r = .ok d S) (p : P d S) : WR r P E := by rw [h]; exact p
end
section
variable {P : D → List Cell → Prop} {E : Nat → D → List Cell → Prop} {Ps : Fl → List Cell → Prop} {ρ : Slots} {S : List Cell} {f g fa fb fc : Ev} {sf sg : Sv} {op op' : Op2} {i j : Nat} {d : D}
theorem w_c : WR (cF d ρ S) P E = P d S := rfl
def slotP (P : D → List Cell → Prop) (S : List Cell) : Option (Option D) → Prop
  | some (some d) => P d S
  | _ => False
theorem slotP_s : slotP P S (some (some d)) = P d S := rfl
theorem w_v : WR (vF i ρ S) P E = slotP P S ρ[i]? := by
  unfold vF
  split
  · rename_i d e; rw [e]; rfl
  · rename_i h
    cases hq : ρ[i]? with
    | none => rfl
    | some x =>
      cases x with
      | none => rfl
      | some d => exact (h d hq).elim
theorem w_bin : WR (binF op fa fb ρ S) P E = WR (fa ρ S) (fun x S1 => WR (fb ρ S1) (fun y S2 => WR (op x y S2) P E) E) E := by unfold binF; rw [WR_bind]; congr; funext x S1; rw [WR_bind]
def boolP (p q : List Cell → Prop) : D → List Cell → Prop := fun x S => match x with
  | .bl true => p S
  | .bl false => q S
  | _ => False
theorem boolP_b {p q : List Cell → Prop} {b : Bool} : boolP p q (.bl b) S = if b = true then p S else q S := by cases b <;> rfl
def notP (P : D → List Cell → Prop) : D → List Cell → Prop := fun x S => match x with
  | .bl b => P (.bl (!b)) S
  | _ => False
theorem notP_b {b : Bool} : notP P (.bl b) S = P (.bl (!b)) S := rfl
theorem w_not : WR (notF f ρ S) P E = WR (f ρ S) (notP P) E := by
  unfold notF; rw [WR_bind]; congr; funext x S1; cases x <;> rfl
theorem w_and : WR (andF fa fb ρ S) P E = WR (fa ρ S) (boolP (fun S1 => WR (fb ρ S1) P E) fun S1 => P (.bl false) S1) E := by
  unfold andF; rw [WR_bind]; congr; funext x S1
  cases x with
  | bl b => cases b <;> rfl
  | _ => rfl
theorem w_or : WR (orF fa fb ρ S) P E = WR (fa ρ S) (boolP (fun S1 => P (.bl true) S1) fun S1 => WR (fb ρ S1) P E) E := by
  unfold orF; rw [WR_bind]; congr; funext x S1
  cases x with
  | bl b => cases b <;> rfl
  | _ => rfl
theorem w_if : WR (ifF fc fa fb ρ S) P E = WR (fc ρ S) (boolP (fun S1 => WR (fa ρ S1) P E) fun S1 => WR (fb ρ S1) P E) E := by
  unfold ifF; rw [WR_bind]; congr; funext x S1
  cases x with
  | bl b => cases b <;> rfl
  | _ => rfl
theorem w_chain : WR (chainF op op' fa fb fc ρ S) P E = WR (fa ρ S) (fun x S1 => WR (fb ρ S1) (fun y S2 => WR (op x y S2) (boolP (fun S3 => WR (fc ρ S3) (fun w S4 => WR (op' y w S4) P E) E) fun S3 => P (.bl false) S3) E) E) E := by
  unfold chainF; rw [WR_bind]; congr; funext x S1; rw [WR_bind]; congr; funext y S2; rw [WR_bind]; congr; funext z S3
  cases z with
  | bl b =>
    cases b with
    | true => exact WR_bind
    | false => rfl
  | _ => rfl
theorem w_evs0 {k : List D → List Cell → Res} : WR (evs [] ρ S k) P E = WR (k [] S) P E := rfl
theorem w_evs {fs : List Ev} {k : List D → List Cell → Res} : WR (evs (f :: fs) ρ S k) P E = WR (f ρ S) (fun x S1 => WR (evs fs ρ S1 fun xs S2 => k (x :: xs) S2) P E) E := by
  rw [show evs (f :: fs) ρ S k = (f ρ S).bind fun x S1 => evs fs ρ S1 fun xs S2 => k (x :: xs) S2 from rfl, WR_bind]
theorem w_call {G : Fn} {fs : List Ev} : WR (callF G fs ρ S) P E = WR (evs fs ρ S G) P E := rfl
theorem w_callK {ix : List Nat} {G : Fn} {fs kfs : List Ev} : WR (callKF ix G fs kfs ρ S) P E = WR (evs fs ρ S fun ds S1 => evs kfs ρ S1 fun es S2 => G (pick ix (ds ++ es)) S2) P E := rfl
theorem w_tup {fs : List Ev} : WR (tupF fs ρ S) P E = WR (evs fs ρ S fun ds S1 => .ok (.tup ds) S1) P E := rfl
theorem w_lst {fs : List Ev} : WR (lstF fs ρ S) P E = WR (evs fs ρ S fun ds S1 => .ok (.lst ds) S1) P E := rfl
def cellP (P : D → List Cell → Prop) : D → List Cell → Prop := fun d S => match asCell d with
  | some c => P (.loc S.length) (S ++ [c])
  | none => False
theorem w_cell : WR (cellF f ρ S) P E = WR (f ρ S) (cellP P) E := by
  unfold cellF; rw [WR_bind]; congr; funext d S1
  unfold cellP
  cases asCell d <;> rfl
theorem cellP_lst {l : List D} : cellP P (.lst l) S = P (.loc S.length) (S ++ [.lst l]) := rfl
theorem cellP_dct {ks : List Key} {l : List D} : cellP P (.dct ks l) S = P (.loc S.length) (S ++ [.dct ks l]) := rfl
def negP (P : D → List Cell → Prop) : D → List Cell → Prop := fun x S => match x with
  | .int i => P (.int (-i)) S
  | _ => False
theorem negP_i {i : Int} : negP P (.int i) S = P (.int (-i)) S := rfl
theorem w_neg : WR (negF f ρ S) P E = WR (f ρ S) (negP P) E := by
  unfold negF; rw [WR_bind]; congr; funext x S1; cases x <;> rfl
theorem w_fld {fl : Nat → List Str} {c : Nat} {fn : Str} : WR (fldF fl c fn f ρ S) P E = WR (f ρ S) (fun x S1 => WR (getF fl c fn x S1) P E) E := by unfold fldF; exact WR_bind
theorem w_meth {t : Ty} {m : D → List D → List Cell → Res} {fs : List Ev} : WR (methF t m f fs ρ S) P E = WR (f ρ S) (fun x S1 => tyD S1 t x = true ∧ WR (evs fs ρ S1 (m x)) P E) E := by
  unfold methF; rw [WR_bind]; congr; funext x S1
  by_cases h : tyD S1 t x = true
  · rw [if_pos h]; simp [h]
  · rw [if_neg h]; simp [h, WR]
theorem w_methC {fl : Nat → List Str} {c : Nat} {mn : Str} {G : Fn} {fs : List Ev} : WR (methCF fl c mn G f fs ρ S) P E = WR (f ρ S) (fun x S1 => hasM fl c mn S1 x = true ∧ WR (evs fs ρ S1 fun ds S2 => G (x :: ds) S2) P E) E := by
  unfold methCF; rw [WR_bind]; congr; funext x S1
  by_cases h : hasM fl c mn S1 x = true
  · rw [if_pos h]; simp [h]
  · rw [if_neg h]; simp [h, WR]
theorem w_make {c : Nat} {G : Fn} {fs : List Ev} : WR (makeF c G fs ρ S) P E = WR (evs fs ρ S (mkR c G)) P E := rfl
theorem w_makeZ {fl : Nat → List Str} {c : Nat} {G : Fn} {fs : List Ev} : WR (makeZ fl c G fs ρ S) P E = WR (evs fs ρ S fun ds S1 => sealR fl S1.length (mkR c G ds S1)) P E := rfl
theorem ws_next : WS (nextS ρ S) Ps = Ps (.nx ρ) S := rfl
theorem ws_brk : WS (brkS ρ S) Ps = Ps (.brk ρ) S := rfl
theorem ws_ct : WS (ctS ρ S) Ps = Ps (.ct ρ) S := rfl
theorem ws_seq : WS (seqS sf sg ρ S) Ps = WS (sf ρ S) (goP sg Ps) := by unfold seqS; exact WS_rthen
theorem ws_asg : WS (asgS i f ρ S) Ps = WR (f ρ S) (fun d S1 => Ps (.nx (ρ.set i (some d))) S1) (fun c d S1 => Ps (.er c d ρ) S1) := by unfold asgS; rw [WS_then]; rfl
theorem ws_ret : WS (retS f ρ S) Ps = WR (f ρ S) (fun d S1 => Ps (.ret d) S1) (fun c d S1 => Ps (.er c d ρ) S1) := by unfold retS; rw [WS_then]; rfl
theorem ws_drop : WS (dropS f ρ S) Ps = WR (f ρ S) (fun _ S1 => Ps (.nx ρ) S1) (fun c d S1 => Ps (.er c d ρ) S1) := by unfold dropS; rw [WS_then]; rfl
theorem ws_if : WS (ifS fc sf sg ρ S) Ps = WR (fc ρ S) (boolP (fun S1 => WS (sf ρ S1) Ps) fun S1 => WS (sg ρ S1) Ps) (fun c d S1 => Ps (.er c d ρ) S1) := by
  unfold ifS; rw [WS_then]; congr; funext x S1
  cases x with
  | bl b => cases b <;> rfl
  | _ => rfl
theorem ws_par : WS (parS i j fa fb ρ S) Ps = WR (fa ρ S) (fun x S1 => WR (fb ρ S1) (fun y S2 => Ps (.nx ((ρ.set i (some x)).set j (some y))) S2) (fun c d S1 => Ps (.er c d ρ) S1)) (fun c d S1 => Ps (.er c d ρ) S1) := by
  unfold parS; rw [WS_then]; congr; funext x S1; rw [WS_then]; rfl
def tgP (t : Tgt) (ρ : Slots) (Ps : Fl → List Cell → Prop) : D → List Cell → Prop := fun d S => match t d ρ with
  | some ρ' => Ps (.nx ρ') S
  | none => False
theorem ws_unp {t : Tgt} : WS (unpS t f ρ S) Ps = WR (f ρ S) (tgP t ρ Ps) (fun c d S1 => Ps (.er c d ρ) S1) := by
  unfold unpS; rw [WS_then]; congr; funext x S1
  unfold tgP
  cases t x ρ <;> rfl
def setP (x y d : D) (ρ : Slots) (Ps : Fl → List Cell → Prop) (S : List Cell) : Prop := match setC x y d S with
  | some S' => Ps (.nx ρ) S'
  | none => False
theorem ws_sto {fx fi : Ev} : WS (stoS fx fi f ρ S) Ps = WR (f ρ S) (fun d S1 => WR (fx ρ S1) (fun x S2 => WR (fi ρ S2) (fun y S3 => setP x y d ρ Ps S3) (fun c d S1 => Ps (.er c d ρ) S1)) (fun c d S1 => Ps (.er c d ρ) S1)) (fun c d S1 => Ps (.er c d ρ) S1) := by
  unfold stoS; rw [WS_then]; congr; funext d S1; rw [WS_then]; congr; funext x S2; rw [WS_then]; congr; funext y S3
  unfold setP
  cases setC x y d S3 <;> rfl
def setFP (c : Nat) (fn : Str) (x d : D) (ρ : Slots) (Ps : Fl → List Cell → Prop) (S : List Cell) : Prop := match setF c fn x d S with
  | some S' => Ps (.nx ρ) S'
  | none => False
theorem ws_stoF {c : Nat} {fn : Str} {fx : Ev} : WS (stoF c fn fx f ρ S) Ps = WR (f ρ S) (fun d S1 => WR (fx ρ S1) (fun x S2 => setFP c fn x d ρ Ps S2) (fun c d S1 => Ps (.er c d ρ) S1)) (fun c d S1 => Ps (.er c d ρ) S1) := by
  unfold stoF; rw [WS_then]; congr; funext d S1; rw [WS_then]; congr; funext x S2
  unfold setFP
  cases setF c fn x d S2 <;> rfl
end
/-- what holds between two statements -/
def goM (M : Slots → List Cell → Prop) (Ps : Fl → List Cell → Prop) : Fl → List Cell → Prop := fun f S => match f with
  | .nx ρ => M ρ S
  | f => Ps f S
section
variable {M : Slots → List Cell → Prop} {Ps : Fl → List Cell → Prop} {ρ : Slots} {S : List Cell} {sf sg : Sv} {d : D}
theorem goM_nx : goM M Ps (.nx ρ) S = M ρ S := rfl
theorem goM_ret : goM M Ps (.ret d) S = Ps (.ret d) S := rfl
theorem goM_ct : goM M Ps (.ct ρ) S = Ps (.ct ρ) S := rfl
theorem goM_brk : goM M Ps (.brk ρ) S = Ps (.brk ρ) S := rfl
theorem goM_er {c : Nat} : goM M Ps (.er c d ρ) S = Ps (.er c d ρ) S := rfl
theorem ws_mid (M : Slots → List Cell → Prop) (h1 : WS (sf ρ S) (goM M Ps)) (h2 : ∀ ρ1 S1, M ρ1 S1 → WS (sg ρ1 S1) Ps) : WS (seqS sf sg ρ S) Ps := by
  rw [ws_seq]
  refine h1.mono fun f S1 h => ?_
  cases f with
  | nx ρ1 => exact h2 ρ1 S1 h
  | _ => exact h
end
/-- a def's body -/
def bodyP (P : D → List Cell → Prop) (E : Nat → D → List Cell → Prop) : Fl → List Cell → Prop := fun f S => match f with
  | .nx _ => P .non S
  | .ret d => P d S
  | .er c d _ => E c d S
  | _ => False
theorem w_run {n : Nat} {b : Sv} {ds : List D} {S : List Cell} {P : D → List Cell → Prop} {E : Nat → D → List Cell → Prop} : WR (runF n b ds S) P E = WS (b (startD n ds) S) (bodyP P E) := by
  unfold runF
  cases b (startD n ds) S with
  | ok f S' => cases f <;> rfl
  | bad => rfl
section
variable {P : D → List Cell → Prop} {E : Nat → D → List Cell → Prop} {ρ : Slots} {S : List Cell} {d : D}
theorem bodyP_nx : bodyP P E (.nx ρ) S = P .non S := rfl
theorem bodyP_ret : bodyP P E (.ret d) S = P d S := rfl
theorem bodyP_er {c : Nat} : bodyP P E (.er c d ρ) S = E c d S := rfl
end
section
variable {Ps : Fl → List Cell → Prop} {l : List D} {c : Option Nat} {t : Tgt} {b : Sv}
/-- what a turn of a loop may reach -/
def turnP (I : Slots → List Cell → Prop) (Ps : Fl → List Cell → Prop) : Fl → List Cell → Prop := fun f S => match f with
  | .nx ρ => I ρ S
  | .ct ρ => I ρ S
  | .brk ρ => Ps (.nx ρ) S
  | f => Ps f S
theorem turnP_nx {I : Slots → List Cell → Prop} {ρ : Slots} {S : List Cell} : turnP I Ps (.nx ρ) S = I ρ S := rfl
theorem turnP_ct {I : Slots → List Cell → Prop} {ρ : Slots} {S : List Cell} : turnP I Ps (.ct ρ) S = I ρ S := rfl
theorem turnP_brk {I : Slots → List Cell → Prop} {ρ : Slots} {S : List Cell} : turnP I Ps (.brk ρ) S = Ps (.nx ρ) S := rfl
theorem turnP_ret {I : Slots → List Cell → Prop} {d : D} {S : List Cell} : turnP I Ps (.ret d) S = Ps (.ret d) S := rfl
theorem turnP_er {I : Slots → List Cell → Prop} {k : Nat} {d : D} {ρ : Slots} {S : List Cell} : turnP I Ps (.er k d ρ) S = Ps (.er k d ρ) S := rfl
def tgT' (t : Tgt) (ρ : Slots) (Q : Slots → Prop) (d : D) : Prop := match t d ρ with
  | some ρ' => Q ρ'
  | none => False
theorem forD_inv (I : Nat → Slots → List Cell → Prop) {i : Nat} {ρ : Slots} {S : List Cell} (hi : i ≤ l.length) (h0 : I i ρ S) (hst : ∀ i ρ S, I i ρ S → Stay c l S)
    (hs : ∀ i d ρ S, l[i]? = some d → I i ρ S → tgT' t ρ (fun ρ1 => WS (b ρ1 S) (turnP (I (i + 1)) Ps)) d) (hd : ∀ ρ S, I l.length ρ S → Ps (.nx ρ) S) : WS (forD l c t b (l.drop i) ρ S) Ps := by
  by_cases hlt : i < l.length
  · have hg : l[i]? = some l[i] := List.getElem?_eq_getElem hlt
    have q := hs i _ ρ S hg h0
    rw [drop_at hg]
    unfold forD
    rw [if_pos (hst i ρ S h0)]
    unfold tgT' at q
    cases ht : t l[i] ρ with
    | none => rw [ht] at q; exact q.elim
    | some ρ1 =>
      rw [ht] at q
      dsimp only at q ⊢
      cases hb : b ρ1 S with
      | bad => rw [hb] at q; exact q.elim
      | ok f S2 =>
        rw [hb] at q
        cases f with
        | nx ρ2 => exact forD_inv I hlt q hst hs hd
        | ct ρ2 => exact forD_inv I hlt q hst hs hd
        | brk ρ2 => exact q
        | ret d => exact q
        | er c d ρ => exact q
  · have e : i = l.length := by omega
    subst e
    rw [List.drop_length]
    unfold forD
    rw [if_pos (hst _ ρ S h0)]
    exact hd ρ S h0
  termination_by l.length - i
def WI (r : ResI) (P : List D → Option Nat → List Cell → Prop) (E : Nat → D → List Cell → Prop) : Prop := match r with
  | .ok l c S => P l c S
  | .err c d S => E c d S
  | .bad => False
theorem ws_for {s : Src} {ρ : Slots} {S : List Cell} : WS (forS s t b ρ S) Ps = WI (s ρ S) (fun l c S1 => WS (forD l c t b l ρ S1) Ps) (fun c d S1 => Ps (.er c d ρ) S1) := by
  unfold forS
  cases s ρ S <;> rfl
theorem for_inv (I : Nat → Slots → List Cell → Prop) {ρ : Slots} {S : List Cell} (h0 : I 0 ρ S) (hst : ∀ i ρ S, I i ρ S → Stay c l S)
    (hs : ∀ i d ρ S, l[i]? = some d → I i ρ S → tgT' t ρ (fun ρ1 => WS (b ρ1 S) (turnP (I (i + 1)) Ps)) d) (hd : ∀ ρ S, I l.length ρ S → Ps (.nx ρ) S) : WS (forD l c t b l ρ S) Ps := by
  have := forD_inv (i := 0) (l := l) (c := c) (t := t) (b := b) (Ps := Ps) I (Nat.zero_le _) h0 hst hs hd
  simpa using this
end
section
variable {P : List D → Option Nat → List Cell → Prop} {E : Nat → D → List Cell → Prop} {ρ : Slots} {S : List Cell} {f g : Ev}
def seqP (P : List D → Option Nat → List Cell → Prop) : D → List Cell → Prop := fun d S => match asSeq S d with
  | some (l, c) => P l c S
  | none => False
theorem wi_seq : WI (seqI f ρ S) P E = WR (f ρ S) (seqP P) E := by
  unfold seqI
  cases f ρ S with
  | ok d S1 =>
    show WI (match asSeq S1 d with | some (l, c) => ResI.ok l c S1 | none => .bad) P E = seqP P d S1
    unfold seqP
    cases asSeq S1 d with
    | none => rfl
    | some z => obtain ⟨l, c⟩ := z; rfl
  | err c d S1 => rfl
  | bad => rfl
theorem seqP_lst {l : List D} : seqP P (.lst l) S = P l none S := rfl
theorem seqP_klst {l : List D} : seqP P (.klst l) S = P l none S := rfl
theorem seqP_tup {l : List D} : seqP P (.tup l) S = P l none S := rfl
theorem seqP_ktup {l : List D} : seqP P (.ktup l) S = P l none S := rfl
theorem seqP_loc {n : Nat} {l : List D} (h : S[n]? = some (.lst l)) : seqP P (.loc n) S = P l (some n) S := by
  unfold seqP asSeq; dsimp only; rw [h]
def rngP (P : List D → Option Nat → List Cell → Prop) : D → List Cell → Prop := fun d S => match d with
  | .int j => rngOk j = true ∧ P (intsD 0 j.toNat) none S
  | _ => False
theorem wi_rng1 : WI (rng1I f ρ S) P E = WR (f ρ S) (rngP P) E := by
  unfold rng1I
  cases f ρ S with
  | ok d S1 =>
    cases d with
    | int j =>
      show WI (if rngOk j = true then .ok (intsD 0 j.toNat) none S1 else .bad) P E = (rngOk j = true ∧ P (intsD 0 j.toNat) none S1)
      by_cases h : rngOk j = true
      · rw [if_pos h]; simp [h, WI]
      · rw [if_neg h]; simp [h, WI]
    | _ => rfl
  | err c d S1 => rfl
  | bad => rfl
theorem rngP_i {j : Int} : rngP P (.int j) S = (rngOk j = true ∧ P (intsD 0 j.toNat) none S) := rfl
def enumP (P : List D → Option Nat → List Cell → Prop) : D → List Cell → Prop := fun d S => match stillL d with
  | some l => P (enumD 0 l) none S
  | none => False
theorem wi_enum : WI (enumI f ρ S) P E = WR (f ρ S) (enumP P) E := by
  unfold enumI
  cases f ρ S with
  | ok d S1 =>
    show WI (match stillL d with | some l => ResI.ok (enumD 0 l) none S1 | none => .bad) P E = enumP P d S1
    unfold enumP
    cases stillL d <;> rfl
  | err c d S1 => rfl
  | bad => rfl
def strP (P : List D → Option Nat → List Cell → Prop) : D → List Cell → Prop := fun d S => match d with
  | .str x => P (signsD x) none S
  | _ => False
theorem wi_str : WI (strI f ρ S) P E = WR (f ρ S) (strP P) E := by
  unfold strI
  cases f ρ S with
  | ok d S1 => cases d <;> rfl
  | err c d S1 => rfl
  | bad => rfl
theorem strP_s {x : Str} : strP P (.str x) S = P (signsD x) none S := rfl
theorem enumP_lst {l : List D} : enumP P (.lst l) S = P (enumD 0 l) none S := rfl
end
theorem stay_none {l : List D} {S : List Cell} : Stay none l S = True := rfl
section
variable {P : D → List Cell → Prop} {E : Nat → D → List Cell → Prop} {ρ : Slots} {S : List Cell} {t : Tgt} {vs : List Nat} {p e : Ev}
theorem w_comp {s : Src} : WR (compF s t vs p e ρ S) P E = WI (s ρ S) (fun l c S1 => WR (compD l c t vs p e ρ l S1 fun r S2 => if r.length ≤ big then .ok (.lst r) S2 else .bad) P E) E := by
  unfold compF
  cases s ρ S <;> rfl
/-- a comprehension whose turns each give what F says, the store not changed -/
def pickT : Option D → List D
  | some d => [d]
  | none => []
def compT (t : Tgt) (vs : List Nat) (p e : Ev) (ρ : Slots) (S : List Cell) (d : D) (o : Option D) : Prop := tgT' t (wipeD ρ vs) (fun ρ1 => WR (p ρ1 S) (boolP (fun S1 => S1 = S ∧ ∃ y, o = some y ∧ WR (e ρ1 S) (fun z S2 => z = y ∧ S2 = S) E0) (fun S1 => S1 = S ∧ o = none)) E0) d
theorem compD_pure {l : List D} {c : Option Nat} (hst : Stay c l S) : ∀ {ds : List D} {os : List (Option D)} {k : List D → List Cell → Res}, ds.length = os.length → (∀ (i : Nat) d o, ds[i]? = some d → os[i]? = some o → compT t vs p e ρ S d o) →
    compD l c t vs p e ρ ds S k = k (os.filterMap id) S
  | [], os, k, hl, h => by
    cases os with
    | nil =>
      unfold compD
      rw [if_pos hst]
      rfl
    | cons _ _ => cases hl
  | d :: ds, os, k, hl, h => by
    cases os with
    | nil => cases hl
    | cons o os =>
      have q := h 0 d o rfl rfl
      have ih := fun k => compD_pure (k := k) hst (ds := ds) (os := os) (by simpa using hl) fun i d o h1 h2 => h (i + 1) d o (by simpa using h1) (by simpa using h2)
      unfold compD
      rw [if_pos hst]
      unfold compT tgT' at q
      cases ht : t d (wipeD ρ vs) with
      | none => rw [ht] at q; exact q.elim
      | some ρ1 =>
        rw [ht] at q
        dsimp only at q ⊢
        cases hp : p ρ1 S with
        | err c d S1 => rw [hp] at q; exact q.elim
        | bad => rw [hp] at q; exact q.elim
        | ok b S1 =>
          rw [hp] at q
          have q2 : boolP (fun S1 => S1 = S ∧ ∃ y, o = some y ∧ WR (e ρ1 S) (fun z S2 => z = y ∧ S2 = S) E0) (fun S1 => S1 = S ∧ o = none) b S1 := q
          clear q
          cases b with
          | bl b =>
            cases b with
            | true =>
              obtain ⟨e1, y, e2, q3⟩ := q2
              subst e1
              subst e2
              obtain ⟨z, S2, he, e3, e4⟩ := q3.ex
              subst e3
              subst e4
              show bindN (e ρ1 S2) _ = _
              rw [he]
              exact ih _
            | false =>
              obtain ⟨e1, e2⟩ := q2
              subst e1
              subst e2
              exact ih _
          | _ => exact q2.elim
theorem comp_pure {l : List D} {c : Option Nat} {os : List (Option D)} (hst : Stay c l S) (hl : l.length = os.length) (h : ∀ (i : Nat) d o, l[i]? = some d → os[i]? = some o → compT t vs p e ρ S d o) (hb : (os.filterMap id).length ≤ big) (q : P (.lst (os.filterMap id)) S) :
    WR (compD l c t vs p e ρ l S fun r S2 => if r.length ≤ big then .ok (.lst r) S2 else .bad) P E := by
  rw [compD_pure hst hl h, if_pos hb]
  exact q
end
/-- no reference to a thing of the store, not too deep -/
def pureD : Nat → D → Bool
  | 0, _ => false
  | k + 1, d => match d with
    | .loc _ => false
    | .tup l => l.all (pureD k)
    | .ktup l => l.all (pureD k)
    | .lst l => l.all (pureD k)
    | .klst l => l.all (pureD k)
    | .dct _ l => l.all (pureD k)
    | .obj _ l => l.all (pureD k)
    | _ => true
def pureC : Cell → Bool
  | .lst l => l.all (pureD 50)
  | .dct _ l => l.all (pureD 50)
  | .dtt _ l => l.all (pureD 50)
  | .obj _ _ l => l.all (pureD 50)
  | .dead => true
theorem optAll_id {f : D → Option D} : ∀ {l : List D}, (∀ d ∈ l, f d = some d) → optAll f l = some l
  | [], _ => rfl
  | d :: ds, h => by
    unfold optAll
    rw [h d List.mem_cons_self, optAll_id fun x hx => h x (List.mem_cons_of_mem _ hx)]
theorem fzD_pure {fl : Nat → List Str} {S : List Cell} {n : Nat} : ∀ (k : Nat) (d : D), pureD k d = true → fzD fl S n k d = some d
  | 0, _, h => by cases h
  | k + 1, d, h => by
    have ih := fzD_pure (fl := fl) (S := S) (n := n) k
    have all : ∀ l : List D, l.all (pureD k) = true → optAll (fzD fl S n k) l = some l := fun l hl => optAll_id fun d hd => ih d (List.all_eq_true.mp hl d hd)
    cases d with
    | loc i => cases h
    | tup l => show (optAll (fzD fl S n k) l).map D.tup = _; rw [all l h]; rfl
    | ktup l => show (optAll (fzD fl S n k) l).map D.ktup = _; rw [all l h]; rfl
    | lst l => show (optAll (fzD fl S n k) l).map D.lst = _; rw [all l h]; rfl
    | klst l => show (optAll (fzD fl S n k) l).map D.klst = _; rw [all l h]; rfl
    | dct ks l => show (optAll (fzD fl S n k) l).map (D.dct ks) = _; rw [all l h]; rfl
    | obj c l => show (optAll (fzD fl S n k) l).map (D.obj c) = _; rw [all l h]; rfl
    | _ => rfl
theorem pureD_le : ∀ (k j : Nat) (d : D), k ≤ j → pureD k d = true → pureD j d = true
  | 0, _, _, _, h => by cases h
  | k + 1, 0, _, hj, _ => by omega
  | k + 1, j + 1, d, hj, h => by
    have ih := fun d => pureD_le k j d (by omega)
    have all : ∀ l : List D, l.all (pureD k) = true → l.all (pureD j) = true := fun l hl => List.all_eq_true.mpr fun d hd => ih d (List.all_eq_true.mp hl d hd)
    cases d with
    | loc i => cases h
    | tup l => exact all l h
    | ktup l => exact all l h
    | lst l => exact all l h
    | klst l => exact all l h
    | dct ks l => exact all l h
    | obj c l => exact all l h
    | _ => rfl
def PureS (S : List Cell) : Prop := ∀ c ∈ S, pureC c = true
theorem fzC_pure {fl : Nat → List Str} {S : List Cell} {n : Nat} {c : Cell} (h : pureC c = true) : fzC (fzD fl S n 60) c = some c := by
  have all : ∀ l : List D, l.all (pureD 50) = true → optAll (fzD fl S n 60) l = some l := fun l hl => optAll_id fun d hd => fzD_pure 60 d (pureD_le 50 60 d (by decide) (List.all_eq_true.mp hl d hd))
  cases c with
  | lst l => show (optAll (fzD fl S n 60) l).map Cell.lst = _; rw [all l h]; rfl
  | dct ks l => show (optAll (fzD fl S n 60) l).map (Cell.dct ks) = _; rw [all l h]; rfl
  | dtt ks l => show (optAll (fzD fl S n 60) l).map (Cell.dtt ks) = _; rw [all l h]; rfl
  | obj c ns l => show (optAll (fzD fl S n 60) l).map (Cell.obj c ns) = _; rw [all l h]; rfl
  | dead => rfl
theorem fzCs_pure {fl : Nat → List Str} {S : List Cell} {n : Nat} : ∀ {l : List Cell}, (∀ c ∈ l, pureC c = true) → fzCs (fzD fl S n 60) l = some l
  | [], _ => rfl
  | c :: l, h => by
    unfold fzCs
    rw [fzC_pure (h c List.mem_cons_self), fzCs_pure fun x hx => h x (List.mem_cons_of_mem _ hx)]
/-- a sealed def, its result told where all that is kept is without references -/
theorem w_seal {fl : Nat → List Str} {G : Fn} {ds : List D} {S : List Cell} {P : D → List Cell → Prop} {E : Nat → D → List Cell → Prop}
    (h : WR (G ds S) (fun d S' => ∃ d', fzD fl S' S.length 60 d = some d' ∧ (∀ c ∈ S'.take S.length, pureC c = true) ∧ P d' (S'.take S.length)) (fun c d S' => ∃ d', fzD fl S' S.length 60 d = some d' ∧ (∀ c ∈ S'.take S.length, pureC c = true) ∧ E c d' (S'.take S.length))) :
    WR (sealF fl G ds S) P E := by
  unfold sealF sealR
  cases hg : G ds S with
  | ok d S' =>
    rw [hg] at h
    obtain ⟨d', h1, h2, h3⟩ := h
    dsimp only
    rw [h1, fzCs_pure h2]
    exact h3
  | err c d S' =>
    rw [hg] at h
    obtain ⟨d', h1, h2, h3⟩ := h
    dsimp only
    rw [h1, fzCs_pure h2]
    exact h3
  | bad => rw [hg] at h; exact h.elim

section
variable {P : D → List Cell → Prop} {E : Nat → D → List Cell → Prop} {S : List Cell} {a b : Int} {x : D}
theorem w_addI : WR (opAdd (.int a) (.int b) S) P E = P (.int (a + b)) S := rfl
theorem w_subI : WR (opSub (.int a) (.int b) S) P E = P (.int (a - b)) S := rfl
theorem wr_if {c : Prop} [Decidable c] {r : Res} : WR (if c then r else .bad) P E = (c ∧ WR r P E) := by
  by_cases h : c
  · rw [if_pos h]; simp [h]
  · rw [if_neg h]; simp [h, WR]
theorem w_mulI : WR (opMulI (.int a) (.int b) S) P E = (cMul a b = true ∧ P (.int (a * b)) S) := wr_if
theorem w_divI : WR (opDiv (.int a) (.int b) S) P E = (cDiv a b = true ∧ P (.int (a / b)) S) := wr_if
theorem w_modI : WR (opMod (.int a) (.int b) S) P E = (cMod a b = true ∧ P (.int (a % b)) S) := wr_if
theorem w_powI : WR (opPow (.int a) (.int b) S) P E = (cPow a b = true ∧ P (.int (a ^ b.toNat)) S) := wr_if
theorem w_ltI : WR (opLt (.int a) (.int b) S) P E = P (.bl (decide (a < b))) S := rfl
theorem w_leI : WR (opLe (.int a) (.int b) S) P E = P (.bl (decide (a ≤ b))) S := rfl
theorem w_gtI : WR (opGt (.int a) (.int b) S) P E = P (.bl (decide (b < a))) S := rfl
theorem w_geI : WR (opGe (.int a) (.int b) S) P E = P (.bl (decide (b ≤ a))) S := rfl
def isNon : D → Bool
  | .non => true
  | _ => false
theorem isNon_n : isNon .non = true := rfl
theorem isNon_i {i : Int} : isNon (.int i) = false := rfl
theorem isNon_t {l : List D} : isNon (.tup l) = false := rfl
theorem isNon_s {x : Str} : isNon (.str x) = false := rfl
theorem w_isN : WR (opIsN x .non S) P E = P (.bl (isNon x)) S := by cases x <;> rfl
theorem w_notN : WR (opNotN x .non S) P E = P (.bl (!isNon x)) S := by cases x <;> rfl
theorem w_intI : WR (bInt [.int a] S) P E = P (.int a) S := rfl
theorem w_intB {b : Bool} : WR (bInt [.bl b] S) P E = P (.int (if b then 1 else 0)) S := rfl
theorem w_absI : WR (bAbs [.int a] S) P E = P (.int (if a < 0 then -a else a)) S := rfl
theorem w_maxI : WR (bMax2 [.int a, .int b] S) P E = P (.int (if b > a then b else a)) S := rfl
theorem w_minI : WR (bMin2 [.int a, .int b] S) P E = P (.int (if b < a then b else a)) S := rfl
theorem lg_le {x : Int} {k : Nat} (h : x.natAbs < 2 ^ k) : x.natAbs.log2 ≤ k := by
  by_cases h0 : x.natAbs = 0
  · rw [h0]; simp
  · exact Nat.le_of_lt ((Nat.log2_lt h0).mpr h)
theorem cMul_of {i j : Nat} (h1 : a.natAbs < 2 ^ i) (h2 : b.natAbs < 2 ^ j) (h : i + j < 1000000) : cMul a b = true := by
  have := lg_le h1
  have := lg_le h2
  exact decide_eq_true (by omega)
theorem cPow_of {i : Nat} (h1 : a.natAbs < 2 ^ i) (h : i < 100000) (h2 : 0 ≤ b) (h3 : b ≤ 1000) : cPow a b = true := by
  have := lg_le h1
  unfold cPow
  simp only [Bool.and_eq_true, decide_eq_true_eq]
  exact ⟨⟨h2, h3⟩, by omega⟩
theorem cDiv_of {i : Nat} (h1 : b.natAbs < 2 ^ i) (h : i < 9000) (h2 : 0 < b) : cDiv a b = true := by
  have := lg_le h1
  unfold cDiv
  simp only [Bool.and_eq_true, decide_eq_true_eq]
  exact ⟨h2, by omega⟩
theorem cMod_of (h2 : 0 < b) : cMod a b = true := decide_eq_true h2
theorem WR.call {r : Res} {P P' : D → List Cell → Prop} {E : Nat → D → List Cell → Prop} (h : WR r P E0) (hp : ∀ d S, P d S → P' d S) : WR r P' E := h.mono hp fun _ _ _ x => x.elim
theorem atD_nat {l : List D} {i : Nat} {d : D} (h : l[i]? = some d) : atD l (i : Int) = some d := by
  have hl : i < l.length := (List.getElem?_eq_some_iff.mp h).1
  unfold atD ixN
  rw [if_pos (by omega), if_pos (by omega)]
  exact h
theorem w_ixQ {l : List D} {i : Int} {d : D} (h : atD l i = some d) : WR (ixQ l S (.int i)) P E = P d S := by
  show WR (match atD l i with | some d => Res.ok d S | none => .bad) P E = _
  rw [h]; rfl
theorem w_ixLoc {n : Nat} {l : List D} {i : Int} {d : D} (hS : S[n]? = some (.lst l)) (h : atD l i = some d) : WR (opIx (.loc n) (.int i) S) P E = P d S := by
  have : opIx (.loc n) (.int i) S = ixQ l S (.int i) := by
    show ixR (.loc n) (.int i) S = _
    unfold ixR asQ asLK asL
    dsimp only
    rw [hS]
  rw [this]; exact w_ixQ h
theorem w_ixLst {l : List D} {i : Int} {d : D} (h : atD l i = some d) : WR (opIx (.lst l) (.int i) S) P E = P d S := w_ixQ h
theorem w_ixTup {l : List D} {i : Int} {d : D} (h : atD l i = some d) : WR (opIx (.tup l) (.int i) S) P E = P d S := w_ixQ h
theorem ixN_nat {n i : Nat} (h : i < n) : ixN n (i : Int) = some i := by
  unfold ixN
  rw [if_pos (by omega), if_pos (by omega)]
  rfl
theorem setC_lst {n i : Nat} {l : List D} {d : D} (hS : S[n]? = some (.lst l)) (h : i < l.length) : setC (.loc n) (.int (i : Int)) d S = some (S.set n (.lst (l.set i d))) := by
  show (match S[n]? with
    | some (.lst l) => (ixN l.length (i : Int)).map fun j => S.set n (.lst (l.set j d))
    | some (.dct ks l) => _
    | some (.dtt ks l) => _
    | _ => none) = _
  rw [hS]
  dsimp only
  rw [ixN_nat h]; rfl
end
def rc (a b c : Int) : Cell := .lst [.int a, .int b, .int c]
def RS (S0 : List Cell) (r n : Nat) (S : List Cell) : Prop := ∃ a b c : Int, 0 ≤ b ∧ b < 2 ^ 62 ∧ 0 ≤ c ∧ c ≤ n ∧ S = S0.set r (rc a b c)
theorem RS.mono {S0 : List Cell} {r n m : Nat} {S : List Cell} (h : RS S0 r n S) (hn : n ≤ m) : RS S0 r m S := by
  obtain ⟨a, b, c, h1, h2, h3, h4, h5⟩ := h
  exact ⟨a, b, c, h1, h2, h3, by omega, h5⟩
theorem RS.len {S0 : List Cell} {r n : Nat} {S : List Cell} (h : RS S0 r n S) : S.length = S0.length := by
  obtain ⟨a, b, c, h1, h2, h3, h4, rfl⟩ := h
  simp
theorem RS.at {S0 : List Cell} {r n k : Nat} {S : List Cell} (h : RS S0 r n S) (hk : k ≠ r) : S[k]? = S0[k]? := by
  obtain ⟨a, b, c, h1, h2, h3, h4, rfl⟩ := h
  exact List.getElem?_set_ne hk.symm
theorem RS.push {S0 : List Cell} {r n : Nat} {S : List Cell} (h : RS S0 r n S) (hr : r < S0.length) (x : Cell) : RS (S0 ++ [x]) r n (S ++ [x]) := by
  obtain ⟨a, b, c, h1, h2, h3, h4, rfl⟩ := h
  exact ⟨a, b, c, h1, h2, h3, h4, (List.set_append_left r _ hr).symm⟩
theorem RS.put {S0 : List Cell} {r n k : Nat} {S : List Cell} (h : RS S0 r n S) (hk : k ≠ r) (x : Cell) : RS (S0.set k x) r n (S.set k x) := by
  obtain ⟨a, b, c, h1, h2, h3, h4, rfl⟩ := h
  exact ⟨a, b, c, h1, h2, h3, h4, (List.set_comm _ _ hk.symm)⟩
theorem RS.take {S0 : List Cell} {r n k : Nat} {S : List Cell} (h : RS S0 r n S) (hr : r < k) : RS (S0.take k) r n (S.take k) := by
  obtain ⟨a, b, c, h1, h2, h3, h4, rfl⟩ := h
  exact ⟨a, b, c, h1, h2, h3, h4, List.take_set⟩
theorem RS.pure {S0 : List Cell} {r n : Nat} {S : List Cell} (h : RS S0 r n S) (hp : PureS S0) : PureS S := by
  obtain ⟨a, b, c, h1, h2, h3, h4, rfl⟩ := h
  intro x hx
  rcases List.mem_or_eq_of_mem_set hx with h | h
  · exact hp x h
  · subst h; rfl

/-- plain data, not too deep, its texts in order -/
def okStr (x : Str) : Bool := x.cps.all (· < 0x110000)
def okD : Nat → D → Bool
  | 0, _ => false
  | k + 1, d => match d with
    | .non => true
    | .bl _ => true
    | .int _ => true
    | .str x => okStr x
    | .tup l => l.all (okD k)
    | .ktup l => l.all (okD k)
    | .lst l => l.all (okD k)
    | _ => false
theorem okD_py (S : List Cell) : ∀ (k : Nat) (d : D), okD k d = true → ∃ p, toPy S d = some p ∧ p.canLay0 = true ∧ p.depth ≤ k
  | 0, _, h => by cases h
  | k + 1, d, h => by
    have ih := okD_py S k
    have all : ∀ l : List D, l.all (okD k) = true → ∃ ps, toPys S l = some ps ∧ PyData.canLayAll0 ps = true ∧ PyData.depthAll ps ≤ k := by
      intro l
      induction l with
      | nil => intro _; exact ⟨[], rfl, rfl, Nat.zero_le _⟩
      | cons d ds ihl =>
        intro hl
        rw [List.all_cons, Bool.and_eq_true] at hl
        obtain ⟨p, h1, h2, h3⟩ := ih d hl.1
        obtain ⟨ps, g1, g2, g3⟩ := ihl hl.2
        refine ⟨p :: ps, ?_, ?_, ?_⟩
        · unfold toPys; rw [h1, g1]
        · unfold PyData.canLayAll0; rw [h2, g2]; rfl
        · unfold PyData.depthAll; exact Nat.max_le.mpr ⟨h3, g3⟩
    cases d with
    | non => exact ⟨_, rfl, rfl, Nat.zero_le _⟩
    | bl b => exact ⟨_, rfl, rfl, Nat.zero_le _⟩
    | int i => exact ⟨_, rfl, rfl, Nat.zero_le _⟩
    | str x => exact ⟨_, rfl, h, Nat.zero_le _⟩
    | tup l =>
      obtain ⟨ps, g1, g2, g3⟩ := all l h
      exact ⟨.tuple ps, by unfold toPy; rw [g1]; rfl, by unfold PyData.canLay0; exact g2, by unfold PyData.depth; omega⟩
    | ktup l =>
      obtain ⟨ps, g1, g2, g3⟩ := all l h
      exact ⟨.tuple ps, by unfold toPy; rw [g1]; rfl, by unfold PyData.canLay0; exact g2, by unfold PyData.depth; omega⟩
    | lst l =>
      obtain ⟨ps, g1, g2, g3⟩ := all l h
      exact ⟨.list ps, by unfold toPy; rw [g1]; rfl, by unfold PyData.canLay0; exact g2, by unfold PyData.depth; omega⟩
    | _ => cases h
theorem shaped_of {p : PyData} {k : Nat} (h1 : p.canLay0 = true) (h2 : p.depth ≤ k) (hk : k ≤ 64) : SeqAt.shaped p = true := by
  unfold SeqAt.shaped
  rw [h1, decide_eq_true (by omega)]; rfl
theorem eqD_py {S : List Cell} {x y : D} {p q : PyData} (h1 : toPy S (seen S x) = some p) (h2 : toPy S (seen S y) = some q) (s1 : SeqAt.shaped p = true) (s2 : SeqAt.shaped q = true) : eqD S x y = some (PyData.eqv p q) := by
  unfold eqD
  rw [h1, h2]
  dsimp only
  rw [s1, s2]
  rfl
section
variable {fl : Nat → List Str} {P : D → List Cell → Prop} {E : Nat → D → List Cell → Prop} {S : List Cell}
theorem w_eqOf {x y : D} {b : Bool} (h : eqD S x y = some b) : WR (opEq2 fl x y S) P E = P (.bl b) S := by
  unfold opEq2; rw [h]; rfl
theorem w_neOf {x y : D} {b : Bool} (h : eqD S x y = some b) : WR (opNe2 x y S) P E = P (.bl (!b)) S := by
  unfold opNe2; rw [h]; rfl
theorem eqD_I {a b : Int} : eqD S (.int a) (.int b) = some (decide (a = b)) := by
  rw [eqD_py (p := .int a) (q := .int b) rfl rfl rfl rfl]
  rfl
theorem w_eqI {a b : Int} : WR (opEq2 fl (.int a) (.int b) S) P E = P (.bl (decide (a = b))) S := w_eqOf eqD_I
theorem w_neI {a b : Int} : WR (opNe2 (.int a) (.int b) S) P E = P (.bl (!decide (a = b))) S := w_neOf eqD_I
theorem eqD_S {a b : Str} (ha : okStr a = true) (hb : okStr b = true) : eqD S (.str a) (.str b) = some (decide (a = b)) := by
  have s : ∀ x : Str, okStr x = true → SeqAt.shaped (.str x) = true := fun x h => by
    unfold SeqAt.shaped
    have : PyData.canLay0 (.str x) = true := h
    rw [this]; rfl
  rw [eqD_py (p := .str a) (q := .str b) rfl rfl (s a ha) (s b hb)]
  rfl
theorem w_eqS {a b : Str} (ha : okStr a = true) (hb : okStr b = true) : WR (opEq2 fl (.str a) (.str b) S) P E = P (.bl (decide (a = b))) S := w_eqOf (eqD_S ha hb)
theorem w_neS {a b : Str} (ha : okStr a = true) (hb : okStr b = true) : WR (opNe2 (.str a) (.str b) S) P E = P (.bl (!decide (a = b))) S := w_neOf (eqD_S ha hb)
/-- the same data -/
theorem eqD_same {x y d : D} {k : Nat} (hx : seen S x = d) (hy : seen S y = d) (h : okD k d = true) (hk : k ≤ 64) : eqD S x y = some true := by
  obtain ⟨p, h1, h2, h3⟩ := okD_py S k d h
  rw [eqD_py (p := p) (q := p) (by rw [hx]; exact h1) (by rw [hy]; exact h1) (shaped_of h2 h3 hk) (shaped_of h2 h3 hk), SeqAt.eqv_refl p h2]
/-- a list and the empty one -/
theorem eqD_nil {x : D} {l : List D} {k : Nat} (hx : seen S x = .lst l) (h : okD k (.lst l) = true) (hk : k ≤ 64) : eqD S x (.lst []) = some (decide (l = [])) := by
  obtain ⟨p, h1, h2, h3⟩ := okD_py S k _ h
  cases l with
  | nil =>
    have : p = .list [] := by
      have : toPy S (.lst []) = some (.list []) := rfl
      rw [this] at h1
      cases h1; rfl
    subst this
    rw [eqD_py (p := .list []) (q := .list []) (by rw [hx]; exact h1) rfl (shaped_of h2 h3 hk) rfl]
    rfl
  | cons d ds =>
    unfold toPy at h1
    cases z : toPys S (d :: ds) with
    | none => rw [z] at h1; cases h1
    | some ps =>
      rw [z] at h1
      cases h1
      have : ps ≠ [] := by
        unfold toPys at z
        split at z
        · cases z; simp
        · cases z
      cases ps with
      | nil => exact absurd rfl this
      | cons a as =>
        rw [eqD_py (p := .list (a :: as)) (q := .list []) (by rw [hx]; unfold toPy; rw [z]; rfl) rfl (shaped_of h2 h3 hk) rfl]
        rfl
theorem seen_lst {l : List D} : seen S (.lst l) = .lst l := rfl
theorem seen_tup {l : List D} : seen S (.tup l) = .tup l := rfl
theorem seen_loc {n : Nat} {l : List D} (h : S[n]? = some (.lst l)) : seen S (.loc n) = .lst l := by
  unfold seen; dsimp only; rw [h]
end

section
variable {P : D → List Cell → Prop} {E : Nat → D → List Cell → Prop} {S : List Cell} {a b c d e f g : D} {l : List D} {i : Int}
def ixP (P : D → List Cell → Prop) (S : List Cell) : Option D → Prop
  | some d => P d S
  | none => False
theorem ixP_s : ixP P S (some d) = P d S := rfl
theorem w_ixQ' : WR (ixQ l S (.int i)) P E = ixP P S (atD l i) := by
  show WR (match atD l i with | some d => Res.ok d S | none => .bad) P E = _
  cases atD l i <;> rfl
theorem w_ixT : WR (opIx (.tup l) (.int i) S) P E = ixP P S (atD l i) := w_ixQ'
theorem w_ixL : WR (opIx (.lst l) (.int i) S) P E = ixP P S (atD l i) := w_ixQ'
theorem at2_0 : atD [a, b] 0 = some a := rfl
theorem at2_1 : atD [a, b] 1 = some b := rfl
theorem at2_m1 : atD [a, b] (-1) = some b := rfl
theorem at4_0 : atD [a, b, c, d] 0 = some a := rfl
theorem at4_1 : atD [a, b, c, d] 1 = some b := rfl
theorem at4_2 : atD [a, b, c, d] 2 = some c := rfl
theorem at4_3 : atD [a, b, c, d] 3 = some d := rfl
theorem at4_m1 : atD [a, b, c, d] (-1) = some d := rfl
theorem at7_0 : atD [a, b, c, d, e, f, g] 0 = some a := rfl
theorem at7_1 : atD [a, b, c, d, e, f, g] 1 = some b := rfl
theorem at7_2 : atD [a, b, c, d, e, f, g] 2 = some c := rfl
theorem at7_3 : atD [a, b, c, d, e, f, g] 3 = some d := rfl
theorem at7_4 : atD [a, b, c, d, e, f, g] 4 = some e := rfl
theorem at7_5 : atD [a, b, c, d, e, f, g] 5 = some f := rfl
theorem at7_6 : atD [a, b, c, d, e, f, g] 6 = some g := rfl
theorem at7_m1 : atD [a, b, c, d, e, f, g] (-1) = some g := rfl
/-- a list's item by a drawn place -/
theorem atD_int (h0 : 0 ≤ i) (h1 : i < l.length) : ∃ d, atD l i = some d ∧ d ∈ l ∧ l[i.toNat]? = some d := by
  have hl : i.toNat < l.length := by omega
  refine ⟨l[i.toNat], ?_, List.getElem_mem hl, List.getElem?_eq_getElem hl⟩
  have : atD l ((i.toNat : Nat) : Int) = some l[i.toNat] := atD_nat (List.getElem?_eq_getElem hl)
  rwa [Int.toNat_of_nonneg h0] at this
theorem tgP_2 {i j : Nat} {ρ : Slots} {Ps : Fl → List Cell → Prop} : tgP (tgT [tgN i, tgN j]) ρ Ps (.tup [a, b]) S = Ps (.nx ((ρ.set i (some a)).set j (some b))) S := rfl
theorem w_appLoc {n : Nat} (h : S[n]? = some (.lst l)) : WR (mAppend (.loc n) [d] S) P E = (l.length ≤ big ∧ P .non (S.set n (.lst (l ++ [d])))) := by
  show WR (onL (.loc n) S fun n l => if l.length ≤ big then Res.ok .non (S.set n (.lst (l ++ [d]))) else .bad) P E = _
  unfold onL
  dsimp only
  rw [h]
  exact wr_if
theorem ty_loc {n : Nat} (h : S[n]? = some (.lst l)) : tyD S .lst (.loc n) = true := by
  show (asL S (.loc n)).isSome = true
  unfold asL; dsimp only; rw [h]; rfl
theorem w_lenLoc {n : Nat} (h : S[n]? = some (.lst l)) : WR (bLen [.loc n] S) P E = P (.int (l.length : Nat)) S := by
  show WR (lenQ (.loc n) S) P E = _
  unfold lenQ asQ asLK asL
  dsimp only
  rw [h]
  rfl
theorem w_lenLst : WR (bLen [.lst l] S) P E = P (.int (l.length : Nat)) S := rfl
theorem w_lenTup : WR (bLen [.tup l] S) P E = P (.int (l.length : Nat)) S := rfl
theorem w_lenK : WR (bLen [.klst l] S) P E = P (.int (l.length : Nat)) S := rfl
end
theorem w_tupLoc {P : D → List Cell → Prop} {E : Nat → D → List Cell → Prop} {S : List Cell} {l : List D} {n : Nat} (h : S[n]? = some (.lst l)) : WR (bTuple [.loc n] S) P E = P (.tup l) S := by
  show WR (tupR (.loc n) S) P E = _
  unfold tupR asL
  dsimp only
  rw [h]
  rfl
theorem RS.app {S0 : List Cell} {r n : Nat} {S : List Cell} {c : Cell} (h : RS (S0 ++ [c]) r n S) (hr : r < S0.length) (c' : Cell) : RS (S0 ++ [c']) r n (S.set S0.length c') := by
  have := h.put (k := S0.length) (by omega) c'
  rwa [List.set_append_right _ _ (Nat.le_refl _), Nat.sub_self] at this
theorem RS.pop {S0 : List Cell} {r n : Nat} {S : List Cell} {l : List Cell} (h : RS (S0 ++ l) r n S) (hr : r < S0.length) : RS S0 r n (S.take S0.length) := by
  have := h.take (k := S0.length) hr
  rwa [List.take_left'] at this
  rfl
theorem RS.last {S0 : List Cell} {r n : Nat} {S : List Cell} {c : Cell} (h : RS (S0 ++ [c]) r n S) (hr : r < S0.length) : S[S0.length]? = some c := by
  rw [h.at (by omega)]
  simp
def oD : Option Int → D
  | none => .non
  | some i => .int i
theorem oD_none : oD none = .non := rfl
theorem oD_some {i : Int} : oD (some i) = .int i := rfl
abbrev Rg := Option Int × Option Int
def rgD (r : Rg) : D := .tup [oD r.1, oD r.2]
def cdD (c : Str × Rg) : D := .tup [.str c.1, rgD c.2]
inductive Row where
  | set (n : Str) (r : Rg) (cs : List (Str × Rg))
  | step (n src : Str) (f a : Int) (r : Rg) (cs : List (Str × Rg))
def rowD : Row → D
  | .set n r cs => .tup [.str "set", .str n, rgD r, .tup (cs.map cdD)]
  | .step n src f a r cs => .tup [.str "step", .str n, .str src, .int f, .int a, rgD r, .tup (cs.map cdD)]
def inB (r : Rg) : Option Int → Bool
  | none => false
  | some x => (match r.1 with
    | none => true
    | some l => decide (l ≤ x)) && (match r.2 with
    | none => true
    | some h => decide (x ≤ h))
theorem okS_set : okStr "set" = true := by decide +kernel
theorem okS_step : okStr "step" = true := by decide +kernel
theorem set_step : ¬ (("step" : Str) = "set") := by decide +kernel
theorem okD_o {k : Nat} (o : Option Int) : okD (k + 1) (oD o) = true := by cases o <;> rfl
theorem okD_rg {k : Nat} (r : Rg) : okD (k + 2) (rgD r) = true := by
  show ([oD r.1, oD r.2].all (okD (k + 1))) = true
  simp [okD_o]
theorem okD_cd {k : Nat} {c : Str × Rg} (h : okStr c.1 = true) : okD (k + 3) (cdD c) = true := by
  show ([D.str c.1, rgD c.2].all (okD (k + 2))) = true
  simp only [List.all_cons, List.all_nil, okD_rg, Bool.and_true]
  exact h
def Row.name : Row → Str
  | .set n _ _ => n
  | .step n _ _ _ _ _ => n
def Row.cs : Row → List (Str × Rg)
  | .set _ _ cs => cs
  | .step _ _ _ _ _ cs => cs
/-- all names that a rule reads or sets -/
def Row.names : Row → List Str
  | .set n _ cs => n :: cs.map (·.1)
  | .step n s _ _ _ cs => n :: s :: cs.map (·.1)
theorem okD_row {k : Nat} {r : Row} (h : ∀ n ∈ r.names, okStr n = true) : okD (k + 5) (rowD r) = true := by
  have cs : ∀ cs : List (Str × Rg), (∀ c ∈ cs, okStr c.1 = true) → okD (k + 4) (.tup (cs.map cdD)) = true := fun cs hc => by
    show ((cs.map cdD).all (okD (k + 3))) = true
    rw [List.all_map, List.all_eq_true]
    exact fun c hm => okD_cd (hc c hm)
  cases r with
  | set n r l =>
    show ([D.str "set", .str n, rgD r, .tup (l.map cdD)].all (okD (k + 4))) = true
    have hn : okStr n = true := h n (by simp [Row.names])
    simp only [List.all_cons, List.all_nil, okD_rg, Bool.and_true, cs l fun c hm => h c.1 (by simp only [Row.names, List.mem_cons, List.mem_map]; exact .inr ⟨c, hm, rfl⟩)]
    show (okStr "set" && okStr n) = true
    rw [hn, okS_set]; rfl
  | step n s f a r l =>
    show ([D.str "step", .str n, .str s, .int f, .int a, rgD r, .tup (l.map cdD)].all (okD (k + 4))) = true
    have hn : okStr n = true := h n (by simp [Row.names])
    have hs : okStr s = true := h s (by simp [Row.names])
    simp only [List.all_cons, List.all_nil, okD_rg, Bool.and_true, cs l fun c hm => h c.1 (by simp only [Row.names, List.mem_cons, List.mem_map]; exact .inr (.inr ⟨c, hm, rfl⟩))]
    show (okStr "step" && (okStr n && (okStr s && (true && true)))) = true
    rw [hn, hs, okS_step]; rfl
theorem pure_o {k : Nat} (o : Option Int) : pureD (k + 1) (oD o) = true := by cases o <;> rfl
theorem pure_rg {k : Nat} (r : Rg) : pureD (k + 2) (rgD r) = true := by
  show ([oD r.1, oD r.2].all (pureD (k + 1))) = true
  simp [pure_o]
theorem pure_cd {k : Nat} {c : Str × Rg} : pureD (k + 3) (cdD c) = true := by
  show ([D.str c.1, rgD c.2].all (pureD (k + 2))) = true
  simp only [List.all_cons, List.all_nil, pure_rg, Bool.and_true]
  rfl
theorem pure_cs {k : Nat} (cs : List (Str × Rg)) : (cs.map cdD).all (pureD (k + 3)) = true := by
  rw [List.all_map, List.all_eq_true]
  exact fun c _ => pure_cd
theorem pure_row {k : Nat} (r : Row) : pureD (k + 5) (rowD r) = true := by
  cases r with
  | set n r l =>
    show ([D.str "set", .str n, rgD r, .tup (l.map cdD)].all (pureD (k + 4))) = true
    simp only [List.all_cons, List.all_nil, pure_rg, Bool.and_true]
    show (true && (true && (l.map cdD).all (pureD (k + 3)))) = true
    rw [pure_cs]; rfl
  | step n s f a r l =>
    show ([D.str "step", .str n, .str s, .int f, .int a, rgD r, .tup (l.map cdD)].all (pureD (k + 4))) = true
    simp only [List.all_cons, List.all_nil, pure_rg, Bool.and_true]
    show (true && (true && (true && (true && (true && (l.map cdD).all (pureD (k + 3))))))) = true
    rw [pure_cs]; rfl

def top (i : Nat) : Stmt := PySem.Challenge.pw_tightranges_k35_values_behind_runs.main.body.getD i (.Pass ⟨0, 0, 0, 0⟩)
abbrev s_System_eq_ : Stmt := inClass (top 17) 4
abbrev s_is_name : Stmt := top 12
abbrev s_is_range : Stmt := top 7
abbrev s_names_in : Stmt := top 13
abbrev s_ranges_in : Stmt := top 14
abbrev s_is_rule : Stmt := top 15
abbrev s_check_system : Stmt := top 16
abbrev s_System_init_ : Stmt := inClass (top 17) 0
abbrev s_law_draw : Stmt := top 25
abbrev s_law_inside : Stmt := top 31
abbrev s_law_next : Stmt := top 32
abbrev s_law_spot : Stmt := top 33
abbrev s_law_moves : Stmt := top 34
abbrev s_law_rng : Stmt := top 24
abbrev s_law_end : Stmt := top 27
abbrev s_law_within : Stmt := top 28
abbrev s_law_rule : Stmt := top 29
abbrev s_law_rows : Stmt := top 30
abbrev s_law_words : Stmt := top 26
abbrev s_is_in : Stmt := top 19
abbrev s_value_given : Stmt := top 20
abbrev s_played : Stmt := top 21
abbrev s_values_behind : Stmt := top 22
abbrev s_law : Stmt := top 35
def fl : Nat → List Str
  | 0 => ["kept_names", "kept_rules"]
  | _ => []
def ans_System : Nat → Option Bool
  | 0 => some true
  | _ => none
noncomputable def b_System_eq_ : Sv := (seqS (ifS (notF (isiF fl ans_System (vF 1)))
  (retS (cF (.bl false)))
  nextS)
  (retS (binF (opEq2 fl) (tupF [(fldF fl 0 ("kept_names" : Str) (vF 0)), (fldF fl 0 ("kept_rules" : Str) (vF 0))]) (tupF [(fldF fl 0 ("kept_names" : Str) (vF 1)), (fldF fl 0 ("kept_rules" : Str) (vF 1))]))))
@[irreducible] noncomputable def G_System_eq_ : Fn := runF 2 b_System_eq_
noncomputable def b_is_name : Sv := (retS (andF (chainF opLe opLe (cF (.int 1)) (callF bLen [(vF 0)]) (cF (.int 8))) (callF (bBls fun l => l.all id) [(compF (strI (vF 0)) (tgN 1) [1] trueF (binF opIn (vF 1) (cF (.str ("abcdefghijklmnopqrstuvwxyz" : Str)))))])))
@[irreducible] noncomputable def G_is_name : Fn := runF 2 b_is_name
noncomputable def b_is_range : Sv := (retS (orF (binF opIsN (vF 0) (cF .non)) (orF (binF opIn (cF .non) (vF 0)) (binF opLe (binF opIx (vF 0) (cF (.int 0))) (binF opIx (vF 0) (cF (.int 1)))))))
@[irreducible] noncomputable def G_is_range : Fn := runF 1 b_is_range
noncomputable def b_names_in : Sv := (seqS (asgS 1 (ifF (binF (opEq2 fl) (binF opIx (vF 0) (cF (.int 0))) (cF (.str ("set" : Str)))) (lstF [(binF opIx (vF 0) (cF (.int 1)))]) (lstF [(binF opIx (vF 0) (cF (.int 1))), (binF opIx (vF 0) (cF (.int 2)))])))
  (retS (binF opAdd (vF 1) (compF (seqI (binF opIx (vF 0) (negF (cF (.int 1))))) (tgT [(tgN 2), (tgN 3)]) [2, 3] trueF (vF 2)))))
@[irreducible] noncomputable def G_names_in : Fn := runF 4 b_names_in
noncomputable def b_ranges_in : Sv := (retS (binF opAdd (lstF [(ifF (binF (opEq2 fl) (binF opIx (vF 0) (cF (.int 0))) (cF (.str ("set" : Str)))) (binF opIx (vF 0) (cF (.int 2))) (binF opIx (vF 0) (cF (.int 5))))]) (compF (seqI (binF opIx (vF 0) (negF (cF (.int 1))))) (tgT [(tgN 1), (tgN 2)]) [1, 2] trueF (vF 2))))
@[irreducible] noncomputable def G_ranges_in : Fn := runF 3 b_ranges_in
noncomputable def b_is_rule : Sv := (seqS (ifS (notF (callF (bBls fun l => l.all id) [(compF (seqI (callF G_names_in [(vF 0)])) (tgN 2) [2] trueF (binF opIn (vF 2) (vF 1)))]))
  (retS (cF (.bl false)))
  nextS)
  (seqS (ifS (andF (binF opNe2 (binF opIx (vF 0) (cF (.int 0))) (cF (.str ("set" : Str)))) (binF (opEq2 fl) (binF opIx (vF 0) (cF (.int 3))) (cF (.int 0))))
  (retS (cF (.bl false)))
  nextS)
  (retS (callF (bBls fun l => l.all id) [(compF (seqI (callF G_ranges_in [(vF 0)])) (tgN 3) [3] trueF (andF (binF opNotN (vF 3) (cF .non)) (callF G_is_range [(vF 3)])))]))))
@[irreducible] noncomputable def G_is_rule : Fn := runF 4 b_is_rule
noncomputable def b_check_system : Sv := (seqS (forS (enumI (vF 0)) (tgT [(tgN 2), (tgN 3)])
  (ifS (orF (notF (callF G_is_name [(vF 3)])) (binF opIn (vF 3) (slF (vF 0) none (some (vF 2)))))
  neverS
  nextS))
  (forS (enumI (vF 1)) (tgT [(tgN 4), (tgN 5)])
  (ifS (notF (callF G_is_rule [(vF 5), (vF 0)]))
  neverS
  nextS)))
@[irreducible] noncomputable def G_check_system : Fn := sealF fl (runF 6 b_check_system)
noncomputable def b_System_init_ : Sv := (seqS (dropS (callF G_check_system [(vF 1), (vF 2)]))
  (seqS (stoF 0 ("kept_names" : Str) (vF 0) (callF bTuple [(callF bSorted [(vF 1)])]))
  (stoF 0 ("kept_rules" : Str) (vF 0) (callF bTuple [(vF 2)]))))
@[irreducible] noncomputable def G_System_init_ : Fn := runF 3 b_System_init_
noncomputable def b_law_draw : Sv := (seqS (ifS (binF opGt (binF opIx (vF 0) (cF (.int 0))) (cF (.int 0)))
  (seqS (asgS 2 (binF opMod (callF bInt [(binF opIx (vF 0) (cF (.int 0)))]) (vF 1)))
  (seqS (stoS (vF 0) (cF (.int 0)) (binF opDiv (binF opIx (vF 0) (cF (.int 0))) (vF 1)))
  (retS (vF 2))))
  nextS)
  (seqS (stoS (vF 0) (cF (.int 2)) (binF opAdd (binF opIx (vF 0) (cF (.int 2))) (cF (.int 1))))
  (seqS (asgS 3 (binF opMod (callF bInt [(binF opPow (binF opAdd (binF opIx (vF 0) (cF (.int 1))) (binF opMulI (cF (.int 998244353)) (binF opIx (vF 0) (cF (.int 2))))) (cF (.int 3)))]) (cF (.int 162259276829213363391578010288127))))
  (seqS (asgS 3 (binF opMod (callF bInt [(binF opPow (binF opAdd (vF 3) (binF opMulI (cF (.int 32452843)) (binF opIx (vF 0) (cF (.int 2))))) (cF (.int 3)))]) (cF (.int 170141183460469231731687303715884105727))))
  (retS (binF opMod (callF bInt [(binF opDiv (vF 3) (cF (.int 1048576)))]) (vF 1)))))))
@[irreducible] noncomputable def G_law_draw : Fn := runF 4 b_law_draw
noncomputable def b_law_inside : Sv := (seqS (ifS (binF opIsN (vF 1) (cF .non))
  (retS (cF (.bl false)))
  nextS)
  (retS (andF (orF (binF opIsN (binF opIx (vF 0) (cF (.int 0))) (cF .non)) (binF opLe (binF opIx (vF 0) (cF (.int 0))) (vF 1))) (orF (binF opIsN (binF opIx (vF 0) (cF (.int 1))) (cF .non)) (binF opLe (vF 1) (binF opIx (vF 0) (cF (.int 1))))))))
@[irreducible] noncomputable def G_law_inside : Fn := runF 2 b_law_inside
noncomputable def b_law_next : Sv := (seqS (unpS (tgT [(tgN 3), (tgN 4)]) (vF 2))
  (seqS (ifS (notF (chainF opLe opLt (cF (.int 0)) (vF 3) (callF bLen [(vF 0)])))
  (retS (cF .non))
  nextS)
  (seqS (asgS 5 (binF opIx (vF 0) (vF 3)))
  (seqS (ifS (binF opNe2 (compF (seqI (binF opIx (vF 5) (negF (cF (.int 1))))) (tgT [(tgN 6), (tgN 7)]) [6, 7] (notF (callF G_law_inside [(vF 7), (binF opIx (vF 1) (vF 6))])) (cF (.int 1))) (lstF []))
  (retS (cF .non))
  nextS)
  (seqS (ifS (binF (opEq2 fl) (binF opIx (vF 5) (cF (.int 0))) (cF (.str ("set" : Str))))
  (retS (ifF (callF G_law_inside [(binF opIx (vF 5) (cF (.int 2))), (vF 4)]) (vF 4) (cF .non)))
  nextS)
  (seqS (ifS (orF (binF opNotN (vF 4) (cF .non)) (notF (callF G_law_inside [(binF opIx (vF 5) (cF (.int 5))), (binF opIx (vF 1) (binF opIx (vF 5) (cF (.int 2))))])))
  (retS (cF .non))
  nextS)
  (retS (binF opAdd (binF opMulI (binF opIx (vF 5) (cF (.int 3))) (binF opIx (vF 1) (binF opIx (vF 5) (cF (.int 2))))) (binF opIx (vF 5) (cF (.int 4)))))))))))
@[irreducible] noncomputable def G_law_next : Fn := runF 8 b_law_next
noncomputable def b_law_spot : Sv := (seqS (asgS 2 (compF (seqI (vF 1)) (tgN 4) [4] (binF opNotN (vF 4) (cF .non)) (vF 4)))
  (seqS (asgS 3 (binF opAdd (binF opAdd (binF opAdd (vF 2) (compF (seqI (vF 2)) (tgN 4) [4] trueF (binF opAdd (vF 4) (cF (.int 1))))) (compF (seqI (vF 2)) (tgN 4) [4] trueF (binF opSub (vF 4) (cF (.int 1))))) (lstF [(cF (.int 0)), (cF (.int 3)), (negF (cF (.int 3))), (binF opSub (callF G_law_draw [(vF 0), (cF (.int 99))]) (cF (.int 49))), (cF .non)])))
  (retS (binF opIx (vF 3) (callF G_law_draw [(vF 0), (callF bLen [(vF 3)])])))))
@[irreducible] noncomputable def G_law_spot : Fn := runF 5 b_law_spot
noncomputable def b_law_moves : Sv := (seqS (parS 4 5 (cellF (callF bDict [(compF (seqI (vF 1)) (tgN 10) [10] trueF (tupF [(vF 10), (cF .non)]))])) (cellF (lstF [])))
  (seqS (forS (rng1I (binF opMulI (vF 3) (callF bInt [(binF opNe2 (vF 2) (lstF []))]))) (tgN 6)
  (seqS (asgS 7 (callF G_law_draw [(vF 0), (callF bLen [(vF 2)])]))
  (seqS (asgS 8 (ifF (binF (opEq2 fl) (binF opIx (binF opIx (vF 2) (vF 7)) (cF (.int 0))) (cF (.str ("set" : Str)))) (callF G_law_spot [(vF 0), (binF opIx (binF opIx (vF 2) (vF 7)) (cF (.int 2)))]) (cF .non)))
  (seqS (asgS 9 (callF G_law_next [(vF 2), (vF 4), (tupF [(vF 7), (vF 8)])]))
  (ifS (andF (binF opNotN (vF 9) (cF .non)) (binF opLt (callF bAbs [(vF 9)]) (binF opSub (binF opPow (cF (.int 10)) (cF (.int 31))) (cF (.int 99)))))
  (seqS (dropS (methF .lst mAppend (vF 5) [(tupF [(vF 7), (vF 8)])]))
  (stoS (vF 4) (binF opIx (binF opIx (vF 2) (vF 7)) (cF (.int 1))) (vF 9)))
  nextS)))))
  (retS (tupF [(vF 5), (vF 4)]))))
@[irreducible] noncomputable def G_law_moves : Fn := sealF fl (runF 11 b_law_moves)
noncomputable def b_law_rng : Sv := (seqS (unpS (tgT [(tgN 1), (tgN 2)]) (tupF [(cF (.int 0)), (cF (.int 88675123))]))
  (seqS (forS (seqI (slF (vF 0) none (some (cF (.int 63))))) (tgN 3)
  (seqS (asgS 4 (callF bAbs [(vF 3)]))
  (seqS (ifS (binF opGe (vF 4) (binF opPow (cF (.int 10)) (cF (.int 18))))
  (asgS 1 (binF opAdd (binF opMulI (vF 1) (binF opPow (cF (.int 10)) (cF (.int 60)))) (binF opMod (callF bInt [(vF 4)]) (binF opPow (cF (.int 10)) (cF (.int 60))))))
  nextS)
  (asgS 2 (binF opMod (callF bInt [(binF opAdd (binF opAdd (binF opMulI (vF 2) (cF (.int 1000003))) (binF opMod (callF bInt [(vF 3)]) (cF (.int 2305843009213693921)))) (cF (.int 7)))]) (cF (.int 2305843009213693951)))))))
  (retS (cellF (lstF [(vF 1), (vF 2), (cF (.int 0))])))))
@[irreducible] noncomputable def G_law_rng : Fn := runF 5 b_law_rng
noncomputable def b_law_end : Sv := (retS (binF opIx (lstF [(cF .non), (binF opSub (callF G_law_draw [(vF 0), (cF (.int 9))]) (cF (.int 4))), (binF opSub (callF G_law_draw [(vF 0), (cF (.int 199))]) (cF (.int 99))), (vF 1)]) (callF G_law_draw [(vF 0), (cF (.int 4))])))
@[irreducible] noncomputable def G_law_end : Fn := runF 2 b_law_end
noncomputable def b_law_within : Sv := (seqS (parS 2 3 (callF G_law_end [(vF 0), (binF opSub (cF (.int 0)) (vF 1))]) (callF G_law_end [(vF 0), (vF 1)]))
  (seqS (ifS (andF (binF opNotN (vF 2) (cF .non)) (andF (binF opNotN (vF 3) (cF .non)) (binF opGt (vF 2) (vF 3))))
  (retS (tupF [(vF 3), (vF 2)]))
  nextS)
  (retS (tupF [(vF 2), (vF 3)]))))
@[irreducible] noncomputable def G_law_within : Fn := runF 4 b_law_within
noncomputable def b_law_rule : Sv := (seqS (asgS 3 (cellF (lstF [])))
  (seqS (forS (rng1I (callF bMax2 [(cF (.int 0)), (binF opSub (callF G_law_draw [(vF 0), (cF (.int 5))]) (cF (.int 2)))])) (tgN 4)
  (dropS (methF .lst mAppend (vF 3) [(tupF [(binF opIx (vF 1) (callF G_law_draw [(vF 0), (callF bLen [(vF 1)])])), (callF G_law_within [(vF 0), (vF 2)])])])))
  (seqS (parS 5 6 (binF opIx (vF 1) (callF G_law_draw [(vF 0), (callF bLen [(vF 1)])])) (binF opIx (vF 1) (callF G_law_draw [(vF 0), (callF bLen [(vF 1)])])))
  (seqS (ifS (binF (opEq2 fl) (callF G_law_draw [(vF 0), (cF (.int 3))]) (cF (.int 0)))
  (retS (tupF [(cF (.str ("set" : Str))), (vF 5), (callF G_law_within [(vF 0), (vF 2)]), (callF bTuple [(vF 3)])]))
  nextS)
  (seqS (asgS 7 (binF opIx (lstF [(cF (.int 1)), (cF (.int 1)), (cF (.int 1)), (negF (cF (.int 1))), (cF (.int 2)), (negF (cF (.int 2))), (binF opAdd (cF (.int 1)) (callF G_law_draw [(vF 0), (cF (.int 9))])), (binF opSub (binF opSub (cF (.int 0)) (cF (.int 1))) (callF G_law_draw [(vF 0), (cF (.int 9))]))]) (callF G_law_draw [(vF 0), (cF (.int 8))])))
  (seqS (asgS 8 (binF opIx (lstF [(cF (.int 0)), (cF (.int 1)), (negF (cF (.int 1))), (binF opSub (callF G_law_draw [(vF 0), (cF (.int 19))]) (cF (.int 9))), (binF opSub (callF G_law_draw [(vF 0), (cF (.int 199))]) (cF (.int 99))), (vF 2), (binF opSub (cF (.int 0)) (vF 2))]) (callF G_law_draw [(vF 0), (cF (.int 7))])))
  (retS (tupF [(cF (.str ("step" : Str))), (vF 5), (vF 6), (vF 7), (vF 8), (callF G_law_within [(vF 0), (vF 2)]), (callF bTuple [(vF 3)])]))))))))
@[irreducible] noncomputable def G_law_rule : Fn := sealF fl (runF 9 b_law_rule)
noncomputable def b_law_rows : Sv := (seqS (parS 3 4 (binF opIx (lstF [(cF (.int 99)), (binF opPow (cF (.int 10)) (cF (.int 9))), (binF opPow (cF (.int 10)) (cF (.int 31)))]) (callF G_law_draw [(vF 0), (cF (.int 3))])) (cellF (lstF [])))
  (seqS (ifS (andF (binF opGt (callF G_law_draw [(vF 0), (cF (.int 4))]) (cF (.int 0))) (binF opGt (vF 2) (cF (.int 0))))
  (seqS (asgS 5 (binF opSub (callF G_law_draw [(vF 0), (cF (.int 9))]) (cF (.int 4))))
  (dropS (methF .lst mAppend (vF 4) [(tupF [(cF (.str ("set" : Str))), (binF opIx (vF 1) (cF (.int 0))), (tupF [(vF 5), (binF opAdd (vF 5) (callF G_law_draw [(vF 0), (cF (.int 3))]))]), (tupF [])])])))
  nextS)
  (seqS (forS (rng1I (callF G_law_draw [(vF 0), (binF opSub (binF opAdd (vF 2) (cF (.int 1))) (callF bLen [(vF 4)]))])) (tgN 6)
  (dropS (methF .lst mAppend (vF 4) [(callF G_law_rule [(vF 0), (vF 1), (vF 3)])])))
  (retS (vF 4)))))
@[irreducible] noncomputable def G_law_rows : Fn := sealF fl (runF 7 b_law_rows)
noncomputable def b_law_words : Sv := (seqS (parS 2 3 (cellF (lstF [(cF (.str ("x" : Str))), (cF (.str ("y" : Str))), (cF (.str ("ab" : Str))), (cF (.str ("jkv" : Str))), (cF (.str ("q" : Str))), (cF (.str ("lowhere" : Str)))])) (cellF (lstF [])))
  (seqS (forS (rng1I (vF 1)) (tgN 4)
  (dropS (methF .lst mAppend (vF 3) [(methF .lst mPop1 (vF 2) [(callF G_law_draw [(vF 0), (callF bLen [(vF 2)])])])])))
  (retS (ifF (binF (opEq2 fl) (callF G_law_draw [(vF 0), (cF (.int 3))]) (cF (.int 0))) (compF (seqI (vF 3)) (tgN 5) [5] trueF (binF opAdd (cF (.str ("row" : Str))) (slF (vF 5) none (some (cF (.int 5)))))) (vF 3)))))
@[irreducible] noncomputable def G_law_words : Fn := sealF fl (runF 6 b_law_words)
noncomputable def b_is_in : Sv := (seqS (unpS (tgT [(tgN 2), (tgN 3)]) (vF 1))
  (retS (andF (binF opNotN (vF 0) (cF .non)) (andF (orF (binF opIsN (vF 2) (cF .non)) (binF opLe (vF 2) (vF 0))) (orF (binF opIsN (vF 3) (cF .non)) (binF opLe (vF 0) (vF 3)))))))
@[irreducible] noncomputable def G_is_in : Fn := runF 4 b_is_in
noncomputable def b_value_given : Sv := (seqS (ifS (notF (callF (bBls fun l => l.all id) [(compF (seqI (binF opIx (vF 0) (negF (cF (.int 1))))) (tgT [(tgN 3), (tgN 4)]) [3, 4] trueF (callF G_is_in [(binF opIx (vF 1) (vF 3)), (vF 4)]))]))
  (retS (cF .non))
  nextS)
  (seqS (ifS (binF (opEq2 fl) (binF opIx (vF 0) (cF (.int 0))) (cF (.str ("set" : Str))))
  (retS (ifF (callF G_is_in [(vF 2), (binF opIx (vF 0) (cF (.int 2)))]) (vF 2) (cF .non)))
  nextS)
  (seqS (ifS (orF (binF opNotN (vF 2) (cF .non)) (notF (callF G_is_in [(binF opIx (vF 1) (binF opIx (vF 0) (cF (.int 2)))), (binF opIx (vF 0) (cF (.int 5)))])))
  (retS (cF .non))
  nextS)
  (retS (binF opAdd (binF opMulI (binF opIx (vF 0) (cF (.int 3))) (binF opIx (vF 1) (binF opIx (vF 0) (cF (.int 2))))) (binF opIx (vF 0) (cF (.int 4))))))))
@[irreducible] noncomputable def G_value_given : Fn := runF 5 b_value_given
noncomputable def b_played : Sv := (seqS (asgS 2 (cellF (dcF (seqI (fldF fl 0 ("kept_names" : Str) (vF 0))) (tgN 8) [8] trueF (vF 8) (cF .non))))
  (seqS (forS (enumI (vF 1)) (tgT [(tgN 3), (tgT [(tgN 4), (tgN 5)])])
  (seqS (ifS (notF (chainF opLe opLt (cF (.int 0)) (vF 4) (callF bLen [(fldF fl 0 ("kept_rules" : Str) (vF 0))])))
  (retS (tupF [(vF 2), (vF 3)]))
  nextS)
  (seqS (asgS 6 (binF opIx (fldF fl 0 ("kept_rules" : Str) (vF 0)) (vF 4)))
  (seqS (asgS 7 (callF G_value_given [(vF 6), (vF 2), (vF 5)]))
  (seqS (ifS (binF opIsN (vF 7) (cF .non))
  (retS (tupF [(vF 2), (vF 3)]))
  nextS)
  (stoS (vF 2) (binF opIx (vF 6) (cF (.int 1))) (vF 7)))))))
  (retS (tupF [(vF 2), (callF bLen [(vF 1)])]))))
@[irreducible] noncomputable def G_played : Fn := runF 9 b_played
noncomputable def b_values_behind : Sv := (seqS (unpS (tgT [(tgN 2), (tgN 3)]) (callF G_played [(vF 0), (vF 1)]))
  (seqS (ifS (binF opLt (vF 3) (callF bLen [(vF 1)]))
  neverS
  nextS)
  (retS (vF 2))))
@[irreducible] noncomputable def G_values_behind : Fn := runF 4 b_values_behind
noncomputable def b_law : Sv := (seqS (asgS 1 (callF G_law_rng [(vF 0)]))
  (seqS (forS (rng1I (binF opAdd (cF (.int 8)) (callF bMin2 [(cF (.int 10)), (callF bLen [(vF 0)])]))) (tgN 2)
  (seqS (asgS 3 (callF G_law_words [(vF 1), (binF opAdd (cF (.int 1)) (callF G_law_draw [(vF 1), (cF (.int 6))]))]))
  (seqS (asgS 4 (callF G_law_rows [(vF 1), (vF 3), (cF (.int 10))]))
  (seqS (asgS 5 (makeZ fl 0 G_System_init_ [(vF 3), (vF 4)]))
  (seqS (unpS (tgT [(tgN 6), (tgN 7)]) (callF G_law_moves [(vF 1), (vF 3), (vF 4), (binF opIx (lstF [(cF (.int 60)), (cF (.int 200))]) (callF bInt [(binF (opEq2 fl) (vF 2) (cF (.int 0)))]))]))
  (seqS (asgS 8 (callF bList [(vF 6)]))
  (seqS (forS (seqI (tupF [(callF G_values_behind [(vF 5), (vF 6)]), (callKF [1, 0] G_values_behind [] [(vF 6), (vF 5)])])) (tgN 9)
  (seqS (ifS (orF (binF opNe2 (vF 9) (vF 7)) (binF opNe2 (vF 6) (vF 8)))
  (retS (cF (.bl false)))
  nextS)
  (dropS (methF .dct mDClear (vF 9) []))))
  (seqS (asgS 10 (cellF (callF bDict [(compF (seqI (vF 3)) (tgN 13) [13] trueF (tupF [(vF 13), (cF .non)]))])))
  (seqS (forS (rng1I (callF bMin2 [(callF bLen [(vF 6)]), (cF (.int 6))])) (tgN 11)
  (seqS (ifS (binF opNe2 (callF G_values_behind [(vF 5), (slF (vF 6) none (some (vF 11)))]) (vF 10))
  (retS (cF (.bl false)))
  nextS)
  (stoS (vF 10) (binF opIx (binF opIx (vF 4) (binF opIx (binF opIx (vF 6) (vF 11)) (cF (.int 0)))) (cF (.int 1))) (callF G_law_next [(vF 4), (vF 10), (binF opIx (vF 6) (vF 11))]))))
  (ifS (orF (binF opNe2 (callF G_values_behind [(vF 5), (vF 6)]) (vF 7)) (notF (binF (opEqI fl 0 G_System_eq_) (vF 5) (makeZ fl 0 G_System_init_ [(vF 3), (vF 4)]))))
  (retS (cF (.bl false)))
  nextS))))))))))
  (seqS (asgS 4 (lstF [(tupF [(cF (.str ("set" : Str))), (cF (.str ("x" : Str))), (tupF [(cF (.int 0)), (cF (.int 1))]), (tupF [])]), (tupF [(cF (.str ("step" : Str))), (cF (.str ("x" : Str))), (cF (.str ("x" : Str))), (cF (.int 1)), (cF (.int 3)), (tupF [(cF .non), (cF (.int 100))]), (tupF [])])]))
  (seqS (asgS 12 (makeZ fl 0 G_System_init_ [(lstF [(cF (.str ("x" : Str))), (cF (.str ("y" : Str)))]), (binF opAdd (vF 4) (lstF [(tupF [(cF (.str ("set" : Str))), (cF (.str ("y" : Str))), (tupF [(cF (.int 5)), (cF (.int 5))]), (tupF [(tupF [(cF (.str ("x" : Str))), (tupF [(cF (.int 4)), (cF .non)])])])])]))]))
  (seqS (asgS 9 (lstF [(callF G_values_behind [(vF 12), (lstF [(tupF [(cF (.int 0)), (cF (.int 1))]), (tupF [(cF (.int 1)), (cF .non)]), (tupF [(cF (.int 2)), (cF (.int 5))])])]), (callF G_values_behind [(vF 12), (lstF [(tupF [(cF (.int 0)), (cF (.int 0))])])]), (callF G_values_behind [(vF 12), (lstF [])])]))
  (retS (binF (opEq2 fl) (vF 9) (lstF [(dispF [((cF (.str ("x" : Str))), (cF (.int 4))), ((cF (.str ("y" : Str))), (cF (.int 5)))]), (dispF [((cF (.str ("x" : Str))), (cF (.int 0))), ((cF (.str ("y" : Str))), (cF .non))]), (dispF [((cF (.str ("x" : Str))), (cF .non)), ((cF (.str ("y" : Str))), (cF .non))])]))))))))
@[irreducible] noncomputable def G_law : Fn := runF 14 b_law
structure Ad where
  t_LETTERS : Tok
  t_MOST_LETTERS : Tok
  t_SET : Tok
  f_System_eq_ : Addr
  d_System_eq_ : FuncData
  f_is_name : Addr
  d_is_name : FuncData
  f_is_range : Addr
  d_is_range : FuncData
  f_names_in : Addr
  d_names_in : FuncData
  f_ranges_in : Addr
  d_ranges_in : FuncData
  f_is_rule : Addr
  d_is_rule : FuncData
  f_check_system : Addr
  d_check_system : FuncData
  f_System_init_ : Addr
  d_System_init_ : FuncData
  f_law_draw : Addr
  d_law_draw : FuncData
  f_law_inside : Addr
  d_law_inside : FuncData
  f_law_next : Addr
  d_law_next : FuncData
  f_law_spot : Addr
  d_law_spot : FuncData
  f_law_moves : Addr
  d_law_moves : FuncData
  f_law_rng : Addr
  d_law_rng : FuncData
  f_law_end : Addr
  d_law_end : FuncData
  f_law_within : Addr
  d_law_within : FuncData
  f_law_rule : Addr
  d_law_rule : FuncData
  f_law_rows : Addr
  d_law_rows : FuncData
  f_law_words : Addr
  d_law_words : FuncData
  f_is_in : Addr
  d_is_in : FuncData
  f_value_given : Addr
  d_value_given : FuncData
  f_played : Addr
  d_played : FuncData
  f_values_behind : Addr
  d_values_behind : FuncData
  f_law : Addr
  d_law : FuncData
  c_System : Addr
def Tb (A : Ad) : Tab := ⟨fun n => match n with
  | 0 => A.c_System
  | _ => 0, fl⟩
structure Tops (K : PySem.W.Frag) (mg : Str → Option Value) (A : Ad) : Prop where
  F_System_eq_ : Fun K "__eq__" "System.__eq__" s_System_eq_ A.f_System_eq_ A.d_System_eq_
  b_System_eq_ : Binds K A.d_System_eq_ ["self", "other"] []
  F_is_name : Fun K "is_name" "is_name" s_is_name A.f_is_name A.d_is_name
  b_is_name : Binds K A.d_is_name ["word"] []
  m_is_name : mg "is_name" = some (.ref A.f_is_name)
  F_is_range : Fun K "is_range" "is_range" s_is_range A.f_is_range A.d_is_range
  b_is_range : Binds K A.d_is_range ["value"] []
  m_is_range : mg "is_range" = some (.ref A.f_is_range)
  F_names_in : Fun K "names_in" "names_in" s_names_in A.f_names_in A.d_names_in
  b_names_in : Binds K A.d_names_in ["rule"] []
  m_names_in : mg "names_in" = some (.ref A.f_names_in)
  F_ranges_in : Fun K "ranges_in" "ranges_in" s_ranges_in A.f_ranges_in A.d_ranges_in
  b_ranges_in : Binds K A.d_ranges_in ["rule"] []
  m_ranges_in : mg "ranges_in" = some (.ref A.f_ranges_in)
  F_is_rule : Fun K "is_rule" "is_rule" s_is_rule A.f_is_rule A.d_is_rule
  b_is_rule : Binds K A.d_is_rule ["rule", "names"] []
  m_is_rule : mg "is_rule" = some (.ref A.f_is_rule)
  F_check_system : Fun K "check_system" "check_system" s_check_system A.f_check_system A.d_check_system
  b_check_system : Binds K A.d_check_system ["names", "rules"] []
  m_check_system : mg "check_system" = some (.ref A.f_check_system)
  F_System_init_ : Fun K "__init__" "System.__init__" s_System_init_ A.f_System_init_ A.d_System_init_
  b_System_init_ : Binds K A.d_System_init_ ["self", "names", "rules"] []
  F_law_draw : Fun K "_law_draw" "_law_draw" s_law_draw A.f_law_draw A.d_law_draw
  b_law_draw : Binds K A.d_law_draw ["rng", "limit"] []
  m_law_draw : mg "_law_draw" = some (.ref A.f_law_draw)
  F_law_inside : Fun K "_law_inside" "_law_inside" s_law_inside A.f_law_inside A.d_law_inside
  b_law_inside : Binds K A.d_law_inside ["given", "spot"] []
  m_law_inside : mg "_law_inside" = some (.ref A.f_law_inside)
  F_law_next : Fun K "_law_next" "_law_next" s_law_next A.f_law_next A.d_law_next
  b_law_next : Binds K A.d_law_next ["rows", "held", "move"] []
  m_law_next : mg "_law_next" = some (.ref A.f_law_next)
  F_law_spot : Fun K "_law_spot" "_law_spot" s_law_spot A.f_law_spot A.d_law_spot
  b_law_spot : Binds K A.d_law_spot ["rng", "given"] []
  m_law_spot : mg "_law_spot" = some (.ref A.f_law_spot)
  F_law_moves : Fun K "_law_moves" "_law_moves" s_law_moves A.f_law_moves A.d_law_moves
  b_law_moves : Binds K A.d_law_moves ["rng", "words", "rows", "many"] []
  m_law_moves : mg "_law_moves" = some (.ref A.f_law_moves)
  F_law_rng : Fun K "_law_rng" "_law_rng" s_law_rng A.f_law_rng A.d_law_rng
  b_law_rng : Binds K A.d_law_rng ["script"] []
  m_law_rng : mg "_law_rng" = some (.ref A.f_law_rng)
  F_law_end : Fun K "_law_end" "_law_end" s_law_end A.f_law_end A.d_law_end
  b_law_end : Binds K A.d_law_end ["rng", "far"] []
  m_law_end : mg "_law_end" = some (.ref A.f_law_end)
  F_law_within : Fun K "_law_within" "_law_within" s_law_within A.f_law_within A.d_law_within
  b_law_within : Binds K A.d_law_within ["rng", "far"] []
  m_law_within : mg "_law_within" = some (.ref A.f_law_within)
  F_law_rule : Fun K "_law_rule" "_law_rule" s_law_rule A.f_law_rule A.d_law_rule
  b_law_rule : Binds K A.d_law_rule ["rng", "words", "far"] []
  m_law_rule : mg "_law_rule" = some (.ref A.f_law_rule)
  F_law_rows : Fun K "_law_rows" "_law_rows" s_law_rows A.f_law_rows A.d_law_rows
  b_law_rows : Binds K A.d_law_rows ["rng", "words", "most"] []
  m_law_rows : mg "_law_rows" = some (.ref A.f_law_rows)
  F_law_words : Fun K "_law_words" "_law_words" s_law_words A.f_law_words A.d_law_words
  b_law_words : Binds K A.d_law_words ["rng", "many"] []
  m_law_words : mg "_law_words" = some (.ref A.f_law_words)
  F_is_in : Fun K "is_in" "is_in" s_is_in A.f_is_in A.d_is_in
  b_is_in : Binds K A.d_is_in ["value", "one"] []
  m_is_in : mg "is_in" = some (.ref A.f_is_in)
  F_value_given : Fun K "value_given" "value_given" s_value_given A.f_value_given A.d_value_given
  b_value_given : Binds K A.d_value_given ["rule", "values", "value"] []
  m_value_given : mg "value_given" = some (.ref A.f_value_given)
  F_played : Fun K "played" "played" s_played A.f_played A.d_played
  b_played : Binds K A.d_played ["system", "moves"] []
  m_played : mg "played" = some (.ref A.f_played)
  F_values_behind : Fun K "values_behind" "values_behind" s_values_behind A.f_values_behind A.d_values_behind
  b_values_behind : Binds K A.d_values_behind ["system", "moves"] []
  m_values_behind : mg "values_behind" = some (.ref A.f_values_behind)
  F_law : Fun K "law" "law" s_law A.f_law A.d_law
  b_law : Binds K A.d_law ["script"] []
  m_law : mg "law" = some (.ref A.f_law)
  m_System : mg "System" = some (.ref A.c_System)
  k_System : Mk K A.c_System A.f_System_init_
  l_System : Cls K A.c_System
  n_System_kept_names : NoAttr K A.c_System "kept_names"
  n_System_kept_rules : NoAttr K A.c_System "kept_rules"
  e_System : PySem.W.findIn K (.ref A.c_System) "__eq__" = some (some (.ref A.f_System_eq_))
  ef_System : PySem.W.isFn K (.ref A.f_System_eq_) = true
  i_System : ∀ n b, ans_System n = some b → IsI K ((Tb A).cls n) A.c_System b
  z_abs : mg "abs" = none
  z_all : mg "all" = none
  z_dict : mg "dict" = none
  z_enumerate : mg "enumerate" = none
  z_int : mg "int" = none
  z_isinstance : mg "isinstance" = none
  z_len : mg "len" = none
  z_list : mg "list" = none
  z_max : mg "max" = none
  z_min : mg "min" = none
  z_range : mg "range" = none
  z_sorted : mg "sorted" = none
  z_tuple : mg "tuple" = none
  v_LETTERS : mg "LETTERS" = some (.str "abcdefghijklmnopqrstuvwxyz" A.t_LETTERS)
  v_MOST_LETTERS : mg "MOST_LETTERS" = some (.int 8 A.t_MOST_LETTERS)
  v_SET : mg "SET" = some (.str "set" A.t_SET)
section
variable {P : Program} {w : World} {K : PySem.W.Frag} {mg : Str → Option Value} {base : Heap} {A : Ad}
theorem sc_System_eq_ : FnScope ["self", "other"] ["self", "other"] (defScope s_System_eq_) := ⟨rfl, rfl, rfl, by decide +kernel, rfl, by decide +kernel, by decide +kernel⟩
theorem ok_System_eq_ (T : Tops K mg A) : FnOk P w K mg base (L2N.CX P w) 1 A.f_System_eq_ A.d_System_eq_ ["self", "other"] (spF K (Tb A) 2 G_System_eq_) := by
  unfold G_System_eq_
  exact (fn_go T.F_System_eq_ sc_System_eq_ fun cdv Ar outer s H E g W hr tk =>
  (ss_cons (st_if (ft_not (ft_val (fe_isi (o := ⟨K, Tb A, g⟩) rfl rfl T.z_isinstance (fe_v (pv 1)) (pe_glob rfl T.m_System rfl) T.i_System rfl rfl rfl (by decide +kernel)) (fun _ => rfl)))
  (ss_one (st_ret (fe_c pe_bl (fun _ _ => .bl _))))
  ss_nil)
  (ss_one (st_ret (fe_cmp (op_eqAll (hu65 hr)) ops_eq2 (fe_tup (by show _ ≤ sizeLine; decide) (fa_cons (fe_fld (o := ⟨K, Tb A, g⟩) (c := 0) rfl (fe_v (pv 0)) rfl T.l_System T.n_System_kept_names) (fa_cons (fe_fld (o := ⟨K, Tb A, g⟩) (c := 0) rfl (fe_v (pv 0)) rfl T.l_System T.n_System_kept_rules) fa_nil rfl) rfl)) (fe_tup (by show _ ≤ sizeLine; decide) (fa_cons (fe_fld (o := ⟨K, Tb A, g⟩) (c := 0) rfl (fe_v (pv 1)) rfl T.l_System T.n_System_kept_names) (fa_cons (fe_fld (o := ⟨K, Tb A, g⟩) (c := 0) rfl (fe_v (pv 1)) rfl T.l_System T.n_System_kept_rules) fa_nil rfl) rfl)) (nomark _))))))
theorem sc_is_name : FnScope ["word", "sign"] ["word"] (defScope s_is_name) := ⟨rfl, rfl, rfl, by decide +kernel, rfl, by decide +kernel, by decide +kernel⟩
theorem ok_is_name (T : Tops K mg A) : FnOk P w K mg base (L2N.CX P w) 1 A.f_is_name A.d_is_name ["word"] (spF K (Tb A) 1 G_is_name) := by
  unfold G_is_name
  exact (fn_go T.F_is_name sc_is_name fun cdv Ar outer s H E g W hr tk =>
  (ss_one (st_ret (fe_and (fe_chain op_le op_le ops_B ops_B (fe_c pe_int (fun _ _ => .int _)) (fe_cb (pe_callB call_len rfl T.z_len (by decide +kernel) (fa_cons (fe_v (pv 0)) fa_nil rfl)) cs_len) (fe_c (v := (.int 8)) (pe_glob rfl T.v_MOST_LETTERS ⟨_, rfl⟩) (fun _ _ => .int _)) rfl) (pe_one (fe_cb (pe_callB (cr_all rfl) rfl T.z_all (by decide +kernel) (fa_cons (fe_new (fn_lc (o := ⟨K, Tb A, g⟩) (own := [(("sign" : Str), 1)]) (sl := [1]) rfl sc_is_name.nd (fi_str (fe_v (pv 0))) (blkOk_by (N := ["word", "sign"]) (sc := defScope s_is_name) (own := [(("sign" : Str), 1)]) (by decide +kernel)) (by decide) (fun _ _ _ _ _ => PG.ex fun g => (gt_name sc_is_name.nd rfl (Or.inl rfl) (Or.inr rfl))) (fun _ _ _ _ _ => yes_T) (fun _ _ _ _ _ => PE.ex fun g => (fe_cmp op_inA ops_in (fe_v (pv 1)) (fe_c (v := (.str ("abcdefghijklmnopqrstuvwxyz" : Str))) (pe_glob rfl T.v_LETTERS ⟨_, rfl⟩) (fun _ _ => .str _)) rfl)) (fun _ => rfl))) fa_nil rfl)) cs_bls))))))
theorem sc_is_range : FnScope ["value"] ["value"] (defScope s_is_range) := ⟨rfl, rfl, rfl, by decide +kernel, rfl, by decide +kernel, by decide +kernel⟩
theorem ok_is_range (T : Tops K mg A) : FnOk P w K mg base (L2N.CX P w) 1 A.f_is_range A.d_is_range ["value"] (spF K (Tb A) 1 G_is_range) := by
  unfold G_is_range
  exact (fn_go T.F_is_range sc_is_range fun cdv Ar outer s H E g W hr tk =>
  (ss_one (st_ret (fe_or (fe_cmp op_isN ops_isN (fe_v (pv 0)) (fe_c pe_non (fun _ _ => .non)) (nomark _)) (fe_or (fe_cmp op_inA ops_in (fe_c pe_non (fun _ _ => .non)) (fe_v (pv 0)) rfl) (pe_one (fe_cmp op_le ops_B (fe_ix rfl (hu_of hr) (fe_v (pv 0)) (fe_c pe_int (fun _ _ => .int _)) (fun _ _ => rfl)) (fe_ix rfl (hu_of hr) (fe_v (pv 0)) (fe_c pe_int (fun _ _ => .int _)) (fun _ _ => rfl)) (nomark _))))))))
theorem sc_names_in : FnScope ["rule", "first", "name", "one"] ["rule"] (defScope s_names_in) := ⟨rfl, rfl, rfl, by decide +kernel, rfl, by decide +kernel, by decide +kernel⟩
theorem ok_names_in (T : Tops K mg A) : FnOk P w K mg base (L2N.CX P w) 1 A.f_names_in A.d_names_in ["rule"] (spF K (Tb A) 1 G_names_in) := by
  unfold G_names_in
  exact (fn_go T.F_names_in sc_names_in fun cdv Ar outer s H E g W hr tk =>
  (ss_cons (st_set sc_names_in.nd rfl (Or.inl rfl) (fe_if (ft_cmp (op_eqAll (hu65 hr)) ops_eq2 (fe_ix rfl (hu_of hr) (fe_v (pv 0)) (fe_c pe_int (fun _ _ => .int _)) (fun _ _ => rfl)) (fe_c (v := (.str ("set" : Str))) (pe_glob rfl T.v_SET ⟨_, rfl⟩) (fun _ _ => .str _)) (nomark _)) (fe_new (fn_lst (by show _ ≤ sizeLine; decide) (fa_cons (fe_ix rfl (hu_of hr) (fe_v (pv 0)) (fe_c pe_int (fun _ _ => .int _)) (fun _ _ => rfl)) fa_nil rfl))) (fe_new (fn_lst (by show _ ≤ sizeLine; decide) (fa_cons (fe_ix rfl (hu_of hr) (fe_v (pv 0)) (fe_c pe_int (fun _ _ => .int _)) (fun _ _ => rfl)) (fa_cons (fe_ix rfl (hu_of hr) (fe_v (pv 0)) (fe_c pe_int (fun _ _ => .int _)) (fun _ _ => rfl)) fa_nil rfl) rfl)))) rfl (Or.inl rfl))
  (ss_one (st_ret (fe_bin op_addA ops_add (fe_v (pv 1)) (fe_new (fn_lc (o := ⟨K, Tb A, g⟩) (own := [(("name" : Str), 2), (("one" : Str), 3)]) (sl := [2, 3]) rfl sc_names_in.nd (fi_seq rfl (fe_ix rfl (hu_of hr) (fe_v (pv 0)) (fe_neg (fe_c pe_int (fun _ _ => .int _))) (fun _ _ => rfl))) (blkOk_by (N := ["rule", "first", "name", "one"]) (sc := defScope s_names_in) (own := [(("name" : Str), 2), (("one" : Str), 3)]) (by decide +kernel)) (by decide) (fun _ _ _ _ _ => PG.ex fun g => (gt_tup rfl rfl (gts_cons (a := [2]) (b := [3]) (c := [2, 3]) (gt_name sc_names_in.nd rfl (Or.inl rfl) (Or.inr rfl)) (gts_cons (a := [3]) (b := []) (c := [3]) (gt_name sc_names_in.nd rfl (Or.inl rfl) (Or.inr rfl)) gts_nil (by decide) (by decide) rfl) (by decide) (by decide) rfl) rfl rfl)) (fun _ _ _ _ _ => yes_T) (fun _ _ _ _ _ => PE.ex fun g => (fe_v (pv 2))) (fun _ => rfl))))))))
theorem sc_ranges_in : FnScope ["rule", "name", "one"] ["rule"] (defScope s_ranges_in) := ⟨rfl, rfl, rfl, by decide +kernel, rfl, by decide +kernel, by decide +kernel⟩
theorem ok_ranges_in (T : Tops K mg A) : FnOk P w K mg base (L2N.CX P w) 1 A.f_ranges_in A.d_ranges_in ["rule"] (spF K (Tb A) 1 G_ranges_in) := by
  unfold G_ranges_in
  exact (fn_go T.F_ranges_in sc_ranges_in fun cdv Ar outer s H E g W hr tk =>
  (ss_one (st_ret (fe_bin op_addA ops_add (fe_new (fn_lst (by show _ ≤ sizeLine; decide) (fa_cons (fe_if (ft_cmp (op_eqAll (hu65 hr)) ops_eq2 (fe_ix rfl (hu_of hr) (fe_v (pv 0)) (fe_c pe_int (fun _ _ => .int _)) (fun _ _ => rfl)) (fe_c (v := (.str ("set" : Str))) (pe_glob rfl T.v_SET ⟨_, rfl⟩) (fun _ _ => .str _)) (nomark _)) (fe_ix rfl (hu_of hr) (fe_v (pv 0)) (fe_c pe_int (fun _ _ => .int _)) (fun _ _ => rfl)) (fe_ix rfl (hu_of hr) (fe_v (pv 0)) (fe_c pe_int (fun _ _ => .int _)) (fun _ _ => rfl))) fa_nil rfl))) (fe_new (fn_lc (o := ⟨K, Tb A, g⟩) (own := [(("name" : Str), 1), (("one" : Str), 2)]) (sl := [1, 2]) rfl sc_ranges_in.nd (fi_seq rfl (fe_ix rfl (hu_of hr) (fe_v (pv 0)) (fe_neg (fe_c pe_int (fun _ _ => .int _))) (fun _ _ => rfl))) (blkOk_by (N := ["rule", "name", "one"]) (sc := defScope s_ranges_in) (own := [(("name" : Str), 1), (("one" : Str), 2)]) (by decide +kernel)) (by decide) (fun _ _ _ _ _ => PG.ex fun g => (gt_tup rfl rfl (gts_cons (a := [1]) (b := [2]) (c := [1, 2]) (gt_name sc_ranges_in.nd rfl (Or.inl rfl) (Or.inr rfl)) (gts_cons (a := [2]) (b := []) (c := [2]) (gt_name sc_ranges_in.nd rfl (Or.inl rfl) (Or.inr rfl)) gts_nil (by decide) (by decide) rfl) (by decide) (by decide) rfl) rfl rfl)) (fun _ _ _ _ _ => yes_T) (fun _ _ _ _ _ => PE.ex fun g => (fe_v (pv 2))) (fun _ => rfl)))))))
theorem sc_is_rule : FnScope ["rule", "names", "name", "one"] ["rule", "names"] (defScope s_is_rule) := ⟨rfl, rfl, rfl, by decide +kernel, rfl, by decide +kernel, by decide +kernel⟩
theorem ok_is_rule (T : Tops K mg A) : FnOk P w K mg base (L2N.CX P w) 2 A.f_is_rule A.d_is_rule ["rule", "names"] (spF K (Tb A) 2 G_is_rule) := by
  unfold G_is_rule
  exact (fn_go T.F_is_rule sc_is_rule fun cdv Ar outer s H E g W hr tk =>
  (ss_cons (st_if (ft_not (ft_val (fe_cb (pe_callB (cr_all rfl) rfl T.z_all (by decide +kernel) (fa_cons (fe_new (fn_lc (o := ⟨K, Tb A, g⟩) (own := [(("name" : Str), 2)]) (sl := [2]) rfl sc_is_rule.nd (fi_seq rfl (fe_call rfl (ok_names_in T) (hr.mono (by decide)) rfl T.m_names_in T.F_names_in.kp T.b_names_in tk (fa_cons (fe_v (pv 0)) fa_nil rfl) (by decide) rfl rfl)) (blkOk_by (N := ["rule", "names", "name", "one"]) (sc := defScope s_is_rule) (own := [(("name" : Str), 2)]) (by decide +kernel)) (by decide) (fun _ _ _ _ _ => PG.ex fun g => (gt_name sc_is_rule.nd rfl (Or.inl rfl) (Or.inr rfl))) (fun _ _ _ _ _ => yes_T) (fun _ _ _ _ _ => PE.ex fun g => (fe_cmp op_inA ops_in (fe_v (pv 2)) (fe_v (pv 1)) rfl)) (fun _ => rfl))) fa_nil rfl)) cs_bls) (fun _ => rfl)))
  (ss_one (st_ret (fe_c pe_bl (fun _ _ => .bl _))))
  ss_nil)
  (ss_cons (st_if (PW.pt (ft_and (ft_cmp (op_neAll (hu65 hr)) ops_ne2 (fe_ix rfl (hu_of hr) (fe_v (pv 0)) (fe_c pe_int (fun _ _ => .int _)) (fun _ _ => rfl)) (fe_c (v := (.str ("set" : Str))) (pe_glob rfl T.v_SET ⟨_, rfl⟩) (fun _ _ => .str _)) (nomark _)) (pw_and1 (ft_cmp (op_eqAll (hu65 hr)) ops_eq2 (fe_ix rfl (hu_of hr) (fe_v (pv 0)) (fe_c pe_int (fun _ _ => .int _)) (fun _ _ => rfl)) (fe_c pe_int (fun _ _ => .int _)) (nomark _)))))
  (ss_one (st_ret (fe_c pe_bl (fun _ _ => .bl _))))
  ss_nil)
  (ss_one (st_ret (fe_cb (pe_callB (cr_all rfl) rfl T.z_all (by decide +kernel) (fa_cons (fe_new (fn_lc (o := ⟨K, Tb A, g⟩) (own := [(("one" : Str), 3)]) (sl := [3]) rfl sc_is_rule.nd (fi_seq rfl (fe_call rfl (ok_ranges_in T) (hr.mono (by decide)) rfl T.m_ranges_in T.F_ranges_in.kp T.b_ranges_in tk (fa_cons (fe_v (pv 0)) fa_nil rfl) (by decide) rfl rfl)) (blkOk_by (N := ["rule", "names", "name", "one"]) (sc := defScope s_is_rule) (own := [(("one" : Str), 3)]) (by decide +kernel)) (by decide) (fun _ _ _ _ _ => PG.ex fun g => (gt_name sc_is_rule.nd rfl (Or.inl rfl) (Or.inr rfl))) (fun _ _ _ _ _ => yes_T) (fun _ _ _ _ _ => PE.ex fun g => (fe_and (fe_cmp op_notN ops_notN (fe_v (pv 3)) (fe_c pe_non (fun _ _ => .non)) (nomark _)) (pe_one (fe_call rfl (ok_is_range T) (hr.mono (by decide)) rfl T.m_is_range T.F_is_range.kp T.b_is_range takes_no (fa_cons (fe_v (pv 3)) fa_nil rfl) (by decide) rfl rfl)))) (fun _ => rfl))) fa_nil rfl)) cs_bls))))))
theorem sc_check_system : FnScope ["names", "rules", "spot", "name", "number", "rule"] ["names", "rules"] (defScope s_check_system) := ⟨rfl, rfl, rfl, by decide +kernel, rfl, by decide +kernel, by decide +kernel⟩
theorem ok_check_system (T : Tops K mg A) : FnOk P w K mg base (L2N.CX P w) 3 A.f_check_system A.d_check_system ["names", "rules"] (spF K (Tb A) 2 G_check_system) := by
  unfold G_check_system
  exact fn_seal (T := Tb A) (fn_go T.F_check_system sc_check_system fun cdv Ar outer s H E g W hr tk =>
  (ss_cons (st_for (sl := [2, 3]) PassesOwn.leaving rfl (fi_enum rfl rfl T.z_enumerate (fe_v (pv 0)) rfl rfl) (gt_tup rfl rfl (gts_cons (a := [2]) (b := [3]) (c := [2, 3]) (gt_name sc_check_system.nd rfl (Or.inl rfl) (Or.inl rfl)) (gts_cons (a := [3]) (b := []) (c := [3]) (gt_name sc_check_system.nd rfl (Or.inl rfl) (Or.inl rfl)) gts_nil (by decide) (by decide) rfl) (by decide) (by decide) rfl) rfl rfl)
  (ss_one (st_if (PW.pt (ft_or (ft_not (ft_val (fe_call rfl (ok_is_name T) (hr.mono (by decide)) rfl T.m_is_name T.F_is_name.kp T.b_is_name tk (fa_cons (fe_v (pv 3)) fa_nil rfl) (by decide) rfl rfl) (fun _ => rfl))) (pw_or1 (ft_cmp op_inA ops_in (fe_v (pv 3)) (fe_sl rfl (fe_v (pv 0)) po_none (po_some (fe_v (pv 2)))) rfl))))
  (ss_one st_never)
  ss_nil)) (fun _ => rfl))
  (ss_one (st_for (sl := [4, 5]) PassesOwn.leaving rfl (fi_enum rfl rfl T.z_enumerate (fe_v (pv 1)) rfl rfl) (gt_tup rfl rfl (gts_cons (a := [4]) (b := [5]) (c := [4, 5]) (gt_name sc_check_system.nd rfl (Or.inl rfl) (Or.inl rfl)) (gts_cons (a := [5]) (b := []) (c := [5]) (gt_name sc_check_system.nd rfl (Or.inl rfl) (Or.inl rfl)) gts_nil (by decide) (by decide) rfl) (by decide) (by decide) rfl) rfl rfl)
  (ss_one (st_if (ft_not (ft_val (fe_call rfl (ok_is_rule T) (hr.mono (by decide)) rfl T.m_is_rule T.F_is_rule.kp T.b_is_rule tk (fa_cons (fe_v (pv 5)) (fa_cons (fe_v (pv 0)) fa_nil rfl) rfl) (by decide) rfl rfl) (fun _ => rfl)))
  (ss_one st_never)
  ss_nil)) (fun _ => rfl)))))
theorem sc_System_init_ : FnScope ["self", "names", "rules"] ["self", "names", "rules"] (defScope s_System_init_) := ⟨rfl, rfl, rfl, by decide +kernel, rfl, by decide +kernel, by decide +kernel⟩
theorem ok_System_init_ (T : Tops K mg A) : FnOk P w K mg base (L2N.CX P w) 4 A.f_System_init_ A.d_System_init_ ["self", "names", "rules"] (spF K (Tb A) 3 G_System_init_) := by
  unfold G_System_init_
  exact (fn_go T.F_System_init_ sc_System_init_ fun cdv Ar outer s H E g W hr tk =>
  (ss_cons (st_expr (fe_call rfl (ok_check_system T) (hr.mono (by decide)) rfl T.m_check_system T.F_check_system.kp T.b_check_system tk (fa_cons (fe_v (pv 1)) (fa_cons (fe_v (pv 2)) fa_nil rfl) rfl) (by decide) rfl rfl) rfl)
  (ss_cons (st_fld (o := ⟨K, Tb A, g⟩) (c := 0) rfl (fe_v (pv 0)) (fe_cb (pe_callTy call_tuple_of rfl T.z_tuple (by decide +kernel) (fa_cons (fe_new (fn_cb (pe_callB cr_sortedS rfl T.z_sorted (by decide +kernel) (fa_cons (fe_v (pv 1)) fa_nil rfl)) cn_sorted)) fa_nil rfl)) cs_tuple) rfl T.l_System T.n_System_kept_names)
  (ss_one (st_fld (o := ⟨K, Tb A, g⟩) (c := 0) rfl (fe_v (pv 0)) (fe_cb (pe_callTy call_tuple_of rfl T.z_tuple (by decide +kernel) (fa_cons (fe_v (pv 2)) fa_nil rfl)) cs_tuple) rfl T.l_System T.n_System_kept_rules)))))
theorem sc_law_draw : FnScope ["rng", "limit", "digit", "blend"] ["rng", "limit"] (defScope s_law_draw) := ⟨rfl, rfl, rfl, by decide +kernel, rfl, by decide +kernel, by decide +kernel⟩
theorem ok_law_draw (T : Tops K mg A) : FnOk P w K mg base (L2N.CX P w) 1 A.f_law_draw A.d_law_draw ["rng", "limit"] (spF K (Tb A) 2 G_law_draw) := by
  unfold G_law_draw
  exact (fn_go T.F_law_draw sc_law_draw fun cdv Ar outer s H E g W hr tk =>
  (ss_cons (st_if (ft_cmp op_gt ops_B (fe_ix rfl (hu_of hr) (fe_v (pv 0)) (fe_c pe_int (fun _ _ => .int _)) (fun _ _ => rfl)) (fe_c pe_int (fun _ _ => .int _)) (nomark _))
  (ss_cons (st_set sc_law_draw.nd rfl (Or.inl rfl) (fe_bin op_mod ops_mod (fe_cb (pe_callTy call_int1 rfl T.z_int (by decide +kernel) (fa_cons (fe_ix rfl (hu_of hr) (fe_v (pv 0)) (fe_c pe_int (fun _ _ => .int _)) (fun _ _ => rfl)) fa_nil rfl)) cs_int) (fe_v (pv 1))) rfl (Or.inl rfl))
  (ss_cons (st_sto (hu_of hr) (fe_v (pv 0)) (fe_c pe_int (fun _ _ => .int _)) (fe_bin op_fdivW ops_div (fe_ix rfl (hu_of hr) (fe_v (pv 0)) (fe_c pe_int (fun _ _ => .int _)) (fun _ _ => rfl)) (fe_v (pv 1))) (fun _ => rfl) rfl rfl rfl)
  (ss_one (st_ret (fe_v (pv 2))))))
  ss_nil)
  (ss_cons (st_sto (hu_of hr) (fe_v (pv 0)) (fe_c pe_int (fun _ _ => .int _)) (fe_bin op_addA ops_add (fe_ix rfl (hu_of hr) (fe_v (pv 0)) (fe_c pe_int (fun _ _ => .int _)) (fun _ _ => rfl)) (fe_c pe_int (fun _ _ => .int _))) (fun _ => rfl) rfl rfl rfl)
  (ss_cons (st_set sc_law_draw.nd rfl (Or.inl rfl) (fe_bin op_mod ops_mod (fe_cb (pe_callTy call_int1 rfl T.z_int (by decide +kernel) (fa_cons (fe_bin op_powW ops_pow (fe_bin op_addA ops_add (fe_ix rfl (hu_of hr) (fe_v (pv 0)) (fe_c pe_int (fun _ _ => .int _)) (fun _ _ => rfl)) (fe_bin op_mulW ops_mulI (fe_c pe_int (fun _ _ => .int _)) (fe_ix rfl (hu_of hr) (fe_v (pv 0)) (fe_c pe_int (fun _ _ => .int _)) (fun _ _ => rfl)))) (fe_c pe_int (fun _ _ => .int _))) fa_nil rfl)) cs_int) (fe_c pe_int (fun _ _ => .int _))) rfl (Or.inl rfl))
  (ss_cons (st_set sc_law_draw.nd rfl (Or.inl rfl) (fe_bin op_mod ops_mod (fe_cb (pe_callTy call_int1 rfl T.z_int (by decide +kernel) (fa_cons (fe_bin op_powW ops_pow (fe_bin op_addA ops_add (fe_v (pv 3)) (fe_bin op_mulW ops_mulI (fe_c pe_int (fun _ _ => .int _)) (fe_ix rfl (hu_of hr) (fe_v (pv 0)) (fe_c pe_int (fun _ _ => .int _)) (fun _ _ => rfl)))) (fe_c pe_int (fun _ _ => .int _))) fa_nil rfl)) cs_int) (fe_c pe_int (fun _ _ => .int _))) rfl (Or.inl rfl))
  (ss_one (st_ret (fe_bin op_mod ops_mod (fe_cb (pe_callTy call_int1 rfl T.z_int (by decide +kernel) (fa_cons (fe_bin op_fdivW ops_div (fe_v (pv 3)) (fe_c pe_int (fun _ _ => .int _))) fa_nil rfl)) cs_int) (fe_v (pv 1))))))))))
theorem sc_law_inside : FnScope ["given", "spot"] ["given", "spot"] (defScope s_law_inside) := ⟨rfl, rfl, rfl, by decide +kernel, rfl, by decide +kernel, by decide +kernel⟩
theorem ok_law_inside (T : Tops K mg A) : FnOk P w K mg base (L2N.CX P w) 1 A.f_law_inside A.d_law_inside ["given", "spot"] (spF K (Tb A) 2 G_law_inside) := by
  unfold G_law_inside
  exact (fn_go T.F_law_inside sc_law_inside fun cdv Ar outer s H E g W hr tk =>
  (ss_cons (st_if (ft_cmp op_isN ops_isN (fe_v (pv 1)) (fe_c pe_non (fun _ _ => .non)) (nomark _))
  (ss_one (st_ret (fe_c pe_bl (fun _ _ => .bl _))))
  ss_nil)
  (ss_one (st_ret (fe_and (fe_or (fe_cmp op_isN ops_isN (fe_ix rfl (hu_of hr) (fe_v (pv 0)) (fe_c pe_int (fun _ _ => .int _)) (fun _ _ => rfl)) (fe_c pe_non (fun _ _ => .non)) (nomark _)) (pe_one (fe_cmp op_le ops_B (fe_ix rfl (hu_of hr) (fe_v (pv 0)) (fe_c pe_int (fun _ _ => .int _)) (fun _ _ => rfl)) (fe_v (pv 1)) (nomark _)))) (pe_one (fe_or (fe_cmp op_isN ops_isN (fe_ix rfl (hu_of hr) (fe_v (pv 0)) (fe_c pe_int (fun _ _ => .int _)) (fun _ _ => rfl)) (fe_c pe_non (fun _ _ => .non)) (nomark _)) (pe_one (fe_cmp op_le ops_B (fe_v (pv 1)) (fe_ix rfl (hu_of hr) (fe_v (pv 0)) (fe_c pe_int (fun _ _ => .int _)) (fun _ _ => rfl)) (nomark _))))))))))
theorem sc_law_next : FnScope ["rows", "held", "move", "number", "spot", "row", "part", "given"] ["rows", "held", "move"] (defScope s_law_next) := ⟨rfl, rfl, rfl, by decide +kernel, rfl, by decide +kernel, by decide +kernel⟩
theorem ok_law_next (T : Tops K mg A) : FnOk P w K mg base (L2N.CX P w) 2 A.f_law_next A.d_law_next ["rows", "held", "move"] (spF K (Tb A) 3 G_law_next) := by
  unfold G_law_next
  exact (fn_go T.F_law_next sc_law_next fun cdv Ar outer s H E g W hr tk =>
  (ss_cons (st_asg (sl := [3, 4]) (fe_v (pv 2)) (gt_tup rfl rfl (gts_cons (a := [3]) (b := [4]) (c := [3, 4]) (gt_name sc_law_next.nd rfl (Or.inl rfl) (Or.inl rfl)) (gts_cons (a := [4]) (b := []) (c := [4]) (gt_name sc_law_next.nd rfl (Or.inl rfl) (Or.inl rfl)) gts_nil (by decide) (by decide) rfl) (by decide) (by decide) rfl) rfl rfl) rfl rfl rfl)
  (ss_cons (st_if (ft_not (ft_chain op_le op_lt ops_B ops_B (fe_c pe_int (fun _ _ => .int _)) (fe_v (pv 3)) (fe_cb (pe_callB call_len rfl T.z_len (by decide +kernel) (fa_cons (fe_v (pv 0)) fa_nil rfl)) cs_len) rfl))
  (ss_one (st_ret (fe_c pe_non (fun _ _ => .non))))
  ss_nil)
  (ss_cons (st_set sc_law_next.nd rfl (Or.inl rfl) (fe_ix rfl (hu_of hr) (fe_v (pv 0)) (fe_v (pv 3)) (fun _ _ => rfl)) rfl (Or.inl rfl))
  (ss_cons (st_if (ft_cmp (op_neAll (hu65 hr)) ops_ne2 (fe_new (fn_lc (o := ⟨K, Tb A, g⟩) (own := [(("part" : Str), 6), (("given" : Str), 7)]) (sl := [6, 7]) rfl sc_law_next.nd (fi_seq rfl (fe_ix rfl (hu_of hr) (fe_v (pv 5)) (fe_neg (fe_c pe_int (fun _ _ => .int _))) (fun _ _ => rfl))) (blkOk_by (N := ["rows", "held", "move", "number", "spot", "row", "part", "given"]) (sc := defScope s_law_next) (own := [(("part" : Str), 6), (("given" : Str), 7)]) (by decide +kernel)) (by decide) (fun _ _ _ _ _ => PG.ex fun g => (gt_tup rfl rfl (gts_cons (a := [6]) (b := [7]) (c := [6, 7]) (gt_name sc_law_next.nd rfl (Or.inl rfl) (Or.inr rfl)) (gts_cons (a := [7]) (b := []) (c := [7]) (gt_name sc_law_next.nd rfl (Or.inl rfl) (Or.inr rfl)) gts_nil (by decide) (by decide) rfl) (by decide) (by decide) rfl) rfl rfl)) (fun _ _ _ _ _ => (one_T fun g => (ft_not (ft_val (fe_call rfl (ok_law_inside T) (hr.mono (by decide)) rfl T.m_law_inside T.F_law_inside.kp T.b_law_inside takes_no (fa_cons (fe_v (pv 7)) (fa_cons (fe_ix rfl (hu_of hr) (fe_v (pv 1)) (fe_v (pv 6)) (fun _ _ => rfl)) fa_nil rfl) rfl) (by decide) rfl rfl) (fun _ => rfl))))) (fun _ _ _ _ _ => PE.ex fun g => (fe_c pe_int (fun _ _ => .int _))) (fun _ => rfl))) (fe_new (fn_lst (by show _ ≤ sizeLine; decide) fa_nil)) (nomark _))
  (ss_one (st_ret (fe_c pe_non (fun _ _ => .non))))
  ss_nil)
  (ss_cons (st_if (ft_cmp (op_eqAll (hu65 hr)) ops_eq2 (fe_ix rfl (hu_of hr) (fe_v (pv 5)) (fe_c pe_int (fun _ _ => .int _)) (fun _ _ => rfl)) (fe_c pe_str (fun _ _ => .str _)) (nomark _))
  (ss_one (st_ret (fe_if (ft_val (fe_call rfl (ok_law_inside T) (hr.mono (by decide)) rfl T.m_law_inside T.F_law_inside.kp T.b_law_inside tk (fa_cons (fe_ix rfl (hu_of hr) (fe_v (pv 5)) (fe_c pe_int (fun _ _ => .int _)) (fun _ _ => rfl)) (fa_cons (fe_v (pv 4)) fa_nil rfl) rfl) (by decide) rfl rfl) (fun _ => rfl)) (fe_v (pv 4)) (fe_c pe_non (fun _ _ => .non)))))
  ss_nil)
  (ss_cons (st_if (PW.pt (ft_or (ft_cmp op_notN ops_notN (fe_v (pv 4)) (fe_c pe_non (fun _ _ => .non)) (nomark _)) (pw_or1 (ft_not (ft_val (fe_call rfl (ok_law_inside T) (hr.mono (by decide)) rfl T.m_law_inside T.F_law_inside.kp T.b_law_inside tk (fa_cons (fe_ix rfl (hu_of hr) (fe_v (pv 5)) (fe_c pe_int (fun _ _ => .int _)) (fun _ _ => rfl)) (fa_cons (fe_ix rfl (hu_of hr) (fe_v (pv 1)) (fe_ix rfl (hu_of hr) (fe_v (pv 5)) (fe_c pe_int (fun _ _ => .int _)) (fun _ _ => rfl)) (fun _ _ => rfl)) fa_nil rfl) rfl) (by decide) rfl rfl) (fun _ => rfl))))))
  (ss_one (st_ret (fe_c pe_non (fun _ _ => .non))))
  ss_nil)
  (ss_one (st_ret (fe_bin op_addA ops_add (fe_bin op_mulW ops_mulI (fe_ix rfl (hu_of hr) (fe_v (pv 5)) (fe_c pe_int (fun _ _ => .int _)) (fun _ _ => rfl)) (fe_ix rfl (hu_of hr) (fe_v (pv 1)) (fe_ix rfl (hu_of hr) (fe_v (pv 5)) (fe_c pe_int (fun _ _ => .int _)) (fun _ _ => rfl)) (fun _ _ => rfl))) (fe_ix rfl (hu_of hr) (fe_v (pv 5)) (fe_c pe_int (fun _ _ => .int _)) (fun _ _ => rfl))))))))))))
theorem sc_law_spot : FnScope ["rng", "given", "ends", "some", "end"] ["rng", "given"] (defScope s_law_spot) := ⟨rfl, rfl, rfl, by decide +kernel, rfl, by decide +kernel, by decide +kernel⟩
theorem ok_law_spot (T : Tops K mg A) : FnOk P w K mg base (L2N.CX P w) 2 A.f_law_spot A.d_law_spot ["rng", "given"] (spF K (Tb A) 2 G_law_spot) := by
  unfold G_law_spot
  exact (fn_go T.F_law_spot sc_law_spot fun cdv Ar outer s H E g W hr tk =>
  (ss_cons (st_lc (o := ⟨K, Tb A, g⟩) (own := [(("end" : Str), 4)]) (sl := [4]) rfl sc_law_spot.nd rfl rfl (sw_true rfl rfl rfl (by decide +kernel)) (fi_seq rfl (fe_v (pv 1))) (blkOk_by (N := ["rng", "given", "ends", "some", "end"]) (sc := defScope s_law_spot) (own := [(("end" : Str), 4)]) (by decide +kernel)) (by decide) (fun _ _ _ _ _ => PG.ex fun g => (gt_name sc_law_spot.nd rfl (Or.inl rfl) (Or.inr rfl))) (fun _ _ _ _ _ => (one_T fun g => (ft_cmp op_notN ops_notN (fe_v (pv 4)) (fe_c pe_non (fun _ _ => .non)) (nomark _)))) (fun _ _ _ _ _ => PE.ex fun g => (fe_v (pv 4))) (fun _ => rfl))
  (ss_cons (st_set sc_law_spot.nd rfl (Or.inl rfl) (fe_bin op_addA ops_add (fe_bin op_addA ops_add (fe_bin op_addA ops_add (fe_v (pv 2)) (fe_new (fn_lc (o := ⟨K, Tb A, g⟩) (own := [(("end" : Str), 4)]) (sl := [4]) rfl sc_law_spot.nd (fi_seq rfl (fe_v (pv 2))) (blkOk_by (N := ["rng", "given", "ends", "some", "end"]) (sc := defScope s_law_spot) (own := [(("end" : Str), 4)]) (by decide +kernel)) (by decide) (fun _ _ _ _ _ => PG.ex fun g => (gt_name sc_law_spot.nd rfl (Or.inl rfl) (Or.inr rfl))) (fun _ _ _ _ _ => yes_T) (fun _ _ _ _ _ => PE.ex fun g => (fe_bin op_addA ops_add (fe_v (pv 4)) (fe_c pe_int (fun _ _ => .int _)))) (fun _ => rfl)))) (fe_new (fn_lc (o := ⟨K, Tb A, g⟩) (own := [(("end" : Str), 4)]) (sl := [4]) rfl sc_law_spot.nd (fi_seq rfl (fe_v (pv 2))) (blkOk_by (N := ["rng", "given", "ends", "some", "end"]) (sc := defScope s_law_spot) (own := [(("end" : Str), 4)]) (by decide +kernel)) (by decide) (fun _ _ _ _ _ => PG.ex fun g => (gt_name sc_law_spot.nd rfl (Or.inl rfl) (Or.inr rfl))) (fun _ _ _ _ _ => yes_T) (fun _ _ _ _ _ => PE.ex fun g => (fe_bin op_sub ops_sub (fe_v (pv 4)) (fe_c pe_int (fun _ _ => .int _)))) (fun _ => rfl)))) (fe_new (fn_lst (by show _ ≤ sizeLine; decide) (fa_cons (fe_c pe_int (fun _ _ => .int _)) (fa_cons (fe_c pe_int (fun _ _ => .int _)) (fa_cons (fe_neg (fe_c pe_int (fun _ _ => .int _))) (fa_cons (fe_bin op_sub ops_sub (fe_call rfl (ok_law_draw T) (hr.mono (by decide)) rfl T.m_law_draw T.F_law_draw.kp T.b_law_draw tk (fa_cons (fe_v (pv 0)) (fa_cons (fe_c pe_int (fun _ _ => .int _)) fa_nil rfl) rfl) (by decide) rfl rfl) (fe_c pe_int (fun _ _ => .int _))) (fa_cons (fe_c pe_non (fun _ _ => .non)) fa_nil rfl) rfl) rfl) rfl) rfl)))) rfl (Or.inl rfl))
  (ss_one (st_ret (fe_ix rfl (hu_of hr) (fe_v (pv 3)) (fe_call rfl (ok_law_draw T) (hr.mono (by decide)) rfl T.m_law_draw T.F_law_draw.kp T.b_law_draw tk (fa_cons (fe_v (pv 0)) (fa_cons (fe_cb (pe_callB call_len rfl T.z_len (by decide +kernel) (fa_cons (fe_v (pv 3)) fa_nil rfl)) cs_len) fa_nil rfl) rfl) (by decide) rfl rfl) (fun _ _ => rfl)))))))
theorem sc_law_moves : FnScope ["rng", "words", "rows", "many", "held", "some", "turn", "number", "spot", "later", "word"] ["rng", "words", "rows", "many"] (defScope s_law_moves) := ⟨rfl, rfl, rfl, by decide +kernel, rfl, by decide +kernel, by decide +kernel⟩
theorem ok_law_moves (T : Tops K mg A) : FnOk P w K mg base (L2N.CX P w) 3 A.f_law_moves A.d_law_moves ["rng", "words", "rows", "many"] (spF K (Tb A) 4 G_law_moves) := by
  unfold G_law_moves
  exact fn_seal (T := Tb A) (fn_go T.F_law_moves sc_law_moves fun cdv Ar outer s H E g W hr tk =>
  (ss_cons (st_par rfl sc_law_moves.nd rfl rfl (by decide) rfl rfl (fe_cell (fn_cb (pe_callTy (call_dictP rfl) rfl T.z_dict (by decide +kernel) (fa_cons (fe_new (fn_lc (o := ⟨K, Tb A, g⟩) (own := [(("word" : Str), 10)]) (sl := [10]) rfl sc_law_moves.nd (fi_seq rfl (fe_v (pv 1))) (blkOk_by (N := ["rng", "words", "rows", "many", "held", "some", "turn", "number", "spot", "later", "word"]) (sc := defScope s_law_moves) (own := [(("word" : Str), 10)]) (by decide +kernel)) (by decide) (fun _ _ _ _ _ => PG.ex fun g => (gt_name sc_law_moves.nd rfl (Or.inl rfl) (Or.inr rfl))) (fun _ _ _ _ _ => yes_T) (fun _ _ _ _ _ => PE.ex fun g => (fe_tup (by show _ ≤ sizeLine; decide) (fa_cons (fe_v (pv 10)) (fa_cons (fe_c pe_non (fun _ _ => .non)) fa_nil rfl) rfl))) (fun _ => rfl))) fa_nil rfl)) cn_dict)) (fe_cell (fn_lst (by show _ ≤ sizeLine; decide) fa_nil)) rfl rfl rfl rfl)
  (ss_cons (st_for (sl := [6]) PassesOwn.leaving rfl (fi_rng1 rfl T.z_range (fe_bin op_mulW ops_mulI (fe_v (pv 3)) (fe_cb (pe_callTy call_int1 rfl T.z_int (by decide +kernel) (fa_cons (fe_cmp (op_neAll (hu65 hr)) ops_ne2 (fe_v (pv 2)) (fe_new (fn_lst (by show _ ≤ sizeLine; decide) fa_nil)) (nomark _)) fa_nil rfl)) cs_int)) rfl rfl) (gt_name sc_law_moves.nd rfl (Or.inl rfl) (Or.inl rfl))
  (ss_cons (st_set sc_law_moves.nd rfl (Or.inl rfl) (fe_call rfl (ok_law_draw T) (hr.mono (by decide)) rfl T.m_law_draw T.F_law_draw.kp T.b_law_draw tk (fa_cons (fe_v (pv 0)) (fa_cons (fe_cb (pe_callB call_len rfl T.z_len (by decide +kernel) (fa_cons (fe_v (pv 2)) fa_nil rfl)) cs_len) fa_nil rfl) rfl) (by decide) rfl rfl) rfl (Or.inl rfl))
  (ss_cons (st_set sc_law_moves.nd rfl (Or.inl rfl) (fe_if (ft_cmp (op_eqAll (hu65 hr)) ops_eq2 (fe_ix rfl (hu_of hr) (fe_ix rfl (hu_of hr) (fe_v (pv 2)) (fe_v (pv 7)) (fun _ _ => rfl)) (fe_c pe_int (fun _ _ => .int _)) (fun _ _ => rfl)) (fe_c pe_str (fun _ _ => .str _)) (nomark _)) (fe_call rfl (ok_law_spot T) (hr.mono (by decide)) rfl T.m_law_spot T.F_law_spot.kp T.b_law_spot tk (fa_cons (fe_v (pv 0)) (fa_cons (fe_ix rfl (hu_of hr) (fe_ix rfl (hu_of hr) (fe_v (pv 2)) (fe_v (pv 7)) (fun _ _ => rfl)) (fe_c pe_int (fun _ _ => .int _)) (fun _ _ => rfl)) fa_nil rfl) rfl) (by decide) rfl rfl) (fe_c pe_non (fun _ _ => .non))) rfl (Or.inl rfl))
  (ss_cons (st_set sc_law_moves.nd rfl (Or.inl rfl) (fe_call rfl (ok_law_next T) (hr.mono (by decide)) rfl T.m_law_next T.F_law_next.kp T.b_law_next tk (fa_cons (fe_v (pv 2)) (fa_cons (fe_v (pv 4)) (fa_cons (fe_tup (by show _ ≤ sizeLine; decide) (fa_cons (fe_v (pv 7)) (fa_cons (fe_v (pv 8)) fa_nil rfl) rfl)) fa_nil rfl) rfl) rfl) (by decide) rfl rfl) rfl (Or.inl rfl))
  (ss_one (st_if (PW.pt (ft_and (ft_cmp op_notN ops_notN (fe_v (pv 9)) (fe_c pe_non (fun _ _ => .non)) (nomark _)) (pw_and1 (ft_cmp op_lt ops_B (fe_cb (pe_callB call_abs rfl T.z_abs (by decide +kernel) (fa_cons (fe_v (pv 9)) fa_nil rfl)) cs_abs) (fe_bin op_sub ops_sub (fe_bin op_powW ops_pow (fe_c pe_int (fun _ _ => .int _)) (fe_c pe_int (fun _ _ => .int _))) (fe_c pe_int (fun _ _ => .int _))) (nomark _)))))
  (ss_cons (st_expr (fe_bm (t := .lst) rfl (pe_bm PySem.F.plainAttrs_list PySem.F.slot_list_append PySem.F.type_list_append mt_append (fe_v (pv 5)) (fa_cons (fe_tup (by show _ ≤ sizeLine; decide) (fa_cons (fe_v (pv 7)) (fa_cons (fe_v (pv 8)) fa_nil rfl) rfl)) fa_nil rfl)) ms_append) rfl)
  (ss_one (st_sto (hu_of hr) (fe_v (pv 4)) (fe_ix rfl (hu_of hr) (fe_ix rfl (hu_of hr) (fe_v (pv 2)) (fe_v (pv 7)) (fun _ _ => rfl)) (fe_c pe_int (fun _ _ => .int _)) (fun _ _ => rfl)) (fe_v (pv 9)) (fun _ => rfl) rfl rfl rfl)))
  ss_nil))))) (fun _ => rfl))
  (ss_one (st_ret (fe_tup (by show _ ≤ sizeLine; decide) (fa_cons (fe_v (pv 5)) (fa_cons (fe_v (pv 4)) fa_nil rfl) rfl)))))))
theorem sc_law_rng : FnScope ["script", "digits", "seed", "number", "far"] ["script"] (defScope s_law_rng) := ⟨rfl, rfl, rfl, by decide +kernel, rfl, by decide +kernel, by decide +kernel⟩
theorem ok_law_rng (T : Tops K mg A) : FnOk P w K mg base (L2N.CX P w) 1 A.f_law_rng A.d_law_rng ["script"] (spF K (Tb A) 1 G_law_rng) := by
  unfold G_law_rng
  exact (fn_go T.F_law_rng sc_law_rng fun cdv Ar outer s H E g W hr tk =>
  (ss_cons (st_asg (sl := [1, 2]) (fe_tup (by show _ ≤ sizeLine; decide) (fa_cons (fe_c pe_int (fun _ _ => .int _)) (fa_cons (fe_c pe_int (fun _ _ => .int _)) fa_nil rfl) rfl)) (gt_tup rfl rfl (gts_cons (a := [1]) (b := [2]) (c := [1, 2]) (gt_name sc_law_rng.nd rfl (Or.inl rfl) (Or.inl rfl)) (gts_cons (a := [2]) (b := []) (c := [2]) (gt_name sc_law_rng.nd rfl (Or.inl rfl) (Or.inl rfl)) gts_nil (by decide) (by decide) rfl) (by decide) (by decide) rfl) rfl rfl) rfl rfl rfl)
  (ss_cons (st_for (sl := [3]) PassesOwn.leaving rfl (fi_seq rfl (fe_sl rfl (fe_v (pv 0)) po_none (po_some (fe_c pe_int (fun _ _ => .int _))))) (gt_name sc_law_rng.nd rfl (Or.inl rfl) (Or.inl rfl))
  (ss_cons (st_set sc_law_rng.nd rfl (Or.inl rfl) (fe_cb (pe_callB call_abs rfl T.z_abs (by decide +kernel) (fa_cons (fe_v (pv 3)) fa_nil rfl)) cs_abs) rfl (Or.inl rfl))
  (ss_cons (st_if (ft_cmp op_ge ops_B (fe_v (pv 4)) (fe_bin op_powW ops_pow (fe_c pe_int (fun _ _ => .int _)) (fe_c pe_int (fun _ _ => .int _))) (nomark _))
  (ss_one (st_set sc_law_rng.nd rfl (Or.inl rfl) (fe_bin op_addA ops_add (fe_bin op_mulW ops_mulI (fe_v (pv 1)) (fe_bin op_powW ops_pow (fe_c pe_int (fun _ _ => .int _)) (fe_c pe_int (fun _ _ => .int _)))) (fe_bin op_mod ops_mod (fe_cb (pe_callTy call_int1 rfl T.z_int (by decide +kernel) (fa_cons (fe_v (pv 4)) fa_nil rfl)) cs_int) (fe_bin op_powW ops_pow (fe_c pe_int (fun _ _ => .int _)) (fe_c pe_int (fun _ _ => .int _))))) rfl (Or.inl rfl)))
  ss_nil)
  (ss_one (st_set sc_law_rng.nd rfl (Or.inl rfl) (fe_bin op_mod ops_mod (fe_cb (pe_callTy call_int1 rfl T.z_int (by decide +kernel) (fa_cons (fe_bin op_addA ops_add (fe_bin op_addA ops_add (fe_bin op_mulW ops_mulI (fe_v (pv 2)) (fe_c pe_int (fun _ _ => .int _))) (fe_bin op_mod ops_mod (fe_cb (pe_callTy call_int1 rfl T.z_int (by decide +kernel) (fa_cons (fe_v (pv 3)) fa_nil rfl)) cs_int) (fe_c pe_int (fun _ _ => .int _)))) (fe_c pe_int (fun _ _ => .int _))) fa_nil rfl)) cs_int) (fe_c pe_int (fun _ _ => .int _))) rfl (Or.inl rfl))))) (fun _ => rfl))
  (ss_one (st_ret (fe_cell (fn_lst (by show _ ≤ sizeLine; decide) (fa_cons (fe_v (pv 1)) (fa_cons (fe_v (pv 2)) (fa_cons (fe_c pe_int (fun _ _ => .int _)) fa_nil rfl) rfl) rfl))))))))
theorem sc_law_end : FnScope ["rng", "far"] ["rng", "far"] (defScope s_law_end) := ⟨rfl, rfl, rfl, by decide +kernel, rfl, by decide +kernel, by decide +kernel⟩
theorem ok_law_end (T : Tops K mg A) : FnOk P w K mg base (L2N.CX P w) 2 A.f_law_end A.d_law_end ["rng", "far"] (spF K (Tb A) 2 G_law_end) := by
  unfold G_law_end
  exact (fn_go T.F_law_end sc_law_end fun cdv Ar outer s H E g W hr tk =>
  (ss_one (st_ret (fe_ix rfl (hu_of hr) (fe_new (fn_lst (by show _ ≤ sizeLine; decide) (fa_cons (fe_c pe_non (fun _ _ => .non)) (fa_cons (fe_bin op_sub ops_sub (fe_call rfl (ok_law_draw T) (hr.mono (by decide)) rfl T.m_law_draw T.F_law_draw.kp T.b_law_draw tk (fa_cons (fe_v (pv 0)) (fa_cons (fe_c pe_int (fun _ _ => .int _)) fa_nil rfl) rfl) (by decide) rfl rfl) (fe_c pe_int (fun _ _ => .int _))) (fa_cons (fe_bin op_sub ops_sub (fe_call rfl (ok_law_draw T) (hr.mono (by decide)) rfl T.m_law_draw T.F_law_draw.kp T.b_law_draw tk (fa_cons (fe_v (pv 0)) (fa_cons (fe_c pe_int (fun _ _ => .int _)) fa_nil rfl) rfl) (by decide) rfl rfl) (fe_c pe_int (fun _ _ => .int _))) (fa_cons (fe_v (pv 1)) fa_nil rfl) rfl) rfl) rfl))) (fe_call rfl (ok_law_draw T) (hr.mono (by decide)) rfl T.m_law_draw T.F_law_draw.kp T.b_law_draw tk (fa_cons (fe_v (pv 0)) (fa_cons (fe_c pe_int (fun _ _ => .int _)) fa_nil rfl) rfl) (by decide) rfl rfl) (fun _ _ => rfl)))))
theorem sc_law_within : FnScope ["rng", "far", "low", "high"] ["rng", "far"] (defScope s_law_within) := ⟨rfl, rfl, rfl, by decide +kernel, rfl, by decide +kernel, by decide +kernel⟩
theorem ok_law_within (T : Tops K mg A) : FnOk P w K mg base (L2N.CX P w) 3 A.f_law_within A.d_law_within ["rng", "far"] (spF K (Tb A) 2 G_law_within) := by
  unfold G_law_within
  exact (fn_go T.F_law_within sc_law_within fun cdv Ar outer s H E g W hr tk =>
  (ss_cons (st_par rfl sc_law_within.nd rfl rfl (by decide) rfl rfl (fe_call rfl (ok_law_end T) (hr.mono (by decide)) rfl T.m_law_end T.F_law_end.kp T.b_law_end tk (fa_cons (fe_v (pv 0)) (fa_cons (fe_bin op_sub ops_sub (fe_c pe_int (fun _ _ => .int _)) (fe_v (pv 1))) fa_nil rfl) rfl) (by decide) rfl rfl) (fe_call rfl (ok_law_end T) (hr.mono (by decide)) rfl T.m_law_end T.F_law_end.kp T.b_law_end tk (fa_cons (fe_v (pv 0)) (fa_cons (fe_v (pv 1)) fa_nil rfl) rfl) (by decide) rfl rfl) rfl rfl rfl rfl)
  (ss_cons (st_if (PW.pt (ft_and (ft_cmp op_notN ops_notN (fe_v (pv 2)) (fe_c pe_non (fun _ _ => .non)) (nomark _)) (ft_and (ft_cmp op_notN ops_notN (fe_v (pv 3)) (fe_c pe_non (fun _ _ => .non)) (nomark _)) (pw_and1 (ft_cmp op_gt ops_B (fe_v (pv 2)) (fe_v (pv 3)) (nomark _))))))
  (ss_one (st_ret (fe_tup (by show _ ≤ sizeLine; decide) (fa_cons (fe_v (pv 3)) (fa_cons (fe_v (pv 2)) fa_nil rfl) rfl))))
  ss_nil)
  (ss_one (st_ret (fe_tup (by show _ ≤ sizeLine; decide) (fa_cons (fe_v (pv 2)) (fa_cons (fe_v (pv 3)) fa_nil rfl) rfl)))))))
theorem sc_law_rule : FnScope ["rng", "words", "far", "conditions", "turn", "first", "last", "size", "plus"] ["rng", "words", "far"] (defScope s_law_rule) := ⟨rfl, rfl, rfl, by decide +kernel, rfl, by decide +kernel, by decide +kernel⟩
theorem ok_law_rule (T : Tops K mg A) : FnOk P w K mg base (L2N.CX P w) 4 A.f_law_rule A.d_law_rule ["rng", "words", "far"] (spF K (Tb A) 3 G_law_rule) := by
  unfold G_law_rule
  exact fn_seal (T := Tb A) (fn_go T.F_law_rule sc_law_rule fun cdv Ar outer s H E g W hr tk =>
  (ss_cons (st_set sc_law_rule.nd rfl (Or.inl rfl) (fe_cell (fn_lst (by show _ ≤ sizeLine; decide) fa_nil)) rfl (Or.inl rfl))
  (ss_cons (st_for (sl := [4]) PassesOwn.leaving rfl (fi_rng1 rfl T.z_range (fe_cb (pe_callB (call_max2 rfl) rfl T.z_max (by decide +kernel) (fa_cons (fe_c pe_int (fun _ _ => .int _)) (fa_cons (fe_bin op_sub ops_sub (fe_call rfl (ok_law_draw T) (hr.mono (by decide)) rfl T.m_law_draw T.F_law_draw.kp T.b_law_draw tk (fa_cons (fe_v (pv 0)) (fa_cons (fe_c pe_int (fun _ _ => .int _)) fa_nil rfl) rfl) (by decide) rfl rfl) (fe_c pe_int (fun _ _ => .int _))) fa_nil rfl) rfl)) cs_2I) rfl rfl) (gt_name sc_law_rule.nd rfl (Or.inl rfl) (Or.inl rfl))
  (ss_one (st_expr (fe_bm (t := .lst) rfl (pe_bm PySem.F.plainAttrs_list PySem.F.slot_list_append PySem.F.type_list_append mt_append (fe_v (pv 3)) (fa_cons (fe_tup (by show _ ≤ sizeLine; decide) (fa_cons (fe_ix rfl (hu_of hr) (fe_v (pv 1)) (fe_call rfl (ok_law_draw T) (hr.mono (by decide)) rfl T.m_law_draw T.F_law_draw.kp T.b_law_draw tk (fa_cons (fe_v (pv 0)) (fa_cons (fe_cb (pe_callB call_len rfl T.z_len (by decide +kernel) (fa_cons (fe_v (pv 1)) fa_nil rfl)) cs_len) fa_nil rfl) rfl) (by decide) rfl rfl) (fun _ _ => rfl)) (fa_cons (fe_call rfl (ok_law_within T) (hr.mono (by decide)) rfl T.m_law_within T.F_law_within.kp T.b_law_within tk (fa_cons (fe_v (pv 0)) (fa_cons (fe_v (pv 2)) fa_nil rfl) rfl) (by decide) rfl rfl) fa_nil rfl) rfl)) fa_nil rfl)) ms_append) rfl)) (fun _ => rfl))
  (ss_cons (st_par rfl sc_law_rule.nd rfl rfl (by decide) rfl rfl (fe_ix rfl (hu_of hr) (fe_v (pv 1)) (fe_call rfl (ok_law_draw T) (hr.mono (by decide)) rfl T.m_law_draw T.F_law_draw.kp T.b_law_draw tk (fa_cons (fe_v (pv 0)) (fa_cons (fe_cb (pe_callB call_len rfl T.z_len (by decide +kernel) (fa_cons (fe_v (pv 1)) fa_nil rfl)) cs_len) fa_nil rfl) rfl) (by decide) rfl rfl) (fun _ _ => rfl)) (fe_ix rfl (hu_of hr) (fe_v (pv 1)) (fe_call rfl (ok_law_draw T) (hr.mono (by decide)) rfl T.m_law_draw T.F_law_draw.kp T.b_law_draw tk (fa_cons (fe_v (pv 0)) (fa_cons (fe_cb (pe_callB call_len rfl T.z_len (by decide +kernel) (fa_cons (fe_v (pv 1)) fa_nil rfl)) cs_len) fa_nil rfl) rfl) (by decide) rfl rfl) (fun _ _ => rfl)) rfl rfl rfl rfl)
  (ss_cons (st_if (ft_cmp (op_eqAll (hu65 hr)) ops_eq2 (fe_call rfl (ok_law_draw T) (hr.mono (by decide)) rfl T.m_law_draw T.F_law_draw.kp T.b_law_draw tk (fa_cons (fe_v (pv 0)) (fa_cons (fe_c pe_int (fun _ _ => .int _)) fa_nil rfl) rfl) (by decide) rfl rfl) (fe_c pe_int (fun _ _ => .int _)) (nomark _))
  (ss_one (st_ret (fe_tup (by show _ ≤ sizeLine; decide) (fa_cons (fe_c pe_str (fun _ _ => .str _)) (fa_cons (fe_v (pv 5)) (fa_cons (fe_call rfl (ok_law_within T) (hr.mono (by decide)) rfl T.m_law_within T.F_law_within.kp T.b_law_within tk (fa_cons (fe_v (pv 0)) (fa_cons (fe_v (pv 2)) fa_nil rfl) rfl) (by decide) rfl rfl) (fa_cons (fe_cb (pe_callTy call_tuple_of rfl T.z_tuple (by decide +kernel) (fa_cons (fe_v (pv 3)) fa_nil rfl)) cs_tuple) fa_nil rfl) rfl) rfl) rfl))))
  ss_nil)
  (ss_cons (st_set sc_law_rule.nd rfl (Or.inl rfl) (fe_ix rfl (hu_of hr) (fe_new (fn_lst (by show _ ≤ sizeLine; decide) (fa_cons (fe_c pe_int (fun _ _ => .int _)) (fa_cons (fe_c pe_int (fun _ _ => .int _)) (fa_cons (fe_c pe_int (fun _ _ => .int _)) (fa_cons (fe_neg (fe_c pe_int (fun _ _ => .int _))) (fa_cons (fe_c pe_int (fun _ _ => .int _)) (fa_cons (fe_neg (fe_c pe_int (fun _ _ => .int _))) (fa_cons (fe_bin op_addA ops_add (fe_c pe_int (fun _ _ => .int _)) (fe_call rfl (ok_law_draw T) (hr.mono (by decide)) rfl T.m_law_draw T.F_law_draw.kp T.b_law_draw tk (fa_cons (fe_v (pv 0)) (fa_cons (fe_c pe_int (fun _ _ => .int _)) fa_nil rfl) rfl) (by decide) rfl rfl)) (fa_cons (fe_bin op_sub ops_sub (fe_bin op_sub ops_sub (fe_c pe_int (fun _ _ => .int _)) (fe_c pe_int (fun _ _ => .int _))) (fe_call rfl (ok_law_draw T) (hr.mono (by decide)) rfl T.m_law_draw T.F_law_draw.kp T.b_law_draw tk (fa_cons (fe_v (pv 0)) (fa_cons (fe_c pe_int (fun _ _ => .int _)) fa_nil rfl) rfl) (by decide) rfl rfl)) fa_nil rfl) rfl) rfl) rfl) rfl) rfl) rfl) rfl))) (fe_call rfl (ok_law_draw T) (hr.mono (by decide)) rfl T.m_law_draw T.F_law_draw.kp T.b_law_draw tk (fa_cons (fe_v (pv 0)) (fa_cons (fe_c pe_int (fun _ _ => .int _)) fa_nil rfl) rfl) (by decide) rfl rfl) (fun _ _ => rfl)) rfl (Or.inl rfl))
  (ss_cons (st_set sc_law_rule.nd rfl (Or.inl rfl) (fe_ix rfl (hu_of hr) (fe_new (fn_lst (by show _ ≤ sizeLine; decide) (fa_cons (fe_c pe_int (fun _ _ => .int _)) (fa_cons (fe_c pe_int (fun _ _ => .int _)) (fa_cons (fe_neg (fe_c pe_int (fun _ _ => .int _))) (fa_cons (fe_bin op_sub ops_sub (fe_call rfl (ok_law_draw T) (hr.mono (by decide)) rfl T.m_law_draw T.F_law_draw.kp T.b_law_draw tk (fa_cons (fe_v (pv 0)) (fa_cons (fe_c pe_int (fun _ _ => .int _)) fa_nil rfl) rfl) (by decide) rfl rfl) (fe_c pe_int (fun _ _ => .int _))) (fa_cons (fe_bin op_sub ops_sub (fe_call rfl (ok_law_draw T) (hr.mono (by decide)) rfl T.m_law_draw T.F_law_draw.kp T.b_law_draw tk (fa_cons (fe_v (pv 0)) (fa_cons (fe_c pe_int (fun _ _ => .int _)) fa_nil rfl) rfl) (by decide) rfl rfl) (fe_c pe_int (fun _ _ => .int _))) (fa_cons (fe_v (pv 2)) (fa_cons (fe_bin op_sub ops_sub (fe_c pe_int (fun _ _ => .int _)) (fe_v (pv 2))) fa_nil rfl) rfl) rfl) rfl) rfl) rfl) rfl))) (fe_call rfl (ok_law_draw T) (hr.mono (by decide)) rfl T.m_law_draw T.F_law_draw.kp T.b_law_draw tk (fa_cons (fe_v (pv 0)) (fa_cons (fe_c pe_int (fun _ _ => .int _)) fa_nil rfl) rfl) (by decide) rfl rfl) (fun _ _ => rfl)) rfl (Or.inl rfl))
  (ss_one (st_ret (fe_tup (by show _ ≤ sizeLine; decide) (fa_cons (fe_c pe_str (fun _ _ => .str _)) (fa_cons (fe_v (pv 5)) (fa_cons (fe_v (pv 6)) (fa_cons (fe_v (pv 7)) (fa_cons (fe_v (pv 8)) (fa_cons (fe_call rfl (ok_law_within T) (hr.mono (by decide)) rfl T.m_law_within T.F_law_within.kp T.b_law_within tk (fa_cons (fe_v (pv 0)) (fa_cons (fe_v (pv 2)) fa_nil rfl) rfl) (by decide) rfl rfl) (fa_cons (fe_cb (pe_callTy call_tuple_of rfl T.z_tuple (by decide +kernel) (fa_cons (fe_v (pv 3)) fa_nil rfl)) cs_tuple) fa_nil rfl) rfl) rfl) rfl) rfl) rfl) rfl)))))))))))
theorem sc_law_rows : FnScope ["rng", "words", "most", "far", "rows", "low", "turn"] ["rng", "words", "most"] (defScope s_law_rows) := ⟨rfl, rfl, rfl, by decide +kernel, rfl, by decide +kernel, by decide +kernel⟩
theorem ok_law_rows (T : Tops K mg A) : FnOk P w K mg base (L2N.CX P w) 5 A.f_law_rows A.d_law_rows ["rng", "words", "most"] (spF K (Tb A) 3 G_law_rows) := by
  unfold G_law_rows
  exact fn_seal (T := Tb A) (fn_go T.F_law_rows sc_law_rows fun cdv Ar outer s H E g W hr tk =>
  (ss_cons (st_par rfl sc_law_rows.nd rfl rfl (by decide) rfl rfl (fe_ix rfl (hu_of hr) (fe_new (fn_lst (by show _ ≤ sizeLine; decide) (fa_cons (fe_c pe_int (fun _ _ => .int _)) (fa_cons (fe_bin op_powW ops_pow (fe_c pe_int (fun _ _ => .int _)) (fe_c pe_int (fun _ _ => .int _))) (fa_cons (fe_bin op_powW ops_pow (fe_c pe_int (fun _ _ => .int _)) (fe_c pe_int (fun _ _ => .int _))) fa_nil rfl) rfl) rfl))) (fe_call rfl (ok_law_draw T) (hr.mono (by decide)) rfl T.m_law_draw T.F_law_draw.kp T.b_law_draw tk (fa_cons (fe_v (pv 0)) (fa_cons (fe_c pe_int (fun _ _ => .int _)) fa_nil rfl) rfl) (by decide) rfl rfl) (fun _ _ => rfl)) (fe_cell (fn_lst (by show _ ≤ sizeLine; decide) fa_nil)) rfl rfl rfl rfl)
  (ss_cons (st_if (PW.pt (ft_and (ft_cmp op_gt ops_B (fe_call rfl (ok_law_draw T) (hr.mono (by decide)) rfl T.m_law_draw T.F_law_draw.kp T.b_law_draw tk (fa_cons (fe_v (pv 0)) (fa_cons (fe_c pe_int (fun _ _ => .int _)) fa_nil rfl) rfl) (by decide) rfl rfl) (fe_c pe_int (fun _ _ => .int _)) (nomark _)) (pw_and1 (ft_cmp op_gt ops_B (fe_v (pv 2)) (fe_c pe_int (fun _ _ => .int _)) (nomark _)))))
  (ss_cons (st_set sc_law_rows.nd rfl (Or.inl rfl) (fe_bin op_sub ops_sub (fe_call rfl (ok_law_draw T) (hr.mono (by decide)) rfl T.m_law_draw T.F_law_draw.kp T.b_law_draw tk (fa_cons (fe_v (pv 0)) (fa_cons (fe_c pe_int (fun _ _ => .int _)) fa_nil rfl) rfl) (by decide) rfl rfl) (fe_c pe_int (fun _ _ => .int _))) rfl (Or.inl rfl))
  (ss_one (st_expr (fe_bm (t := .lst) rfl (pe_bm PySem.F.plainAttrs_list PySem.F.slot_list_append PySem.F.type_list_append mt_append (fe_v (pv 4)) (fa_cons (fe_tup (by show _ ≤ sizeLine; decide) (fa_cons (fe_c pe_str (fun _ _ => .str _)) (fa_cons (fe_ix rfl (hu_of hr) (fe_v (pv 1)) (fe_c pe_int (fun _ _ => .int _)) (fun _ _ => rfl)) (fa_cons (fe_tup (by show _ ≤ sizeLine; decide) (fa_cons (fe_v (pv 5)) (fa_cons (fe_bin op_addA ops_add (fe_v (pv 5)) (fe_call rfl (ok_law_draw T) (hr.mono (by decide)) rfl T.m_law_draw T.F_law_draw.kp T.b_law_draw tk (fa_cons (fe_v (pv 0)) (fa_cons (fe_c pe_int (fun _ _ => .int _)) fa_nil rfl) rfl) (by decide) rfl rfl)) fa_nil rfl) rfl)) (fa_cons (fe_tup (by decide) fa_nil) fa_nil rfl) rfl) rfl) rfl)) fa_nil rfl)) ms_append) rfl)))
  ss_nil)
  (ss_cons (st_for (sl := [6]) PassesOwn.leaving rfl (fi_rng1 rfl T.z_range (fe_call rfl (ok_law_draw T) (hr.mono (by decide)) rfl T.m_law_draw T.F_law_draw.kp T.b_law_draw tk (fa_cons (fe_v (pv 0)) (fa_cons (fe_bin op_sub ops_sub (fe_bin op_addA ops_add (fe_v (pv 2)) (fe_c pe_int (fun _ _ => .int _))) (fe_cb (pe_callB call_len rfl T.z_len (by decide +kernel) (fa_cons (fe_v (pv 4)) fa_nil rfl)) cs_len)) fa_nil rfl) rfl) (by decide) rfl rfl) rfl rfl) (gt_name sc_law_rows.nd rfl (Or.inl rfl) (Or.inl rfl))
  (ss_one (st_expr (fe_bm (t := .lst) rfl (pe_bm PySem.F.plainAttrs_list PySem.F.slot_list_append PySem.F.type_list_append mt_append (fe_v (pv 4)) (fa_cons (fe_call rfl (ok_law_rule T) (hr.mono (by decide)) rfl T.m_law_rule T.F_law_rule.kp T.b_law_rule tk (fa_cons (fe_v (pv 0)) (fa_cons (fe_v (pv 1)) (fa_cons (fe_v (pv 3)) fa_nil rfl) rfl) rfl) (by decide) rfl rfl) fa_nil rfl)) ms_append) rfl)) (fun _ => rfl))
  (ss_one (st_ret (fe_v (pv 4))))))))
theorem sc_law_words : FnScope ["rng", "many", "left", "some", "turn", "word"] ["rng", "many"] (defScope s_law_words) := ⟨rfl, rfl, rfl, by decide +kernel, rfl, by decide +kernel, by decide +kernel⟩
theorem ok_law_words (T : Tops K mg A) : FnOk P w K mg base (L2N.CX P w) 2 A.f_law_words A.d_law_words ["rng", "many"] (spF K (Tb A) 2 G_law_words) := by
  unfold G_law_words
  exact fn_seal (T := Tb A) (fn_go T.F_law_words sc_law_words fun cdv Ar outer s H E g W hr tk =>
  (ss_cons (st_par rfl sc_law_words.nd rfl rfl (by decide) rfl rfl (fe_cell (fn_lst (by show _ ≤ sizeLine; decide) (fa_cons (fe_c pe_str (fun _ _ => .str _)) (fa_cons (fe_c pe_str (fun _ _ => .str _)) (fa_cons (fe_c pe_str (fun _ _ => .str _)) (fa_cons (fe_c pe_str (fun _ _ => .str _)) (fa_cons (fe_c pe_str (fun _ _ => .str _)) (fa_cons (fe_c pe_str (fun _ _ => .str _)) fa_nil rfl) rfl) rfl) rfl) rfl) rfl))) (fe_cell (fn_lst (by show _ ≤ sizeLine; decide) fa_nil)) rfl rfl rfl rfl)
  (ss_cons (st_for (sl := [4]) PassesOwn.leaving rfl (fi_rng1 rfl T.z_range (fe_v (pv 1)) rfl rfl) (gt_name sc_law_words.nd rfl (Or.inl rfl) (Or.inl rfl))
  (ss_one (st_expr (fe_bm (t := .lst) rfl (pe_bm PySem.F.plainAttrs_list PySem.F.slot_list_append PySem.F.type_list_append mt_append (fe_v (pv 3)) (fa_cons (fe_bm (t := .lst) rfl (pe_bm PySem.F.plainAttrs_list PySem.F.slot_list_pop PySem.F.type_list_pop mt_popAt (fe_v (pv 2)) (fa_cons (fe_call rfl (ok_law_draw T) (hr.mono (by decide)) rfl T.m_law_draw T.F_law_draw.kp T.b_law_draw tk (fa_cons (fe_v (pv 0)) (fa_cons (fe_cb (pe_callB call_len rfl T.z_len (by decide +kernel) (fa_cons (fe_v (pv 2)) fa_nil rfl)) cs_len) fa_nil rfl) rfl) (by decide) rfl rfl) fa_nil rfl)) ms_pop1) fa_nil rfl)) ms_append) rfl)) (fun _ => rfl))
  (ss_one (st_ret (fe_if (ft_cmp (op_eqAll (hu65 hr)) ops_eq2 (fe_call rfl (ok_law_draw T) (hr.mono (by decide)) rfl T.m_law_draw T.F_law_draw.kp T.b_law_draw tk (fa_cons (fe_v (pv 0)) (fa_cons (fe_c pe_int (fun _ _ => .int _)) fa_nil rfl) rfl) (by decide) rfl rfl) (fe_c pe_int (fun _ _ => .int _)) (nomark _)) (fe_new (fn_lc (o := ⟨K, Tb A, g⟩) (own := [(("word" : Str), 5)]) (sl := [5]) rfl sc_law_words.nd (fi_seq rfl (fe_v (pv 3))) (blkOk_by (N := ["rng", "many", "left", "some", "turn", "word"]) (sc := defScope s_law_words) (own := [(("word" : Str), 5)]) (by decide +kernel)) (by decide) (fun _ _ _ _ _ => PG.ex fun g => (gt_name sc_law_words.nd rfl (Or.inl rfl) (Or.inr rfl))) (fun _ _ _ _ _ => yes_T) (fun _ _ _ _ _ => PE.ex fun g => (fe_bin op_addA ops_add (fe_c pe_str (fun _ _ => .str _)) (fe_sl rfl (fe_v (pv 5)) po_none (po_some (fe_c pe_int (fun _ _ => .int _)))))) (fun _ => rfl))) (fe_v (pv 3))))))))
theorem sc_is_in : FnScope ["value", "one", "low", "high"] ["value", "one"] (defScope s_is_in) := ⟨rfl, rfl, rfl, by decide +kernel, rfl, by decide +kernel, by decide +kernel⟩
theorem ok_is_in (T : Tops K mg A) : FnOk P w K mg base (L2N.CX P w) 1 A.f_is_in A.d_is_in ["value", "one"] (spF K (Tb A) 2 G_is_in) := by
  unfold G_is_in
  exact (fn_go T.F_is_in sc_is_in fun cdv Ar outer s H E g W hr tk =>
  (ss_cons (st_asg (sl := [2, 3]) (fe_v (pv 1)) (gt_tup rfl rfl (gts_cons (a := [2]) (b := [3]) (c := [2, 3]) (gt_name sc_is_in.nd rfl (Or.inl rfl) (Or.inl rfl)) (gts_cons (a := [3]) (b := []) (c := [3]) (gt_name sc_is_in.nd rfl (Or.inl rfl) (Or.inl rfl)) gts_nil (by decide) (by decide) rfl) (by decide) (by decide) rfl) rfl rfl) rfl rfl rfl)
  (ss_one (st_ret (fe_and (fe_cmp op_notN ops_notN (fe_v (pv 0)) (fe_c pe_non (fun _ _ => .non)) (nomark _)) (fe_and (fe_or (fe_cmp op_isN ops_isN (fe_v (pv 2)) (fe_c pe_non (fun _ _ => .non)) (nomark _)) (pe_one (fe_cmp op_le ops_B (fe_v (pv 2)) (fe_v (pv 0)) (nomark _)))) (pe_one (fe_or (fe_cmp op_isN ops_isN (fe_v (pv 3)) (fe_c pe_non (fun _ _ => .non)) (nomark _)) (pe_one (fe_cmp op_le ops_B (fe_v (pv 0)) (fe_v (pv 3)) (nomark _)))))))))))
theorem sc_value_given : FnScope ["rule", "values", "value", "name", "one"] ["rule", "values", "value"] (defScope s_value_given) := ⟨rfl, rfl, rfl, by decide +kernel, rfl, by decide +kernel, by decide +kernel⟩
theorem ok_value_given (T : Tops K mg A) : FnOk P w K mg base (L2N.CX P w) 2 A.f_value_given A.d_value_given ["rule", "values", "value"] (spF K (Tb A) 3 G_value_given) := by
  unfold G_value_given
  exact (fn_go T.F_value_given sc_value_given fun cdv Ar outer s H E g W hr tk =>
  (ss_cons (st_if (ft_not (ft_val (fe_cb (pe_callB (cr_all rfl) rfl T.z_all (by decide +kernel) (fa_cons (fe_new (fn_lc (o := ⟨K, Tb A, g⟩) (own := [(("name" : Str), 3), (("one" : Str), 4)]) (sl := [3, 4]) rfl sc_value_given.nd (fi_seq rfl (fe_ix rfl (hu_of hr) (fe_v (pv 0)) (fe_neg (fe_c pe_int (fun _ _ => .int _))) (fun _ _ => rfl))) (blkOk_by (N := ["rule", "values", "value", "name", "one"]) (sc := defScope s_value_given) (own := [(("name" : Str), 3), (("one" : Str), 4)]) (by decide +kernel)) (by decide) (fun _ _ _ _ _ => PG.ex fun g => (gt_tup rfl rfl (gts_cons (a := [3]) (b := [4]) (c := [3, 4]) (gt_name sc_value_given.nd rfl (Or.inl rfl) (Or.inr rfl)) (gts_cons (a := [4]) (b := []) (c := [4]) (gt_name sc_value_given.nd rfl (Or.inl rfl) (Or.inr rfl)) gts_nil (by decide) (by decide) rfl) (by decide) (by decide) rfl) rfl rfl)) (fun _ _ _ _ _ => yes_T) (fun _ _ _ _ _ => PE.ex fun g => (fe_call rfl (ok_is_in T) (hr.mono (by decide)) rfl T.m_is_in T.F_is_in.kp T.b_is_in takes_no (fa_cons (fe_ix rfl (hu_of hr) (fe_v (pv 1)) (fe_v (pv 3)) (fun _ _ => rfl)) (fa_cons (fe_v (pv 4)) fa_nil rfl) rfl) (by decide) rfl rfl)) (fun _ => rfl))) fa_nil rfl)) cs_bls) (fun _ => rfl)))
  (ss_one (st_ret (fe_c pe_non (fun _ _ => .non))))
  ss_nil)
  (ss_cons (st_if (ft_cmp (op_eqAll (hu65 hr)) ops_eq2 (fe_ix rfl (hu_of hr) (fe_v (pv 0)) (fe_c pe_int (fun _ _ => .int _)) (fun _ _ => rfl)) (fe_c (v := (.str ("set" : Str))) (pe_glob rfl T.v_SET ⟨_, rfl⟩) (fun _ _ => .str _)) (nomark _))
  (ss_one (st_ret (fe_if (ft_val (fe_call rfl (ok_is_in T) (hr.mono (by decide)) rfl T.m_is_in T.F_is_in.kp T.b_is_in tk (fa_cons (fe_v (pv 2)) (fa_cons (fe_ix rfl (hu_of hr) (fe_v (pv 0)) (fe_c pe_int (fun _ _ => .int _)) (fun _ _ => rfl)) fa_nil rfl) rfl) (by decide) rfl rfl) (fun _ => rfl)) (fe_v (pv 2)) (fe_c pe_non (fun _ _ => .non)))))
  ss_nil)
  (ss_cons (st_if (PW.pt (ft_or (ft_cmp op_notN ops_notN (fe_v (pv 2)) (fe_c pe_non (fun _ _ => .non)) (nomark _)) (pw_or1 (ft_not (ft_val (fe_call rfl (ok_is_in T) (hr.mono (by decide)) rfl T.m_is_in T.F_is_in.kp T.b_is_in tk (fa_cons (fe_ix rfl (hu_of hr) (fe_v (pv 1)) (fe_ix rfl (hu_of hr) (fe_v (pv 0)) (fe_c pe_int (fun _ _ => .int _)) (fun _ _ => rfl)) (fun _ _ => rfl)) (fa_cons (fe_ix rfl (hu_of hr) (fe_v (pv 0)) (fe_c pe_int (fun _ _ => .int _)) (fun _ _ => rfl)) fa_nil rfl) rfl) (by decide) rfl rfl) (fun _ => rfl))))))
  (ss_one (st_ret (fe_c pe_non (fun _ _ => .non))))
  ss_nil)
  (ss_one (st_ret (fe_bin op_addA ops_add (fe_bin op_mulW ops_mulI (fe_ix rfl (hu_of hr) (fe_v (pv 0)) (fe_c pe_int (fun _ _ => .int _)) (fun _ _ => rfl)) (fe_ix rfl (hu_of hr) (fe_v (pv 1)) (fe_ix rfl (hu_of hr) (fe_v (pv 0)) (fe_c pe_int (fun _ _ => .int _)) (fun _ _ => rfl)) (fun _ _ => rfl))) (fe_ix rfl (hu_of hr) (fe_v (pv 0)) (fe_c pe_int (fun _ _ => .int _)) (fun _ _ => rfl)))))))))
theorem sc_played : FnScope ["system", "moves", "values", "spot", "number", "value", "rule", "found", "name"] ["system", "moves"] (defScope s_played) := ⟨rfl, rfl, rfl, by decide +kernel, rfl, by decide +kernel, by decide +kernel⟩
theorem ok_played (T : Tops K mg A) : FnOk P w K mg base (L2N.CX P w) 3 A.f_played A.d_played ["system", "moves"] (spF K (Tb A) 2 G_played) := by
  unfold G_played
  exact (fn_go T.F_played sc_played fun cdv Ar outer s H E g W hr tk =>
  (ss_cons (st_dcC (o := ⟨K, Tb A, g⟩) (own := [(("name" : Str), 8)]) (sl := [8]) rfl sc_played.nd rfl rfl (swD_true rfl rfl rfl (by decide +kernel)) (fi_seq rfl (fe_fld (o := ⟨K, Tb A, g⟩) (c := 0) rfl (fe_v (pv 0)) rfl T.l_System T.n_System_kept_names)) (blkOk_by (N := ["system", "moves", "values", "spot", "number", "value", "rule", "found", "name"]) (sc := defScope s_played) (own := [(("name" : Str), 8)]) (by decide +kernel)) (by decide) (fun _ _ _ _ _ => PG.ex fun g => (gt_name sc_played.nd rfl (Or.inl rfl) (Or.inr rfl))) (fun _ _ _ _ _ => yes_T) (fun _ _ _ _ _ => PE.ex fun g => (fe_v (pv 8))) (fun _ _ _ _ _ => PE.ex fun g => (fe_c pe_non (fun _ _ => .non))) (fun _ => rfl))
  (ss_cons (st_for (sl := [3, 4, 5]) PassesOwn.leaving rfl (fi_enum rfl rfl T.z_enumerate (fe_v (pv 1)) rfl rfl) (gt_tup rfl rfl (gts_cons (a := [3]) (b := [4, 5]) (c := [3, 4, 5]) (gt_name sc_played.nd rfl (Or.inl rfl) (Or.inl rfl)) (gts_cons (a := [4, 5]) (b := []) (c := [4, 5]) (gt_tup rfl rfl (gts_cons (a := [4]) (b := [5]) (c := [4, 5]) (gt_name sc_played.nd rfl (Or.inl rfl) (Or.inl rfl)) (gts_cons (a := [5]) (b := []) (c := [5]) (gt_name sc_played.nd rfl (Or.inl rfl) (Or.inl rfl)) gts_nil (by decide) (by decide) rfl) (by decide) (by decide) rfl) rfl rfl) gts_nil (by decide) (by decide) rfl) (by decide) (by decide) rfl) rfl rfl)
  (ss_cons (st_if (ft_not (ft_chain op_le op_lt ops_B ops_B (fe_c pe_int (fun _ _ => .int _)) (fe_v (pv 4)) (fe_cb (pe_callB call_len rfl T.z_len (by decide +kernel) (fa_cons (fe_fld (o := ⟨K, Tb A, g⟩) (c := 0) rfl (fe_v (pv 0)) rfl T.l_System T.n_System_kept_rules) fa_nil rfl)) cs_len) rfl))
  (ss_one (st_ret (fe_tup (by show _ ≤ sizeLine; decide) (fa_cons (fe_v (pv 2)) (fa_cons (fe_v (pv 3)) fa_nil rfl) rfl))))
  ss_nil)
  (ss_cons (st_set sc_played.nd rfl (Or.inl rfl) (fe_ix rfl (hu_of hr) (fe_fld (o := ⟨K, Tb A, g⟩) (c := 0) rfl (fe_v (pv 0)) rfl T.l_System T.n_System_kept_rules) (fe_v (pv 4)) (fun _ _ => rfl)) rfl (Or.inl rfl))
  (ss_cons (st_set sc_played.nd rfl (Or.inl rfl) (fe_call rfl (ok_value_given T) (hr.mono (by decide)) rfl T.m_value_given T.F_value_given.kp T.b_value_given tk (fa_cons (fe_v (pv 6)) (fa_cons (fe_v (pv 2)) (fa_cons (fe_v (pv 5)) fa_nil rfl) rfl) rfl) (by decide) rfl rfl) rfl (Or.inl rfl))
  (ss_cons (st_if (ft_cmp op_isN ops_isN (fe_v (pv 7)) (fe_c pe_non (fun _ _ => .non)) (nomark _))
  (ss_one (st_ret (fe_tup (by show _ ≤ sizeLine; decide) (fa_cons (fe_v (pv 2)) (fa_cons (fe_v (pv 3)) fa_nil rfl) rfl))))
  ss_nil)
  (ss_one (st_sto (hu_of hr) (fe_v (pv 2)) (fe_ix rfl (hu_of hr) (fe_v (pv 6)) (fe_c pe_int (fun _ _ => .int _)) (fun _ _ => rfl)) (fe_v (pv 7)) (fun _ => rfl) rfl rfl rfl)))))) (fun _ => rfl))
  (ss_one (st_ret (fe_tup (by show _ ≤ sizeLine; decide) (fa_cons (fe_v (pv 2)) (fa_cons (fe_cb (pe_callB call_len rfl T.z_len (by decide +kernel) (fa_cons (fe_v (pv 1)) fa_nil rfl)) cs_len) fa_nil rfl) rfl)))))))
theorem sc_values_behind : FnScope ["system", "moves", "values", "many"] ["system", "moves"] (defScope s_values_behind) := ⟨rfl, rfl, rfl, by decide +kernel, rfl, by decide +kernel, by decide +kernel⟩
theorem ok_values_behind (T : Tops K mg A) : FnOk P w K mg base (L2N.CX P w) 4 A.f_values_behind A.d_values_behind ["system", "moves"] (spF K (Tb A) 2 G_values_behind) := by
  unfold G_values_behind
  exact (fn_go T.F_values_behind sc_values_behind fun cdv Ar outer s H E g W hr tk =>
  (ss_cons (st_asg (sl := [2, 3]) (fe_call rfl (ok_played T) (hr.mono (by decide)) rfl T.m_played T.F_played.kp T.b_played tk (fa_cons (fe_v (pv 0)) (fa_cons (fe_v (pv 1)) fa_nil rfl) rfl) (by decide) rfl rfl) (gt_tup rfl rfl (gts_cons (a := [2]) (b := [3]) (c := [2, 3]) (gt_name sc_values_behind.nd rfl (Or.inl rfl) (Or.inl rfl)) (gts_cons (a := [3]) (b := []) (c := [3]) (gt_name sc_values_behind.nd rfl (Or.inl rfl) (Or.inl rfl)) gts_nil (by decide) (by decide) rfl) (by decide) (by decide) rfl) rfl rfl) rfl rfl rfl)
  (ss_cons (st_if (ft_cmp op_lt ops_B (fe_v (pv 3)) (fe_cb (pe_callB call_len rfl T.z_len (by decide +kernel) (fa_cons (fe_v (pv 1)) fa_nil rfl)) cs_len) (nomark _))
  (ss_one st_never)
  ss_nil)
  (ss_one (st_ret (fe_v (pv 2)))))))
theorem sc_law : FnScope ["script", "rng", "lap", "words", "rows", "made", "some", "held", "kept", "told", "due", "spot", "climb", "word"] ["script"] (defScope s_law) := ⟨rfl, rfl, rfl, by decide +kernel, rfl, by decide +kernel, by decide +kernel⟩
theorem ok_law (T : Tops K mg A) : FnOk P w K mg base (L2N.CX P w) 6 A.f_law A.d_law ["script"] (spF K (Tb A) 1 G_law) := by
  unfold G_law
  exact (fn_go T.F_law sc_law fun cdv Ar outer s H E g W hr tk =>
  (ss_cons (st_set sc_law.nd rfl (Or.inl rfl) (fe_call rfl (ok_law_rng T) (hr.mono (by decide)) rfl T.m_law_rng T.F_law_rng.kp T.b_law_rng tk (fa_cons (fe_v (pv 0)) fa_nil rfl) (by decide) rfl rfl) rfl (Or.inl rfl))
  (ss_cons (st_for (sl := [2]) PassesOwn.leaving rfl (fi_rng1 rfl T.z_range (fe_bin op_addA ops_add (fe_c pe_int (fun _ _ => .int _)) (fe_cb (pe_callB (call_min2 rfl) rfl T.z_min (by decide +kernel) (fa_cons (fe_c pe_int (fun _ _ => .int _)) (fa_cons (fe_cb (pe_callB call_len rfl T.z_len (by decide +kernel) (fa_cons (fe_v (pv 0)) fa_nil rfl)) cs_len) fa_nil rfl) rfl)) cs_2I)) rfl rfl) (gt_name sc_law.nd rfl (Or.inl rfl) (Or.inl rfl))
  (ss_cons (st_set sc_law.nd rfl (Or.inl rfl) (fe_call rfl (ok_law_words T) (hr.mono (by decide)) rfl T.m_law_words T.F_law_words.kp T.b_law_words tk (fa_cons (fe_v (pv 1)) (fa_cons (fe_bin op_addA ops_add (fe_c pe_int (fun _ _ => .int _)) (fe_call rfl (ok_law_draw T) (hr.mono (by decide)) rfl T.m_law_draw T.F_law_draw.kp T.b_law_draw tk (fa_cons (fe_v (pv 1)) (fa_cons (fe_c pe_int (fun _ _ => .int _)) fa_nil rfl) rfl) (by decide) rfl rfl)) fa_nil rfl) rfl) (by decide) rfl rfl) rfl (Or.inl rfl))
  (ss_cons (st_set sc_law.nd rfl (Or.inl rfl) (fe_call rfl (ok_law_rows T) (hr.mono (by decide)) rfl T.m_law_rows T.F_law_rows.kp T.b_law_rows tk (fa_cons (fe_v (pv 1)) (fa_cons (fe_v (pv 3)) (fa_cons (fe_c pe_int (fun _ _ => .int _)) fa_nil rfl) rfl) rfl) (by decide) rfl rfl) rfl (Or.inl rfl))
  (ss_cons (st_set sc_law.nd rfl (Or.inl rfl) (fe_makeZ (o := ⟨K, Tb A, g⟩) (c := 0) rfl T.k_System (ok_System_init_ T) (hr.mono (by decide)) rfl T.m_System T.b_System_init_ tk (fa_cons (fe_v (pv 3)) (fa_cons (fe_v (pv 4)) fa_nil rfl) rfl) (by decide) rfl rfl) rfl (Or.inl rfl))
  (ss_cons (st_asg (sl := [6, 7]) (fe_call rfl (ok_law_moves T) (hr.mono (by decide)) rfl T.m_law_moves T.F_law_moves.kp T.b_law_moves tk (fa_cons (fe_v (pv 1)) (fa_cons (fe_v (pv 3)) (fa_cons (fe_v (pv 4)) (fa_cons (fe_ix rfl (hu_of hr) (fe_new (fn_lst (by show _ ≤ sizeLine; decide) (fa_cons (fe_c pe_int (fun _ _ => .int _)) (fa_cons (fe_c pe_int (fun _ _ => .int _)) fa_nil rfl) rfl))) (fe_cb (pe_callTy call_int1 rfl T.z_int (by decide +kernel) (fa_cons (fe_cmp (op_eqAll (hu65 hr)) ops_eq2 (fe_v (pv 2)) (fe_c pe_int (fun _ _ => .int _)) (nomark _)) fa_nil rfl)) cs_int) (fun _ _ => rfl)) fa_nil rfl) rfl) rfl) rfl) (by decide) rfl rfl) (gt_tup rfl rfl (gts_cons (a := [6]) (b := [7]) (c := [6, 7]) (gt_name sc_law.nd rfl (Or.inl rfl) (Or.inl rfl)) (gts_cons (a := [7]) (b := []) (c := [7]) (gt_name sc_law.nd rfl (Or.inl rfl) (Or.inl rfl)) gts_nil (by decide) (by decide) rfl) (by decide) (by decide) rfl) rfl rfl) rfl rfl rfl)
  (ss_cons (st_set sc_law.nd rfl (Or.inl rfl) (fe_new (fn_cb (pe_callTy call_list_of rfl T.z_list (by decide +kernel) (fa_cons (fe_v (pv 6)) fa_nil rfl)) cn_list)) rfl (Or.inl rfl))
  (ss_cons (st_for (sl := [9]) PassesOwn.leaving rfl (fi_seq rfl (fe_tup (by show _ ≤ sizeLine; decide) (fa_cons (fe_call rfl (ok_values_behind T) (hr.mono (by decide)) rfl T.m_values_behind T.F_values_behind.kp T.b_values_behind tk (fa_cons (fe_v (pv 5)) (fa_cons (fe_v (pv 6)) fa_nil rfl) rfl) (by decide) rfl rfl) (fa_cons (fe_callK0 (by decide) (by decide) (by decide) (ok_values_behind T) (hr.mono (by decide)) rfl T.m_values_behind T.F_values_behind.kp (kbn_of (n := 0) (ks := ["moves", "system"]) (ix := [1, 0]) T.F_values_behind fun _ _ _ _ _ _ us ws h1 h2 => match us, ws, h1, h2 with | [], [_, _], _, _ => rfl) tk (fk_cons (fe_v (pv 6)) (fk_cons (fe_v (pv 5)) fk_nil)) rfl rfl (by decide) rfl) fa_nil rfl) rfl))) (gt_name sc_law.nd rfl (Or.inl rfl) (Or.inl rfl))
  (ss_cons (st_if (PW.pt (ft_or (ft_cmp (op_neAll (hu65 hr)) ops_ne2 (fe_v (pv 9)) (fe_v (pv 7)) (nomark _)) (pw_or1 (ft_cmp (op_neAll (hu65 hr)) ops_ne2 (fe_v (pv 6)) (fe_v (pv 8)) (nomark _)))))
  (ss_one (st_ret (fe_c pe_bl (fun _ _ => .bl _))))
  ss_nil)
  (ss_one (st_expr (fe_bm0 (t := .dct) rfl (pe_bm0 PySem.F.plainAttrs_dict PySem.F.slot_dict_clear PySem.F.type_dict_clear mtd_clear (fe_v (pv 9))) ms_dclear) rfl))) (fun _ => rfl))
  (ss_cons (st_set sc_law.nd rfl (Or.inl rfl) (fe_cell (fn_cb (pe_callTy (call_dictP rfl) rfl T.z_dict (by decide +kernel) (fa_cons (fe_new (fn_lc (o := ⟨K, Tb A, g⟩) (own := [(("word" : Str), 13)]) (sl := [13]) rfl sc_law.nd (fi_seq rfl (fe_v (pv 3))) (blkOk_by (N := ["script", "rng", "lap", "words", "rows", "made", "some", "held", "kept", "told", "due", "spot", "climb", "word"]) (sc := defScope s_law) (own := [(("word" : Str), 13)]) (by decide +kernel)) (by decide) (fun _ _ _ _ _ => PG.ex fun g => (gt_name sc_law.nd rfl (Or.inl rfl) (Or.inr rfl))) (fun _ _ _ _ _ => yes_T) (fun _ _ _ _ _ => PE.ex fun g => (fe_tup (by show _ ≤ sizeLine; decide) (fa_cons (fe_v (pv 13)) (fa_cons (fe_c pe_non (fun _ _ => .non)) fa_nil rfl) rfl))) (fun _ => rfl))) fa_nil rfl)) cn_dict)) rfl (Or.inl rfl))
  (ss_cons (st_for (sl := [11]) PassesOwn.leaving rfl (fi_rng1 rfl T.z_range (fe_cb (pe_callB (call_min2 rfl) rfl T.z_min (by decide +kernel) (fa_cons (fe_cb (pe_callB call_len rfl T.z_len (by decide +kernel) (fa_cons (fe_v (pv 6)) fa_nil rfl)) cs_len) (fa_cons (fe_c pe_int (fun _ _ => .int _)) fa_nil rfl) rfl)) cs_2I) rfl rfl) (gt_name sc_law.nd rfl (Or.inl rfl) (Or.inl rfl))
  (ss_cons (st_if (ft_cmp (op_neAll (hu65 hr)) ops_ne2 (fe_call rfl (ok_values_behind T) (hr.mono (by decide)) rfl T.m_values_behind T.F_values_behind.kp T.b_values_behind tk (fa_cons (fe_v (pv 5)) (fa_cons (fe_sl rfl (fe_v (pv 6)) po_none (po_some (fe_v (pv 11)))) fa_nil rfl) rfl) (by decide) rfl rfl) (fe_v (pv 10)) (nomark _))
  (ss_one (st_ret (fe_c pe_bl (fun _ _ => .bl _))))
  ss_nil)
  (ss_one (st_sto (hu_of hr) (fe_v (pv 10)) (fe_ix rfl (hu_of hr) (fe_ix rfl (hu_of hr) (fe_v (pv 4)) (fe_ix rfl (hu_of hr) (fe_ix rfl (hu_of hr) (fe_v (pv 6)) (fe_v (pv 11)) (fun _ _ => rfl)) (fe_c pe_int (fun _ _ => .int _)) (fun _ _ => rfl)) (fun _ _ => rfl)) (fe_c pe_int (fun _ _ => .int _)) (fun _ _ => rfl)) (fe_call rfl (ok_law_next T) (hr.mono (by decide)) rfl T.m_law_next T.F_law_next.kp T.b_law_next tk (fa_cons (fe_v (pv 4)) (fa_cons (fe_v (pv 10)) (fa_cons (fe_ix rfl (hu_of hr) (fe_v (pv 6)) (fe_v (pv 11)) (fun _ _ => rfl)) fa_nil rfl) rfl) rfl) (by decide) rfl rfl) (fun _ => rfl) rfl rfl rfl))) (fun _ => rfl))
  (ss_one (st_if (PW.pt (ft_or (ft_cmp (op_neAll (hu65 hr)) ops_ne2 (fe_call rfl (ok_values_behind T) (hr.mono (by decide)) rfl T.m_values_behind T.F_values_behind.kp T.b_values_behind tk (fa_cons (fe_v (pv 5)) (fa_cons (fe_v (pv 6)) fa_nil rfl) rfl) (by decide) rfl rfl) (fe_v (pv 7)) (nomark _)) (pw_or1 (ft_not (ft_cmp (op_eqI (ok_System_eq_ T) (hr.mono (by decide)) T.e_System T.ef_System T.b_System_eq_) (ops_eqI (o := ⟨K, Tb A, g⟩) (c := 0)) (fe_v (pv 5)) (fe_makeZ (o := ⟨K, Tb A, g⟩) (c := 0) rfl T.k_System (ok_System_init_ T) (hr.mono (by decide)) rfl T.m_System T.b_System_init_ tk (fa_cons (fe_v (pv 3)) (fa_cons (fe_v (pv 4)) fa_nil rfl) rfl) (by decide) rfl rfl) (nomark _))))))
  (ss_one (st_ret (fe_c pe_bl (fun _ _ => .bl _))))
  ss_nil)))))))))) (fun _ => rfl))
  (ss_cons (st_set sc_law.nd rfl (Or.inl rfl) (fe_new (fn_lst (by show _ ≤ sizeLine; decide) (fa_cons (fe_tup (by show _ ≤ sizeLine; decide) (fa_cons (fe_c pe_str (fun _ _ => .str _)) (fa_cons (fe_c pe_str (fun _ _ => .str _)) (fa_cons (fe_tup (by show _ ≤ sizeLine; decide) (fa_cons (fe_c pe_int (fun _ _ => .int _)) (fa_cons (fe_c pe_int (fun _ _ => .int _)) fa_nil rfl) rfl)) (fa_cons (fe_tup (by decide) fa_nil) fa_nil rfl) rfl) rfl) rfl)) (fa_cons (fe_tup (by show _ ≤ sizeLine; decide) (fa_cons (fe_c pe_str (fun _ _ => .str _)) (fa_cons (fe_c pe_str (fun _ _ => .str _)) (fa_cons (fe_c pe_str (fun _ _ => .str _)) (fa_cons (fe_c pe_int (fun _ _ => .int _)) (fa_cons (fe_c pe_int (fun _ _ => .int _)) (fa_cons (fe_tup (by show _ ≤ sizeLine; decide) (fa_cons (fe_c pe_non (fun _ _ => .non)) (fa_cons (fe_c pe_int (fun _ _ => .int _)) fa_nil rfl) rfl)) (fa_cons (fe_tup (by decide) fa_nil) fa_nil rfl) rfl) rfl) rfl) rfl) rfl) rfl)) fa_nil rfl) rfl))) rfl (Or.inl rfl))
  (ss_cons (st_set sc_law.nd rfl (Or.inl rfl) (fe_makeZ (o := ⟨K, Tb A, g⟩) (c := 0) rfl T.k_System (ok_System_init_ T) (hr.mono (by decide)) rfl T.m_System T.b_System_init_ tk (fa_cons (fe_new (fn_lst (by show _ ≤ sizeLine; decide) (fa_cons (fe_c pe_str (fun _ _ => .str _)) (fa_cons (fe_c pe_str (fun _ _ => .str _)) fa_nil rfl) rfl))) (fa_cons (fe_bin op_addA ops_add (fe_v (pv 4)) (fe_new (fn_lst (by show _ ≤ sizeLine; decide) (fa_cons (fe_tup (by show _ ≤ sizeLine; decide) (fa_cons (fe_c pe_str (fun _ _ => .str _)) (fa_cons (fe_c pe_str (fun _ _ => .str _)) (fa_cons (fe_tup (by show _ ≤ sizeLine; decide) (fa_cons (fe_c pe_int (fun _ _ => .int _)) (fa_cons (fe_c pe_int (fun _ _ => .int _)) fa_nil rfl) rfl)) (fa_cons (fe_tup (by show _ ≤ sizeLine; decide) (fa_cons (fe_tup (by show _ ≤ sizeLine; decide) (fa_cons (fe_c pe_str (fun _ _ => .str _)) (fa_cons (fe_tup (by show _ ≤ sizeLine; decide) (fa_cons (fe_c pe_int (fun _ _ => .int _)) (fa_cons (fe_c pe_non (fun _ _ => .non)) fa_nil rfl) rfl)) fa_nil rfl) rfl)) fa_nil rfl)) fa_nil rfl) rfl) rfl) rfl)) fa_nil rfl)))) fa_nil rfl) rfl) (by decide) rfl rfl) rfl (Or.inl rfl))
  (ss_cons (st_set sc_law.nd rfl (Or.inl rfl) (fe_new (fn_lst (by show _ ≤ sizeLine; decide) (fa_cons (fe_call rfl (ok_values_behind T) (hr.mono (by decide)) rfl T.m_values_behind T.F_values_behind.kp T.b_values_behind tk (fa_cons (fe_v (pv 12)) (fa_cons (fe_new (fn_lst (by show _ ≤ sizeLine; decide) (fa_cons (fe_tup (by show _ ≤ sizeLine; decide) (fa_cons (fe_c pe_int (fun _ _ => .int _)) (fa_cons (fe_c pe_int (fun _ _ => .int _)) fa_nil rfl) rfl)) (fa_cons (fe_tup (by show _ ≤ sizeLine; decide) (fa_cons (fe_c pe_int (fun _ _ => .int _)) (fa_cons (fe_c pe_non (fun _ _ => .non)) fa_nil rfl) rfl)) (fa_cons (fe_tup (by show _ ≤ sizeLine; decide) (fa_cons (fe_c pe_int (fun _ _ => .int _)) (fa_cons (fe_c pe_int (fun _ _ => .int _)) fa_nil rfl) rfl)) fa_nil rfl) rfl) rfl))) fa_nil rfl) rfl) (by decide) rfl rfl) (fa_cons (fe_call rfl (ok_values_behind T) (hr.mono (by decide)) rfl T.m_values_behind T.F_values_behind.kp T.b_values_behind tk (fa_cons (fe_v (pv 12)) (fa_cons (fe_new (fn_lst (by show _ ≤ sizeLine; decide) (fa_cons (fe_tup (by show _ ≤ sizeLine; decide) (fa_cons (fe_c pe_int (fun _ _ => .int _)) (fa_cons (fe_c pe_int (fun _ _ => .int _)) fa_nil rfl) rfl)) fa_nil rfl))) fa_nil rfl) rfl) (by decide) rfl rfl) (fa_cons (fe_call rfl (ok_values_behind T) (hr.mono (by decide)) rfl T.m_values_behind T.F_values_behind.kp T.b_values_behind tk (fa_cons (fe_v (pv 12)) (fa_cons (fe_new (fn_lst (by show _ ≤ sizeLine; decide) fa_nil)) fa_nil rfl) rfl) (by decide) rfl rfl) fa_nil rfl) rfl) rfl))) rfl (Or.inl rfl))
  (ss_one (st_ret (fe_cmp (op_eqAll (hu65 hr)) ops_eq2 (fe_v (pv 9)) (fe_new (fn_lst (by show _ ≤ sizeLine; decide) (fa_cons (fe_new (fn_disp (o := ⟨K, Tb A, g⟩) (fp_cons (PE.ex fun g => (fe_c pe_str (fun _ _ => .str _))) (PE.ex fun g => (fe_c pe_int (fun _ _ => .int _))) (fp_cons (PE.ex fun g => (fe_c pe_str (fun _ _ => .str _))) (PE.ex fun g => (fe_c pe_int (fun _ _ => .int _))) fp_nil)) rfl rfl (fun z => by cases z) (by decide) (by decide))) (fa_cons (fe_new (fn_disp (o := ⟨K, Tb A, g⟩) (fp_cons (PE.ex fun g => (fe_c pe_str (fun _ _ => .str _))) (PE.ex fun g => (fe_c pe_int (fun _ _ => .int _))) (fp_cons (PE.ex fun g => (fe_c pe_str (fun _ _ => .str _))) (PE.ex fun g => (fe_c pe_non (fun _ _ => .non))) fp_nil)) rfl rfl (fun z => by cases z) (by decide) (by decide))) (fa_cons (fe_new (fn_disp (o := ⟨K, Tb A, g⟩) (fp_cons (PE.ex fun g => (fe_c pe_str (fun _ _ => .str _))) (PE.ex fun g => (fe_c pe_non (fun _ _ => .non))) (fp_cons (PE.ex fun g => (fe_c pe_str (fun _ _ => .str _))) (PE.ex fun g => (fe_c pe_non (fun _ _ => .non))) fp_nil)) rfl rfl (fun z => by cases z) (by decide) (by decide))) fa_nil rfl) rfl) rfl))) (nomark _))))))))))
end


theorem spec_draw {S0 S : List Cell} {r n : Nat} {lim : Int} (hr : r < S0.length) (R : RS S0 r n S) (h0 : 0 < lim) (h1 : lim < 2 ^ 200) (hn : n ≤ 2 ^ 40) :
    WR (G_law_draw [.loc r, .int lim] S) (fun d S' => RS S0 r (n + 1) S' ∧ ∃ z : Int, d = .int z ∧ 0 ≤ z ∧ z < lim) E0 := by
  obtain ⟨a, b, c, hb0, hb1, hc0, hc1, rfl⟩ := R
  have hg : ∀ x y z : Int, (S0.set r (rc x y z))[r]? = some (.lst [.int x, .int y, .int z]) := fun x y z => List.getElem?_set_self hr
  have hd : cDiv a lim = true := cDiv_of (i := 200) (by omega) (by decide) h0
  unfold G_law_draw
  have i0 : ∀ x y z : D, atD [x, y, z] 0 = some x := fun _ _ _ => rfl
  have i1 : ∀ x y z : D, atD [x, y, z] 1 = some y := fun _ _ _ => rfl
  have i2 : ∀ x y z : D, atD [x, y, z] 2 = some z := fun _ _ _ => rfl
  have ix0 : ∀ (P : D → List Cell → Prop) (E : Nat → D → List Cell → Prop) (x y z : Int), WR (opIx (.loc r) (.int 0) (S0.set r (rc x y z))) P E = P (.int x) (S0.set r (rc x y z)) := fun P E x y z => w_ixLoc (hg x y z) (i0 _ _ _)
  have ix1 : ∀ (P : D → List Cell → Prop) (E : Nat → D → List Cell → Prop) (x y z : Int), WR (opIx (.loc r) (.int 1) (S0.set r (rc x y z))) P E = P (.int y) (S0.set r (rc x y z)) := fun P E x y z => w_ixLoc (hg x y z) (i1 _ _ _)
  have ix2 : ∀ (P : D → List Cell → Prop) (E : Nat → D → List Cell → Prop) (x y z : Int), WR (opIx (.loc r) (.int 2) (S0.set r (rc x y z))) P E = P (.int z) (S0.set r (rc x y z)) := fun P E x y z => w_ixLoc (hg x y z) (i2 _ _ _)
  have s0 : ∀ (ρ : Slots) (Ps : Fl → List Cell → Prop) (x y z w : Int), setP (.loc r) (.int 0) (.int w) ρ Ps (S0.set r (rc x y z)) = Ps (.nx ρ) (S0.set r (rc w y z)) := fun ρ Ps x y z w => by
    unfold setP
    rw [show (0 : Int) = ((0 : Nat) : Int) from rfl, setC_lst (i := 0) (hg x y z) (by simp)]
    show Ps _ ((S0.set r _).set r _) = _
    rw [List.set_set]
    rfl
  have s2 : ∀ (ρ : Slots) (Ps : Fl → List Cell → Prop) (x y z w : Int), setP (.loc r) (.int 2) (.int w) ρ Ps (S0.set r (rc x y z)) = Ps (.nx ρ) (S0.set r (rc x y w)) := fun ρ Ps x y z w => by
    unfold setP
    rw [show (2 : Int) = ((2 : Nat) : Int) from rfl, setC_lst (i := 2) (hg x y z) (by simp)]
    show Ps _ ((S0.set r _).set r _) = _
    rw [List.set_set]
    rfl
  simp -implicitDefEqProofs only [WR_ok, WS_ok, WR_bind, w_c, w_bin, boolP_b, notP_b, w_not, w_and, w_or, w_if, w_chain, w_evs0, w_evs, w_call, w_callK, w_tup, w_lst, w_cell, cellP_lst, cellP_dct, negP_i, w_neg, w_fld, w_methC, w_make, w_makeZ, ws_next, ws_brk, ws_ct, ws_seq, ws_asg, ws_ret, ws_drop, ws_if, ws_par, ws_unp, ws_sto, ws_stoF, ws_for, wi_seq, wi_rng1, wi_enum, seqP_lst, seqP_klst, seqP_tup, seqP_ktup, rngP_i, enumP_lst, goP_nx, goP_ret, goP_ct, goP_brk, goP_er, bodyP_nx, bodyP_ret, bodyP_er, turnP_nx, turnP_ct, turnP_brk, turnP_ret, turnP_er, w_run, startD, List.map_cons, List.map_nil, List.length_cons, List.length_nil, List.replicate, List.cons_append, List.nil_append, List.append_nil, List.getElem?_cons_zero, List.getElem?_cons_succ, List.set_cons_zero, List.set_cons_succ, w_v, slotP_s, w_addI, w_subI, w_mulI, w_divI, w_modI, w_powI, w_ltI, w_leI, w_gtI, w_geI, w_isN, w_notN, isNon_n, isNon_i, isNon_t, isNon_s, w_intI, w_intB, w_absI, w_maxI, w_minI, decide_eq_true_eq, Bool.not_eq_true, if_true, if_false, ite_true, ite_false, reduceCtorEq, Bool.false_eq_true, Bool.not_true, Bool.not_false, eq_self_iff_true, true_and, and_true, w_eqI, w_neI, w_ixT, w_ixL, ixP_s, at2_0, at2_1, at2_m1, at4_0, at4_1, at4_2, at4_3, at4_m1, at7_0, at7_1, at7_2, at7_3, at7_4, at7_5, at7_6, at7_m1, oD_none, oD_some, tgP_2, w_appLoc, w_lenLoc, w_lenLst, w_meth, List.length_map, goM_nx, goM_ret, goM_ct, goM_brk, goM_er, wi_str, strP_s, b_law_draw, ix0, ix1, ix2, s0, s2]
  by_cases ha : 0 < a
  · simp only [ha, if_true]
    refine ⟨cMod_of h0, hd, ⟨a / lim, b, c, hb0, hb1, hc0, by omega, rfl⟩, _, rfl, Int.emod_nonneg _ (by omega), Int.emod_lt_of_pos _ h0⟩
  · simp only [ha, if_false]
    have hm : ∀ x y : Int, 0 < y → 0 ≤ x % y ∧ x % y < y := fun x y h => ⟨Int.emod_nonneg _ (by omega), Int.emod_lt_of_pos _ h⟩
    have hv1 := hm ((b + 998244353 * (c + 1)) ^ (3 : Int).toNat) 162259276829213363391578010288127 (by decide)
    refine ⟨cMul_of (i := 30) (j := 64) (by decide) (by omega) (by decide), cPow_of (i := 120) (by omega) (by decide) (by decide) (by decide), cMod_of (by decide),
      cMul_of (i := 30) (j := 64) (by decide) (by omega) (by decide), cPow_of (i := 130) ?_ (by decide) (by decide) (by decide), cMod_of (by decide), cDiv_of (i := 30) (by decide) (by decide) (by decide), cMod_of h0, ⟨a, b, c + 1, hb0, hb1, by omega, by omega, rfl⟩, _, rfl, (hm _ _ h0).1, (hm _ _ h0).2⟩
    generalize (b + 998244353 * (c + 1)) ^ (3 : Int).toNat % 162259276829213363391578010288127 = v at hv1 ⊢
    omega


def Bnd (B : Int) : Option Int → Prop
  | none => True
  | some i => -B ≤ i ∧ i ≤ B
theorem spec_end {S0 S : List Cell} {r n : Nat} {far : Int} {B : Int} (hr : r < S0.length) (R : RS S0 r n S) (hn : n ≤ 2 ^ 39) (h1 : -B ≤ far) (h2 : far ≤ B) (hB : 200 ≤ B) :
    WR (G_law_end [.loc r, .int far] S) (fun d S' => RS S0 r (n + 3) S' ∧ ∃ o, d = oD o ∧ Bnd B o) E0 := by
  unfold G_law_end
  simp -implicitDefEqProofs only [WR_ok, WS_ok, WR_bind, w_c, w_bin, boolP_b, notP_b, w_not, w_and, w_or, w_if, w_chain, w_evs0, w_evs, w_call, w_callK, w_tup, w_lst, w_cell, cellP_lst, cellP_dct, negP_i, w_neg, w_fld, w_methC, w_make, w_makeZ, ws_next, ws_brk, ws_ct, ws_seq, ws_asg, ws_ret, ws_drop, ws_if, ws_par, ws_unp, ws_sto, ws_stoF, ws_for, wi_seq, wi_rng1, wi_enum, seqP_lst, seqP_klst, seqP_tup, seqP_ktup, rngP_i, enumP_lst, goP_nx, goP_ret, goP_ct, goP_brk, goP_er, bodyP_nx, bodyP_ret, bodyP_er, turnP_nx, turnP_ct, turnP_brk, turnP_ret, turnP_er, w_run, startD, List.map_cons, List.map_nil, List.length_cons, List.length_nil, List.replicate, List.cons_append, List.nil_append, List.append_nil, List.getElem?_cons_zero, List.getElem?_cons_succ, List.set_cons_zero, List.set_cons_succ, w_v, slotP_s, w_addI, w_subI, w_mulI, w_divI, w_modI, w_powI, w_ltI, w_leI, w_gtI, w_geI, w_isN, w_notN, isNon_n, isNon_i, isNon_t, isNon_s, w_intI, w_intB, w_absI, w_maxI, w_minI, decide_eq_true_eq, Bool.not_eq_true, if_true, if_false, ite_true, ite_false, reduceCtorEq, Bool.false_eq_true, Bool.not_true, Bool.not_false, eq_self_iff_true, true_and, and_true, w_eqI, w_neI, w_ixT, w_ixL, ixP_s, at2_0, at2_1, at2_m1, at4_0, at4_1, at4_2, at4_3, at4_m1, at7_0, at7_1, at7_2, at7_3, at7_4, at7_5, at7_6, at7_m1, oD_none, oD_some, tgP_2, w_appLoc, w_lenLoc, w_lenLst, w_meth, List.length_map, goM_nx, goM_ret, goM_ct, goM_brk, goM_er, wi_str, strP_s, b_law_end]
  refine (spec_draw hr R (by decide) (by decide) (by omega)).call ?_
  rintro _ S1 ⟨R1, z1, rfl, a1, b1⟩
  try simp -implicitDefEqProofs only [WR_ok, WS_ok, WR_bind, w_c, w_bin, boolP_b, notP_b, w_not, w_and, w_or, w_if, w_chain, w_evs0, w_evs, w_call, w_callK, w_tup, w_lst, w_cell, cellP_lst, cellP_dct, negP_i, w_neg, w_fld, w_methC, w_make, w_makeZ, ws_next, ws_brk, ws_ct, ws_seq, ws_asg, ws_ret, ws_drop, ws_if, ws_par, ws_unp, ws_sto, ws_stoF, ws_for, wi_seq, wi_rng1, wi_enum, seqP_lst, seqP_klst, seqP_tup, seqP_ktup, rngP_i, enumP_lst, goP_nx, goP_ret, goP_ct, goP_brk, goP_er, bodyP_nx, bodyP_ret, bodyP_er, turnP_nx, turnP_ct, turnP_brk, turnP_ret, turnP_er, w_run, startD, List.map_cons, List.map_nil, List.length_cons, List.length_nil, List.replicate, List.cons_append, List.nil_append, List.append_nil, List.getElem?_cons_zero, List.getElem?_cons_succ, List.set_cons_zero, List.set_cons_succ, w_v, slotP_s, w_addI, w_subI, w_mulI, w_divI, w_modI, w_powI, w_ltI, w_leI, w_gtI, w_geI, w_isN, w_notN, isNon_n, isNon_i, isNon_t, isNon_s, w_intI, w_intB, w_absI, w_maxI, w_minI, decide_eq_true_eq, Bool.not_eq_true, if_true, if_false, ite_true, ite_false, reduceCtorEq, Bool.false_eq_true, Bool.not_true, Bool.not_false, eq_self_iff_true, true_and, and_true, w_eqI, w_neI, w_ixT, w_ixL, ixP_s, at2_0, at2_1, at2_m1, at4_0, at4_1, at4_2, at4_3, at4_m1, at7_0, at7_1, at7_2, at7_3, at7_4, at7_5, at7_6, at7_m1, oD_none, oD_some, tgP_2, w_appLoc, w_lenLoc, w_lenLst, w_meth, List.length_map, goM_nx, goM_ret, goM_ct, goM_brk, goM_er, wi_str, strP_s]
  refine (spec_draw hr R1 (by decide) (by decide) (by omega)).call ?_
  rintro _ S2 ⟨R2, z2, rfl, a2, b2⟩
  try simp -implicitDefEqProofs only [WR_ok, WS_ok, WR_bind, w_c, w_bin, boolP_b, notP_b, w_not, w_and, w_or, w_if, w_chain, w_evs0, w_evs, w_call, w_callK, w_tup, w_lst, w_cell, cellP_lst, cellP_dct, negP_i, w_neg, w_fld, w_methC, w_make, w_makeZ, ws_next, ws_brk, ws_ct, ws_seq, ws_asg, ws_ret, ws_drop, ws_if, ws_par, ws_unp, ws_sto, ws_stoF, ws_for, wi_seq, wi_rng1, wi_enum, seqP_lst, seqP_klst, seqP_tup, seqP_ktup, rngP_i, enumP_lst, goP_nx, goP_ret, goP_ct, goP_brk, goP_er, bodyP_nx, bodyP_ret, bodyP_er, turnP_nx, turnP_ct, turnP_brk, turnP_ret, turnP_er, w_run, startD, List.map_cons, List.map_nil, List.length_cons, List.length_nil, List.replicate, List.cons_append, List.nil_append, List.append_nil, List.getElem?_cons_zero, List.getElem?_cons_succ, List.set_cons_zero, List.set_cons_succ, w_v, slotP_s, w_addI, w_subI, w_mulI, w_divI, w_modI, w_powI, w_ltI, w_leI, w_gtI, w_geI, w_isN, w_notN, isNon_n, isNon_i, isNon_t, isNon_s, w_intI, w_intB, w_absI, w_maxI, w_minI, decide_eq_true_eq, Bool.not_eq_true, if_true, if_false, ite_true, ite_false, reduceCtorEq, Bool.false_eq_true, Bool.not_true, Bool.not_false, eq_self_iff_true, true_and, and_true, w_eqI, w_neI, w_ixT, w_ixL, ixP_s, at2_0, at2_1, at2_m1, at4_0, at4_1, at4_2, at4_3, at4_m1, at7_0, at7_1, at7_2, at7_3, at7_4, at7_5, at7_6, at7_m1, oD_none, oD_some, tgP_2, w_appLoc, w_lenLoc, w_lenLst, w_meth, List.length_map, goM_nx, goM_ret, goM_ct, goM_brk, goM_er, wi_str, strP_s]
  refine (spec_draw hr R2 (by decide) (by decide) (by omega)).call ?_
  rintro _ S3 ⟨R3, z3, rfl, a3, b3⟩
  try simp -implicitDefEqProofs only [WR_ok, WS_ok, WR_bind, w_c, w_bin, boolP_b, notP_b, w_not, w_and, w_or, w_if, w_chain, w_evs0, w_evs, w_call, w_callK, w_tup, w_lst, w_cell, cellP_lst, cellP_dct, negP_i, w_neg, w_fld, w_methC, w_make, w_makeZ, ws_next, ws_brk, ws_ct, ws_seq, ws_asg, ws_ret, ws_drop, ws_if, ws_par, ws_unp, ws_sto, ws_stoF, ws_for, wi_seq, wi_rng1, wi_enum, seqP_lst, seqP_klst, seqP_tup, seqP_ktup, rngP_i, enumP_lst, goP_nx, goP_ret, goP_ct, goP_brk, goP_er, bodyP_nx, bodyP_ret, bodyP_er, turnP_nx, turnP_ct, turnP_brk, turnP_ret, turnP_er, w_run, startD, List.map_cons, List.map_nil, List.length_cons, List.length_nil, List.replicate, List.cons_append, List.nil_append, List.append_nil, List.getElem?_cons_zero, List.getElem?_cons_succ, List.set_cons_zero, List.set_cons_succ, w_v, slotP_s, w_addI, w_subI, w_mulI, w_divI, w_modI, w_powI, w_ltI, w_leI, w_gtI, w_geI, w_isN, w_notN, isNon_n, isNon_i, isNon_t, isNon_s, w_intI, w_intB, w_absI, w_maxI, w_minI, decide_eq_true_eq, Bool.not_eq_true, if_true, if_false, ite_true, ite_false, reduceCtorEq, Bool.false_eq_true, Bool.not_true, Bool.not_false, eq_self_iff_true, true_and, and_true, w_eqI, w_neI, w_ixT, w_ixL, ixP_s, at2_0, at2_1, at2_m1, at4_0, at4_1, at4_2, at4_3, at4_m1, at7_0, at7_1, at7_2, at7_3, at7_4, at7_5, at7_6, at7_m1, oD_none, oD_some, tgP_2, w_appLoc, w_lenLoc, w_lenLst, w_meth, List.length_map, goM_nx, goM_ret, goM_ct, goM_brk, goM_er, wi_str, strP_s]
  have : z3 = 0 ∨ z3 = 1 ∨ z3 = 2 ∨ z3 = 3 := by omega
  rcases this with rfl | rfl | rfl | rfl
  · exact ⟨R3, none, rfl, trivial⟩
  · exact ⟨R3, some (z1 - 4), rfl, by unfold Bnd; omega⟩
  · exact ⟨R3, some (z2 - 99), rfl, by unfold Bnd; omega⟩
  · exact ⟨R3, some far, rfl, by unfold Bnd; omega⟩
/-- a range that is not empty -/
def rgOk (r : Rg) : Prop := match r.1, r.2 with
  | some l, some h => l ≤ h
  | _, _ => True
def rgBnd (B : Int) (r : Rg) : Prop := Bnd B r.1 ∧ Bnd B r.2
theorem spec_within {S0 S : List Cell} {r n : Nat} {far : Int} {B : Int} (hr : r < S0.length) (R : RS S0 r n S) (hn : n ≤ 2 ^ 38) (h1 : -B ≤ far) (h2 : far ≤ B) (hB : 200 ≤ B) :
    WR (G_law_within [.loc r, .int far] S) (fun d S' => RS S0 r (n + 6) S' ∧ ∃ g : Rg, d = rgD g ∧ rgOk g ∧ rgBnd B g) E0 := by
  unfold G_law_within
  simp -implicitDefEqProofs only [WR_ok, WS_ok, WR_bind, w_c, w_bin, boolP_b, notP_b, w_not, w_and, w_or, w_if, w_chain, w_evs0, w_evs, w_call, w_callK, w_tup, w_lst, w_cell, cellP_lst, cellP_dct, negP_i, w_neg, w_fld, w_methC, w_make, w_makeZ, ws_next, ws_brk, ws_ct, ws_seq, ws_asg, ws_ret, ws_drop, ws_if, ws_par, ws_unp, ws_sto, ws_stoF, ws_for, wi_seq, wi_rng1, wi_enum, seqP_lst, seqP_klst, seqP_tup, seqP_ktup, rngP_i, enumP_lst, goP_nx, goP_ret, goP_ct, goP_brk, goP_er, bodyP_nx, bodyP_ret, bodyP_er, turnP_nx, turnP_ct, turnP_brk, turnP_ret, turnP_er, w_run, startD, List.map_cons, List.map_nil, List.length_cons, List.length_nil, List.replicate, List.cons_append, List.nil_append, List.append_nil, List.getElem?_cons_zero, List.getElem?_cons_succ, List.set_cons_zero, List.set_cons_succ, w_v, slotP_s, w_addI, w_subI, w_mulI, w_divI, w_modI, w_powI, w_ltI, w_leI, w_gtI, w_geI, w_isN, w_notN, isNon_n, isNon_i, isNon_t, isNon_s, w_intI, w_intB, w_absI, w_maxI, w_minI, decide_eq_true_eq, Bool.not_eq_true, if_true, if_false, ite_true, ite_false, reduceCtorEq, Bool.false_eq_true, Bool.not_true, Bool.not_false, eq_self_iff_true, true_and, and_true, w_eqI, w_neI, w_ixT, w_ixL, ixP_s, at2_0, at2_1, at2_m1, at4_0, at4_1, at4_2, at4_3, at4_m1, at7_0, at7_1, at7_2, at7_3, at7_4, at7_5, at7_6, at7_m1, oD_none, oD_some, tgP_2, w_appLoc, w_lenLoc, w_lenLst, w_meth, List.length_map, goM_nx, goM_ret, goM_ct, goM_brk, goM_er, wi_str, strP_s, b_law_within]
  refine (spec_end (B := B) hr R (by omega) (by omega) (by omega) hB).call ?_
  rintro _ S1 ⟨R1, o1, rfl, a1⟩
  try simp -implicitDefEqProofs only [WR_ok, WS_ok, WR_bind, w_c, w_bin, boolP_b, notP_b, w_not, w_and, w_or, w_if, w_chain, w_evs0, w_evs, w_call, w_callK, w_tup, w_lst, w_cell, cellP_lst, cellP_dct, negP_i, w_neg, w_fld, w_methC, w_make, w_makeZ, ws_next, ws_brk, ws_ct, ws_seq, ws_asg, ws_ret, ws_drop, ws_if, ws_par, ws_unp, ws_sto, ws_stoF, ws_for, wi_seq, wi_rng1, wi_enum, seqP_lst, seqP_klst, seqP_tup, seqP_ktup, rngP_i, enumP_lst, goP_nx, goP_ret, goP_ct, goP_brk, goP_er, bodyP_nx, bodyP_ret, bodyP_er, turnP_nx, turnP_ct, turnP_brk, turnP_ret, turnP_er, w_run, startD, List.map_cons, List.map_nil, List.length_cons, List.length_nil, List.replicate, List.cons_append, List.nil_append, List.append_nil, List.getElem?_cons_zero, List.getElem?_cons_succ, List.set_cons_zero, List.set_cons_succ, w_v, slotP_s, w_addI, w_subI, w_mulI, w_divI, w_modI, w_powI, w_ltI, w_leI, w_gtI, w_geI, w_isN, w_notN, isNon_n, isNon_i, isNon_t, isNon_s, w_intI, w_intB, w_absI, w_maxI, w_minI, decide_eq_true_eq, Bool.not_eq_true, if_true, if_false, ite_true, ite_false, reduceCtorEq, Bool.false_eq_true, Bool.not_true, Bool.not_false, eq_self_iff_true, true_and, and_true, w_eqI, w_neI, w_ixT, w_ixL, ixP_s, at2_0, at2_1, at2_m1, at4_0, at4_1, at4_2, at4_3, at4_m1, at7_0, at7_1, at7_2, at7_3, at7_4, at7_5, at7_6, at7_m1, oD_none, oD_some, tgP_2, w_appLoc, w_lenLoc, w_lenLst, w_meth, List.length_map, goM_nx, goM_ret, goM_ct, goM_brk, goM_er, wi_str, strP_s]
  refine (spec_end (B := B) hr R1 (by omega) h1 h2 hB).call ?_
  rintro _ S2 ⟨R2, o2, rfl, a2⟩
  cases o1 with
  | none =>
    simp -implicitDefEqProofs only [WR_ok, WS_ok, WR_bind, w_c, w_bin, boolP_b, notP_b, w_not, w_and, w_or, w_if, w_chain, w_evs0, w_evs, w_call, w_callK, w_tup, w_lst, w_cell, cellP_lst, cellP_dct, negP_i, w_neg, w_fld, w_methC, w_make, w_makeZ, ws_next, ws_brk, ws_ct, ws_seq, ws_asg, ws_ret, ws_drop, ws_if, ws_par, ws_unp, ws_sto, ws_stoF, ws_for, wi_seq, wi_rng1, wi_enum, seqP_lst, seqP_klst, seqP_tup, seqP_ktup, rngP_i, enumP_lst, goP_nx, goP_ret, goP_ct, goP_brk, goP_er, bodyP_nx, bodyP_ret, bodyP_er, turnP_nx, turnP_ct, turnP_brk, turnP_ret, turnP_er, w_run, startD, List.map_cons, List.map_nil, List.length_cons, List.length_nil, List.replicate, List.cons_append, List.nil_append, List.append_nil, List.getElem?_cons_zero, List.getElem?_cons_succ, List.set_cons_zero, List.set_cons_succ, w_v, slotP_s, w_addI, w_subI, w_mulI, w_divI, w_modI, w_powI, w_ltI, w_leI, w_gtI, w_geI, w_isN, w_notN, isNon_n, isNon_i, isNon_t, isNon_s, w_intI, w_intB, w_absI, w_maxI, w_minI, decide_eq_true_eq, Bool.not_eq_true, if_true, if_false, ite_true, ite_false, reduceCtorEq, Bool.false_eq_true, Bool.not_true, Bool.not_false, eq_self_iff_true, true_and, and_true, w_eqI, w_neI, w_ixT, w_ixL, ixP_s, at2_0, at2_1, at2_m1, at4_0, at4_1, at4_2, at4_3, at4_m1, at7_0, at7_1, at7_2, at7_3, at7_4, at7_5, at7_6, at7_m1, oD_none, oD_some, tgP_2, w_appLoc, w_lenLoc, w_lenLst, w_meth, List.length_map, goM_nx, goM_ret, goM_ct, goM_brk, goM_er, wi_str, strP_s]
    exact ⟨R2, (none, o2), rfl, trivial, a1, a2⟩
  | some l =>
    cases o2 with
    | none =>
      simp -implicitDefEqProofs only [WR_ok, WS_ok, WR_bind, w_c, w_bin, boolP_b, notP_b, w_not, w_and, w_or, w_if, w_chain, w_evs0, w_evs, w_call, w_callK, w_tup, w_lst, w_cell, cellP_lst, cellP_dct, negP_i, w_neg, w_fld, w_methC, w_make, w_makeZ, ws_next, ws_brk, ws_ct, ws_seq, ws_asg, ws_ret, ws_drop, ws_if, ws_par, ws_unp, ws_sto, ws_stoF, ws_for, wi_seq, wi_rng1, wi_enum, seqP_lst, seqP_klst, seqP_tup, seqP_ktup, rngP_i, enumP_lst, goP_nx, goP_ret, goP_ct, goP_brk, goP_er, bodyP_nx, bodyP_ret, bodyP_er, turnP_nx, turnP_ct, turnP_brk, turnP_ret, turnP_er, w_run, startD, List.map_cons, List.map_nil, List.length_cons, List.length_nil, List.replicate, List.cons_append, List.nil_append, List.append_nil, List.getElem?_cons_zero, List.getElem?_cons_succ, List.set_cons_zero, List.set_cons_succ, w_v, slotP_s, w_addI, w_subI, w_mulI, w_divI, w_modI, w_powI, w_ltI, w_leI, w_gtI, w_geI, w_isN, w_notN, isNon_n, isNon_i, isNon_t, isNon_s, w_intI, w_intB, w_absI, w_maxI, w_minI, decide_eq_true_eq, Bool.not_eq_true, if_true, if_false, ite_true, ite_false, reduceCtorEq, Bool.false_eq_true, Bool.not_true, Bool.not_false, eq_self_iff_true, true_and, and_true, w_eqI, w_neI, w_ixT, w_ixL, ixP_s, at2_0, at2_1, at2_m1, at4_0, at4_1, at4_2, at4_3, at4_m1, at7_0, at7_1, at7_2, at7_3, at7_4, at7_5, at7_6, at7_m1, oD_none, oD_some, tgP_2, w_appLoc, w_lenLoc, w_lenLst, w_meth, List.length_map, goM_nx, goM_ret, goM_ct, goM_brk, goM_er, wi_str, strP_s]
      exact ⟨R2, (some l, none), rfl, trivial, a1, a2⟩
    | some h =>
      simp -implicitDefEqProofs only [WR_ok, WS_ok, WR_bind, w_c, w_bin, boolP_b, notP_b, w_not, w_and, w_or, w_if, w_chain, w_evs0, w_evs, w_call, w_callK, w_tup, w_lst, w_cell, cellP_lst, cellP_dct, negP_i, w_neg, w_fld, w_methC, w_make, w_makeZ, ws_next, ws_brk, ws_ct, ws_seq, ws_asg, ws_ret, ws_drop, ws_if, ws_par, ws_unp, ws_sto, ws_stoF, ws_for, wi_seq, wi_rng1, wi_enum, seqP_lst, seqP_klst, seqP_tup, seqP_ktup, rngP_i, enumP_lst, goP_nx, goP_ret, goP_ct, goP_brk, goP_er, bodyP_nx, bodyP_ret, bodyP_er, turnP_nx, turnP_ct, turnP_brk, turnP_ret, turnP_er, w_run, startD, List.map_cons, List.map_nil, List.length_cons, List.length_nil, List.replicate, List.cons_append, List.nil_append, List.append_nil, List.getElem?_cons_zero, List.getElem?_cons_succ, List.set_cons_zero, List.set_cons_succ, w_v, slotP_s, w_addI, w_subI, w_mulI, w_divI, w_modI, w_powI, w_ltI, w_leI, w_gtI, w_geI, w_isN, w_notN, isNon_n, isNon_i, isNon_t, isNon_s, w_intI, w_intB, w_absI, w_maxI, w_minI, decide_eq_true_eq, Bool.not_eq_true, if_true, if_false, ite_true, ite_false, reduceCtorEq, Bool.false_eq_true, Bool.not_true, Bool.not_false, eq_self_iff_true, true_and, and_true, w_eqI, w_neI, w_ixT, w_ixL, ixP_s, at2_0, at2_1, at2_m1, at4_0, at4_1, at4_2, at4_3, at4_m1, at7_0, at7_1, at7_2, at7_3, at7_4, at7_5, at7_6, at7_m1, oD_none, oD_some, tgP_2, w_appLoc, w_lenLoc, w_lenLst, w_meth, List.length_map, goM_nx, goM_ret, goM_ct, goM_brk, goM_er, wi_str, strP_s]
      by_cases hlh : h < l
      · rw [if_pos hlh]
        exact ⟨R2, (some h, some l), rfl, by unfold rgOk; dsimp only; omega, a2, a1⟩
      · rw [if_neg hlh]
        exact ⟨R2, (some l, some h), rfl, by unfold rgOk; dsimp only; omega, a1, a2⟩
theorem spec_inside {S : List Cell} (g : Rg) (v : Option Int) : WR (G_law_inside [rgD g, oD v] S) (fun d S' => d = .bl (inB g v) ∧ S' = S) E0 := by
  unfold G_law_inside
  obtain ⟨lo, hi⟩ := g
  cases v with
  | none =>
    simp -implicitDefEqProofs only [WR_ok, WS_ok, WR_bind, w_c, w_bin, boolP_b, notP_b, w_not, w_and, w_or, w_if, w_chain, w_evs0, w_evs, w_call, w_callK, w_tup, w_lst, w_cell, cellP_lst, cellP_dct, negP_i, w_neg, w_fld, w_methC, w_make, w_makeZ, ws_next, ws_brk, ws_ct, ws_seq, ws_asg, ws_ret, ws_drop, ws_if, ws_par, ws_unp, ws_sto, ws_stoF, ws_for, wi_seq, wi_rng1, wi_enum, seqP_lst, seqP_klst, seqP_tup, seqP_ktup, rngP_i, enumP_lst, goP_nx, goP_ret, goP_ct, goP_brk, goP_er, bodyP_nx, bodyP_ret, bodyP_er, turnP_nx, turnP_ct, turnP_brk, turnP_ret, turnP_er, w_run, startD, List.map_cons, List.map_nil, List.length_cons, List.length_nil, List.replicate, List.cons_append, List.nil_append, List.append_nil, List.getElem?_cons_zero, List.getElem?_cons_succ, List.set_cons_zero, List.set_cons_succ, w_v, slotP_s, w_addI, w_subI, w_mulI, w_divI, w_modI, w_powI, w_ltI, w_leI, w_gtI, w_geI, w_isN, w_notN, isNon_n, isNon_i, isNon_t, isNon_s, w_intI, w_intB, w_absI, w_maxI, w_minI, decide_eq_true_eq, Bool.not_eq_true, if_true, if_false, ite_true, ite_false, reduceCtorEq, Bool.false_eq_true, Bool.not_true, Bool.not_false, eq_self_iff_true, true_and, and_true, w_eqI, w_neI, w_ixT, w_ixL, ixP_s, at2_0, at2_1, at2_m1, at4_0, at4_1, at4_2, at4_3, at4_m1, at7_0, at7_1, at7_2, at7_3, at7_4, at7_5, at7_6, at7_m1, oD_none, oD_some, tgP_2, w_appLoc, w_lenLoc, w_lenLst, w_meth, List.length_map, goM_nx, goM_ret, goM_ct, goM_brk, goM_er, wi_str, strP_s, b_law_inside, rgD]
    rfl
  | some v =>
    cases lo with
    | none =>
      cases hi with
      | none =>
        simp -implicitDefEqProofs only [WR_ok, WS_ok, WR_bind, w_c, w_bin, boolP_b, notP_b, w_not, w_and, w_or, w_if, w_chain, w_evs0, w_evs, w_call, w_callK, w_tup, w_lst, w_cell, cellP_lst, cellP_dct, negP_i, w_neg, w_fld, w_methC, w_make, w_makeZ, ws_next, ws_brk, ws_ct, ws_seq, ws_asg, ws_ret, ws_drop, ws_if, ws_par, ws_unp, ws_sto, ws_stoF, ws_for, wi_seq, wi_rng1, wi_enum, seqP_lst, seqP_klst, seqP_tup, seqP_ktup, rngP_i, enumP_lst, goP_nx, goP_ret, goP_ct, goP_brk, goP_er, bodyP_nx, bodyP_ret, bodyP_er, turnP_nx, turnP_ct, turnP_brk, turnP_ret, turnP_er, w_run, startD, List.map_cons, List.map_nil, List.length_cons, List.length_nil, List.replicate, List.cons_append, List.nil_append, List.append_nil, List.getElem?_cons_zero, List.getElem?_cons_succ, List.set_cons_zero, List.set_cons_succ, w_v, slotP_s, w_addI, w_subI, w_mulI, w_divI, w_modI, w_powI, w_ltI, w_leI, w_gtI, w_geI, w_isN, w_notN, isNon_n, isNon_i, isNon_t, isNon_s, w_intI, w_intB, w_absI, w_maxI, w_minI, decide_eq_true_eq, Bool.not_eq_true, if_true, if_false, ite_true, ite_false, reduceCtorEq, Bool.false_eq_true, Bool.not_true, Bool.not_false, eq_self_iff_true, true_and, and_true, w_eqI, w_neI, w_ixT, w_ixL, ixP_s, at2_0, at2_1, at2_m1, at4_0, at4_1, at4_2, at4_3, at4_m1, at7_0, at7_1, at7_2, at7_3, at7_4, at7_5, at7_6, at7_m1, oD_none, oD_some, tgP_2, w_appLoc, w_lenLoc, w_lenLst, w_meth, List.length_map, goM_nx, goM_ret, goM_ct, goM_brk, goM_er, wi_str, strP_s, b_law_inside, rgD]
        rfl
      | some h =>
        simp -implicitDefEqProofs only [WR_ok, WS_ok, WR_bind, w_c, w_bin, boolP_b, notP_b, w_not, w_and, w_or, w_if, w_chain, w_evs0, w_evs, w_call, w_callK, w_tup, w_lst, w_cell, cellP_lst, cellP_dct, negP_i, w_neg, w_fld, w_methC, w_make, w_makeZ, ws_next, ws_brk, ws_ct, ws_seq, ws_asg, ws_ret, ws_drop, ws_if, ws_par, ws_unp, ws_sto, ws_stoF, ws_for, wi_seq, wi_rng1, wi_enum, seqP_lst, seqP_klst, seqP_tup, seqP_ktup, rngP_i, enumP_lst, goP_nx, goP_ret, goP_ct, goP_brk, goP_er, bodyP_nx, bodyP_ret, bodyP_er, turnP_nx, turnP_ct, turnP_brk, turnP_ret, turnP_er, w_run, startD, List.map_cons, List.map_nil, List.length_cons, List.length_nil, List.replicate, List.cons_append, List.nil_append, List.append_nil, List.getElem?_cons_zero, List.getElem?_cons_succ, List.set_cons_zero, List.set_cons_succ, w_v, slotP_s, w_addI, w_subI, w_mulI, w_divI, w_modI, w_powI, w_ltI, w_leI, w_gtI, w_geI, w_isN, w_notN, isNon_n, isNon_i, isNon_t, isNon_s, w_intI, w_intB, w_absI, w_maxI, w_minI, decide_eq_true_eq, Bool.not_eq_true, if_true, if_false, ite_true, ite_false, reduceCtorEq, Bool.false_eq_true, Bool.not_true, Bool.not_false, eq_self_iff_true, true_and, and_true, w_eqI, w_neI, w_ixT, w_ixL, ixP_s, at2_0, at2_1, at2_m1, at4_0, at4_1, at4_2, at4_3, at4_m1, at7_0, at7_1, at7_2, at7_3, at7_4, at7_5, at7_6, at7_m1, oD_none, oD_some, tgP_2, w_appLoc, w_lenLoc, w_lenLst, w_meth, List.length_map, goM_nx, goM_ret, goM_ct, goM_brk, goM_er, wi_str, strP_s, b_law_inside, rgD]
        simp [inB]
    | some l =>
      cases hi with
      | none =>
        simp -implicitDefEqProofs only [WR_ok, WS_ok, WR_bind, w_c, w_bin, boolP_b, notP_b, w_not, w_and, w_or, w_if, w_chain, w_evs0, w_evs, w_call, w_callK, w_tup, w_lst, w_cell, cellP_lst, cellP_dct, negP_i, w_neg, w_fld, w_methC, w_make, w_makeZ, ws_next, ws_brk, ws_ct, ws_seq, ws_asg, ws_ret, ws_drop, ws_if, ws_par, ws_unp, ws_sto, ws_stoF, ws_for, wi_seq, wi_rng1, wi_enum, seqP_lst, seqP_klst, seqP_tup, seqP_ktup, rngP_i, enumP_lst, goP_nx, goP_ret, goP_ct, goP_brk, goP_er, bodyP_nx, bodyP_ret, bodyP_er, turnP_nx, turnP_ct, turnP_brk, turnP_ret, turnP_er, w_run, startD, List.map_cons, List.map_nil, List.length_cons, List.length_nil, List.replicate, List.cons_append, List.nil_append, List.append_nil, List.getElem?_cons_zero, List.getElem?_cons_succ, List.set_cons_zero, List.set_cons_succ, w_v, slotP_s, w_addI, w_subI, w_mulI, w_divI, w_modI, w_powI, w_ltI, w_leI, w_gtI, w_geI, w_isN, w_notN, isNon_n, isNon_i, isNon_t, isNon_s, w_intI, w_intB, w_absI, w_maxI, w_minI, decide_eq_true_eq, Bool.not_eq_true, if_true, if_false, ite_true, ite_false, reduceCtorEq, Bool.false_eq_true, Bool.not_true, Bool.not_false, eq_self_iff_true, true_and, and_true, w_eqI, w_neI, w_ixT, w_ixL, ixP_s, at2_0, at2_1, at2_m1, at4_0, at4_1, at4_2, at4_3, at4_m1, at7_0, at7_1, at7_2, at7_3, at7_4, at7_5, at7_6, at7_m1, oD_none, oD_some, tgP_2, w_appLoc, w_lenLoc, w_lenLst, w_meth, List.length_map, goM_nx, goM_ret, goM_ct, goM_brk, goM_er, wi_str, strP_s, b_law_inside, rgD]
        by_cases hl : l ≤ v
        · rw [if_pos hl]; simp [inB, hl]
        · rw [if_neg hl]; simp [inB, hl]
      | some h =>
        simp -implicitDefEqProofs only [WR_ok, WS_ok, WR_bind, w_c, w_bin, boolP_b, notP_b, w_not, w_and, w_or, w_if, w_chain, w_evs0, w_evs, w_call, w_callK, w_tup, w_lst, w_cell, cellP_lst, cellP_dct, negP_i, w_neg, w_fld, w_methC, w_make, w_makeZ, ws_next, ws_brk, ws_ct, ws_seq, ws_asg, ws_ret, ws_drop, ws_if, ws_par, ws_unp, ws_sto, ws_stoF, ws_for, wi_seq, wi_rng1, wi_enum, seqP_lst, seqP_klst, seqP_tup, seqP_ktup, rngP_i, enumP_lst, goP_nx, goP_ret, goP_ct, goP_brk, goP_er, bodyP_nx, bodyP_ret, bodyP_er, turnP_nx, turnP_ct, turnP_brk, turnP_ret, turnP_er, w_run, startD, List.map_cons, List.map_nil, List.length_cons, List.length_nil, List.replicate, List.cons_append, List.nil_append, List.append_nil, List.getElem?_cons_zero, List.getElem?_cons_succ, List.set_cons_zero, List.set_cons_succ, w_v, slotP_s, w_addI, w_subI, w_mulI, w_divI, w_modI, w_powI, w_ltI, w_leI, w_gtI, w_geI, w_isN, w_notN, isNon_n, isNon_i, isNon_t, isNon_s, w_intI, w_intB, w_absI, w_maxI, w_minI, decide_eq_true_eq, Bool.not_eq_true, if_true, if_false, ite_true, ite_false, reduceCtorEq, Bool.false_eq_true, Bool.not_true, Bool.not_false, eq_self_iff_true, true_and, and_true, w_eqI, w_neI, w_ixT, w_ixL, ixP_s, at2_0, at2_1, at2_m1, at4_0, at4_1, at4_2, at4_3, at4_m1, at7_0, at7_1, at7_2, at7_3, at7_4, at7_5, at7_6, at7_m1, oD_none, oD_some, tgP_2, w_appLoc, w_lenLoc, w_lenLst, w_meth, List.length_map, goM_nx, goM_ret, goM_ct, goM_brk, goM_er, wi_str, strP_s, b_law_inside, rgD]
        by_cases hl : l ≤ v
        · rw [if_pos hl]; simp [inB, hl]
        · rw [if_neg hl]; simp [inB, hl]
theorem spec_is_in {S : List Cell} (g : Rg) (v : Option Int) : WR (G_is_in [oD v, rgD g] S) (fun d S' => d = .bl (inB g v) ∧ S' = S) E0 := by
  unfold G_is_in
  obtain ⟨lo, hi⟩ := g
  cases v with
  | none =>
    simp -implicitDefEqProofs only [WR_ok, WS_ok, WR_bind, w_c, w_bin, boolP_b, notP_b, w_not, w_and, w_or, w_if, w_chain, w_evs0, w_evs, w_call, w_callK, w_tup, w_lst, w_cell, cellP_lst, cellP_dct, negP_i, w_neg, w_fld, w_methC, w_make, w_makeZ, ws_next, ws_brk, ws_ct, ws_seq, ws_asg, ws_ret, ws_drop, ws_if, ws_par, ws_unp, ws_sto, ws_stoF, ws_for, wi_seq, wi_rng1, wi_enum, seqP_lst, seqP_klst, seqP_tup, seqP_ktup, rngP_i, enumP_lst, goP_nx, goP_ret, goP_ct, goP_brk, goP_er, bodyP_nx, bodyP_ret, bodyP_er, turnP_nx, turnP_ct, turnP_brk, turnP_ret, turnP_er, w_run, startD, List.map_cons, List.map_nil, List.length_cons, List.length_nil, List.replicate, List.cons_append, List.nil_append, List.append_nil, List.getElem?_cons_zero, List.getElem?_cons_succ, List.set_cons_zero, List.set_cons_succ, w_v, slotP_s, w_addI, w_subI, w_mulI, w_divI, w_modI, w_powI, w_ltI, w_leI, w_gtI, w_geI, w_isN, w_notN, isNon_n, isNon_i, isNon_t, isNon_s, w_intI, w_intB, w_absI, w_maxI, w_minI, decide_eq_true_eq, Bool.not_eq_true, if_true, if_false, ite_true, ite_false, reduceCtorEq, Bool.false_eq_true, Bool.not_true, Bool.not_false, eq_self_iff_true, true_and, and_true, w_eqI, w_neI, w_ixT, w_ixL, ixP_s, at2_0, at2_1, at2_m1, at4_0, at4_1, at4_2, at4_3, at4_m1, at7_0, at7_1, at7_2, at7_3, at7_4, at7_5, at7_6, at7_m1, oD_none, oD_some, tgP_2, w_appLoc, w_lenLoc, w_lenLst, w_meth, List.length_map, goM_nx, goM_ret, goM_ct, goM_brk, goM_er, wi_str, strP_s, b_is_in, rgD]
    rfl
  | some v =>
    cases lo with
    | none =>
      cases hi with
      | none =>
        simp -implicitDefEqProofs only [WR_ok, WS_ok, WR_bind, w_c, w_bin, boolP_b, notP_b, w_not, w_and, w_or, w_if, w_chain, w_evs0, w_evs, w_call, w_callK, w_tup, w_lst, w_cell, cellP_lst, cellP_dct, negP_i, w_neg, w_fld, w_methC, w_make, w_makeZ, ws_next, ws_brk, ws_ct, ws_seq, ws_asg, ws_ret, ws_drop, ws_if, ws_par, ws_unp, ws_sto, ws_stoF, ws_for, wi_seq, wi_rng1, wi_enum, seqP_lst, seqP_klst, seqP_tup, seqP_ktup, rngP_i, enumP_lst, goP_nx, goP_ret, goP_ct, goP_brk, goP_er, bodyP_nx, bodyP_ret, bodyP_er, turnP_nx, turnP_ct, turnP_brk, turnP_ret, turnP_er, w_run, startD, List.map_cons, List.map_nil, List.length_cons, List.length_nil, List.replicate, List.cons_append, List.nil_append, List.append_nil, List.getElem?_cons_zero, List.getElem?_cons_succ, List.set_cons_zero, List.set_cons_succ, w_v, slotP_s, w_addI, w_subI, w_mulI, w_divI, w_modI, w_powI, w_ltI, w_leI, w_gtI, w_geI, w_isN, w_notN, isNon_n, isNon_i, isNon_t, isNon_s, w_intI, w_intB, w_absI, w_maxI, w_minI, decide_eq_true_eq, Bool.not_eq_true, if_true, if_false, ite_true, ite_false, reduceCtorEq, Bool.false_eq_true, Bool.not_true, Bool.not_false, eq_self_iff_true, true_and, and_true, w_eqI, w_neI, w_ixT, w_ixL, ixP_s, at2_0, at2_1, at2_m1, at4_0, at4_1, at4_2, at4_3, at4_m1, at7_0, at7_1, at7_2, at7_3, at7_4, at7_5, at7_6, at7_m1, oD_none, oD_some, tgP_2, w_appLoc, w_lenLoc, w_lenLst, w_meth, List.length_map, goM_nx, goM_ret, goM_ct, goM_brk, goM_er, wi_str, strP_s, b_is_in, rgD]
        rfl
      | some h =>
        simp -implicitDefEqProofs only [WR_ok, WS_ok, WR_bind, w_c, w_bin, boolP_b, notP_b, w_not, w_and, w_or, w_if, w_chain, w_evs0, w_evs, w_call, w_callK, w_tup, w_lst, w_cell, cellP_lst, cellP_dct, negP_i, w_neg, w_fld, w_methC, w_make, w_makeZ, ws_next, ws_brk, ws_ct, ws_seq, ws_asg, ws_ret, ws_drop, ws_if, ws_par, ws_unp, ws_sto, ws_stoF, ws_for, wi_seq, wi_rng1, wi_enum, seqP_lst, seqP_klst, seqP_tup, seqP_ktup, rngP_i, enumP_lst, goP_nx, goP_ret, goP_ct, goP_brk, goP_er, bodyP_nx, bodyP_ret, bodyP_er, turnP_nx, turnP_ct, turnP_brk, turnP_ret, turnP_er, w_run, startD, List.map_cons, List.map_nil, List.length_cons, List.length_nil, List.replicate, List.cons_append, List.nil_append, List.append_nil, List.getElem?_cons_zero, List.getElem?_cons_succ, List.set_cons_zero, List.set_cons_succ, w_v, slotP_s, w_addI, w_subI, w_mulI, w_divI, w_modI, w_powI, w_ltI, w_leI, w_gtI, w_geI, w_isN, w_notN, isNon_n, isNon_i, isNon_t, isNon_s, w_intI, w_intB, w_absI, w_maxI, w_minI, decide_eq_true_eq, Bool.not_eq_true, if_true, if_false, ite_true, ite_false, reduceCtorEq, Bool.false_eq_true, Bool.not_true, Bool.not_false, eq_self_iff_true, true_and, and_true, w_eqI, w_neI, w_ixT, w_ixL, ixP_s, at2_0, at2_1, at2_m1, at4_0, at4_1, at4_2, at4_3, at4_m1, at7_0, at7_1, at7_2, at7_3, at7_4, at7_5, at7_6, at7_m1, oD_none, oD_some, tgP_2, w_appLoc, w_lenLoc, w_lenLst, w_meth, List.length_map, goM_nx, goM_ret, goM_ct, goM_brk, goM_er, wi_str, strP_s, b_is_in, rgD]
        simp [inB]
    | some l =>
      cases hi with
      | none =>
        simp -implicitDefEqProofs only [WR_ok, WS_ok, WR_bind, w_c, w_bin, boolP_b, notP_b, w_not, w_and, w_or, w_if, w_chain, w_evs0, w_evs, w_call, w_callK, w_tup, w_lst, w_cell, cellP_lst, cellP_dct, negP_i, w_neg, w_fld, w_methC, w_make, w_makeZ, ws_next, ws_brk, ws_ct, ws_seq, ws_asg, ws_ret, ws_drop, ws_if, ws_par, ws_unp, ws_sto, ws_stoF, ws_for, wi_seq, wi_rng1, wi_enum, seqP_lst, seqP_klst, seqP_tup, seqP_ktup, rngP_i, enumP_lst, goP_nx, goP_ret, goP_ct, goP_brk, goP_er, bodyP_nx, bodyP_ret, bodyP_er, turnP_nx, turnP_ct, turnP_brk, turnP_ret, turnP_er, w_run, startD, List.map_cons, List.map_nil, List.length_cons, List.length_nil, List.replicate, List.cons_append, List.nil_append, List.append_nil, List.getElem?_cons_zero, List.getElem?_cons_succ, List.set_cons_zero, List.set_cons_succ, w_v, slotP_s, w_addI, w_subI, w_mulI, w_divI, w_modI, w_powI, w_ltI, w_leI, w_gtI, w_geI, w_isN, w_notN, isNon_n, isNon_i, isNon_t, isNon_s, w_intI, w_intB, w_absI, w_maxI, w_minI, decide_eq_true_eq, Bool.not_eq_true, if_true, if_false, ite_true, ite_false, reduceCtorEq, Bool.false_eq_true, Bool.not_true, Bool.not_false, eq_self_iff_true, true_and, and_true, w_eqI, w_neI, w_ixT, w_ixL, ixP_s, at2_0, at2_1, at2_m1, at4_0, at4_1, at4_2, at4_3, at4_m1, at7_0, at7_1, at7_2, at7_3, at7_4, at7_5, at7_6, at7_m1, oD_none, oD_some, tgP_2, w_appLoc, w_lenLoc, w_lenLst, w_meth, List.length_map, goM_nx, goM_ret, goM_ct, goM_brk, goM_er, wi_str, strP_s, b_is_in, rgD]
        by_cases hl : l ≤ v
        · rw [if_pos hl]; simp [inB, hl]
        · rw [if_neg hl]; simp [inB, hl]
      | some h =>
        simp -implicitDefEqProofs only [WR_ok, WS_ok, WR_bind, w_c, w_bin, boolP_b, notP_b, w_not, w_and, w_or, w_if, w_chain, w_evs0, w_evs, w_call, w_callK, w_tup, w_lst, w_cell, cellP_lst, cellP_dct, negP_i, w_neg, w_fld, w_methC, w_make, w_makeZ, ws_next, ws_brk, ws_ct, ws_seq, ws_asg, ws_ret, ws_drop, ws_if, ws_par, ws_unp, ws_sto, ws_stoF, ws_for, wi_seq, wi_rng1, wi_enum, seqP_lst, seqP_klst, seqP_tup, seqP_ktup, rngP_i, enumP_lst, goP_nx, goP_ret, goP_ct, goP_brk, goP_er, bodyP_nx, bodyP_ret, bodyP_er, turnP_nx, turnP_ct, turnP_brk, turnP_ret, turnP_er, w_run, startD, List.map_cons, List.map_nil, List.length_cons, List.length_nil, List.replicate, List.cons_append, List.nil_append, List.append_nil, List.getElem?_cons_zero, List.getElem?_cons_succ, List.set_cons_zero, List.set_cons_succ, w_v, slotP_s, w_addI, w_subI, w_mulI, w_divI, w_modI, w_powI, w_ltI, w_leI, w_gtI, w_geI, w_isN, w_notN, isNon_n, isNon_i, isNon_t, isNon_s, w_intI, w_intB, w_absI, w_maxI, w_minI, decide_eq_true_eq, Bool.not_eq_true, if_true, if_false, ite_true, ite_false, reduceCtorEq, Bool.false_eq_true, Bool.not_true, Bool.not_false, eq_self_iff_true, true_and, and_true, w_eqI, w_neI, w_ixT, w_ixL, ixP_s, at2_0, at2_1, at2_m1, at4_0, at4_1, at4_2, at4_3, at4_m1, at7_0, at7_1, at7_2, at7_3, at7_4, at7_5, at7_6, at7_m1, oD_none, oD_some, tgP_2, w_appLoc, w_lenLoc, w_lenLst, w_meth, List.length_map, goM_nx, goM_ret, goM_ct, goM_brk, goM_er, wi_str, strP_s, b_is_in, rgD]
        by_cases hl : l ≤ v
        · rw [if_pos hl]; simp [inB, hl]
        · rw [if_neg hl]; simp [inB, hl]


/-- a rule as the law draws it -/
structure RowOk (B : Int) (ws : List Str) (r : Row) : Prop where
  nm : ∀ n ∈ r.names, n ∈ ws
  cs : ∀ c ∈ r.cs, rgOk c.2 ∧ rgBnd B c.2
  few : r.cs.length ≤ 2
  rg : match r with
    | .set _ g _ => rgOk g ∧ rgBnd B g
    | .step _ _ f a g _ => f ≠ 0 ∧ Bnd 10 (some f) ∧ Bnd B (some a) ∧ rgOk g ∧ rgBnd B g
theorem at_str {ws : List Str} {z : Int} (h0 : 0 ≤ z) (h1 : z < ws.length) : ∃ w ∈ ws, atD (ws.map D.str) z = some (.str w) := by
  obtain ⟨d, h2, h3, _⟩ := atD_int (l := ws.map D.str) h0 (by simpa using h1)
  obtain ⟨w, hw, e⟩ := List.mem_map.mp h3
  exact ⟨w, hw, by rw [h2, ← e]⟩
theorem spec_word {S0 S : List Cell} {r n : Nat} {ws : List Str} (hr : r < S0.length) (R : RS S0 r n S) (hn : n ≤ 2 ^ 39) (hw : 0 < ws.length) (hw2 : ws.length < 2 ^ 100) :
    WR (G_law_draw [.loc r, .int (ws.length : Nat)] S) (fun d S' => RS S0 r (n + 1) S' ∧ ∃ z w, d = .int z ∧ w ∈ ws ∧ atD (ws.map D.str) z = some (.str w)) E0 := by
  refine (spec_draw hr R (by omega) (by omega) (by omega)).call ?_
  rintro d S1 ⟨R1, z, rfl, h0, h1⟩
  obtain ⟨w, hw, e⟩ := at_str h0 h1
  exact ⟨R1, z, w, rfl, hw, e⟩
theorem spec_rule {S0 S : List Cell} {r n : Nat} {far : Int} {B : Int} {ws : List Str} (hr : r < S0.length) (R : RS S0 r n S) (hn : n ≤ 2 ^ 37) (h1 : -B ≤ far) (h2 : far ≤ B) (hB : 200 ≤ B) (hw : 0 < ws.length) (hw2 : ws.length < 2 ^ 100) (hp : PureS S0) :
    WR (G_law_rule [.loc r, .lst (ws.map D.str), .int far] S) (fun d S' => RS S0 r (n + 100) S' ∧ ∃ row, d = rowD row ∧ RowOk B ws row) E0 := by
  have hl : S.length = S0.length := R.len
  have wlen : (ws.map D.str).length = ws.length := List.length_map ..
  unfold G_law_rule
  refine w_seal ?_
  simp -implicitDefEqProofs only [WR_ok, WS_ok, WR_bind, w_c, w_bin, boolP_b, notP_b, w_not, w_and, w_or, w_if, w_chain, w_evs0, w_evs, w_call, w_callK, w_tup, w_lst, w_cell, cellP_lst, cellP_dct, negP_i, w_neg, w_fld, w_methC, w_make, w_makeZ, ws_next, ws_brk, ws_ct, ws_seq, ws_asg, ws_ret, ws_drop, ws_if, ws_par, ws_unp, ws_sto, ws_stoF, ws_for, wi_seq, wi_rng1, wi_enum, seqP_lst, seqP_klst, seqP_tup, seqP_ktup, rngP_i, enumP_lst, goP_nx, goP_ret, goP_ct, goP_brk, goP_er, bodyP_nx, bodyP_ret, bodyP_er, turnP_nx, turnP_ct, turnP_brk, turnP_ret, turnP_er, w_run, startD, List.map_cons, List.map_nil, List.length_cons, List.length_nil, List.replicate, List.cons_append, List.nil_append, List.append_nil, List.getElem?_cons_zero, List.getElem?_cons_succ, List.set_cons_zero, List.set_cons_succ, w_v, slotP_s, w_addI, w_subI, w_mulI, w_divI, w_modI, w_powI, w_ltI, w_leI, w_gtI, w_geI, w_isN, w_notN, isNon_n, isNon_i, isNon_t, isNon_s, w_intI, w_intB, w_absI, w_maxI, w_minI, decide_eq_true_eq, Bool.not_eq_true, if_true, if_false, ite_true, ite_false, reduceCtorEq, Bool.false_eq_true, Bool.not_true, Bool.not_false, eq_self_iff_true, true_and, and_true, w_eqI, w_neI, w_ixT, w_ixL, ixP_s, at2_0, at2_1, at2_m1, at4_0, at4_1, at4_2, at4_3, at4_m1, at7_0, at7_1, at7_2, at7_3, at7_4, at7_5, at7_6, at7_m1, oD_none, oD_some, tgP_2, w_appLoc, w_lenLoc, w_lenLst, w_meth, List.length_map, goM_nx, goM_ret, goM_ct, goM_brk, goM_er, wi_str, strP_s, b_law_rule]
  have R0 := R.push hr (.lst [])
  have hr1 : ∀ c : Cell, r < (S0 ++ [c]).length := fun c => by simp; omega
  refine (spec_draw (hr1 _) R0 (by decide) (by decide) (by omega)).call ?_
  rintro _ S1 ⟨R1, z1, rfl, a1, b1⟩
  simp -implicitDefEqProofs only [WR_ok, WS_ok, WR_bind, w_c, w_bin, boolP_b, notP_b, w_not, w_and, w_or, w_if, w_chain, w_evs0, w_evs, w_call, w_callK, w_tup, w_lst, w_cell, cellP_lst, cellP_dct, negP_i, w_neg, w_fld, w_methC, w_make, w_makeZ, ws_next, ws_brk, ws_ct, ws_seq, ws_asg, ws_ret, ws_drop, ws_if, ws_par, ws_unp, ws_sto, ws_stoF, ws_for, wi_seq, wi_rng1, wi_enum, seqP_lst, seqP_klst, seqP_tup, seqP_ktup, rngP_i, enumP_lst, goP_nx, goP_ret, goP_ct, goP_brk, goP_er, bodyP_nx, bodyP_ret, bodyP_er, turnP_nx, turnP_ct, turnP_brk, turnP_ret, turnP_er, w_run, startD, List.map_cons, List.map_nil, List.length_cons, List.length_nil, List.replicate, List.cons_append, List.nil_append, List.append_nil, List.getElem?_cons_zero, List.getElem?_cons_succ, List.set_cons_zero, List.set_cons_succ, w_v, slotP_s, w_addI, w_subI, w_mulI, w_divI, w_modI, w_powI, w_ltI, w_leI, w_gtI, w_geI, w_isN, w_notN, isNon_n, isNon_i, isNon_t, isNon_s, w_intI, w_intB, w_absI, w_maxI, w_minI, decide_eq_true_eq, Bool.not_eq_true, if_true, if_false, ite_true, ite_false, reduceCtorEq, Bool.false_eq_true, Bool.not_true, Bool.not_false, eq_self_iff_true, true_and, and_true, w_eqI, w_neI, w_ixT, w_ixL, ixP_s, at2_0, at2_1, at2_m1, at4_0, at4_1, at4_2, at4_3, at4_m1, at7_0, at7_1, at7_2, at7_3, at7_4, at7_5, at7_6, at7_m1, oD_none, oD_some, tgP_2, w_appLoc, w_lenLoc, w_lenLst, w_meth, List.length_map, goM_nx, goM_ret, goM_ct, goM_brk, goM_er, wi_str, strP_s]
  refine ⟨by unfold rngOk; simp; split <;> omega, ?_⟩
  refine for_inv (fun i ρ S' => ∃ (x : Option D) (cs : List (Str × Rg)), ρ = [some (.loc r), some (.lst (ws.map D.str)), some (.int far), some (.loc S.length), x, none, none, none, none] ∧ RS (S0 ++ [.lst (cs.map cdD)]) r (n + 1 + 7 * i) S' ∧ cs.length ≤ i ∧ ∀ c ∈ cs, c.1 ∈ ws ∧ rgOk c.2 ∧ rgBnd B c.2)
    ⟨none, [], rfl, R1.mono (by omega), Nat.zero_le _, by simp⟩ (fun _ _ _ _ => trivial) ?_ ?_
  · rintro i d ρ S2 hi ⟨x, cs, rfl, R2, hc, hcs⟩
    have hi2 : i < 2 := by
      have := (List.getElem?_eq_some_iff.mp hi).1
      simp [intsD] at this
      split at this <;> omega
    simp -implicitDefEqProofs only [WR_ok, WS_ok, WR_bind, w_c, w_bin, boolP_b, notP_b, w_not, w_and, w_or, w_if, w_chain, w_evs0, w_evs, w_call, w_callK, w_tup, w_lst, w_cell, cellP_lst, cellP_dct, negP_i, w_neg, w_fld, w_methC, w_make, w_makeZ, ws_next, ws_brk, ws_ct, ws_seq, ws_asg, ws_ret, ws_drop, ws_if, ws_par, ws_unp, ws_sto, ws_stoF, ws_for, wi_seq, wi_rng1, wi_enum, seqP_lst, seqP_klst, seqP_tup, seqP_ktup, rngP_i, enumP_lst, goP_nx, goP_ret, goP_ct, goP_brk, goP_er, bodyP_nx, bodyP_ret, bodyP_er, turnP_nx, turnP_ct, turnP_brk, turnP_ret, turnP_er, w_run, startD, List.map_cons, List.map_nil, List.length_cons, List.length_nil, List.replicate, List.cons_append, List.nil_append, List.append_nil, List.getElem?_cons_zero, List.getElem?_cons_succ, List.set_cons_zero, List.set_cons_succ, w_v, slotP_s, w_addI, w_subI, w_mulI, w_divI, w_modI, w_powI, w_ltI, w_leI, w_gtI, w_geI, w_isN, w_notN, isNon_n, isNon_i, isNon_t, isNon_s, w_intI, w_intB, w_absI, w_maxI, w_minI, decide_eq_true_eq, Bool.not_eq_true, if_true, if_false, ite_true, ite_false, reduceCtorEq, Bool.false_eq_true, Bool.not_true, Bool.not_false, eq_self_iff_true, true_and, and_true, w_eqI, w_neI, w_ixT, w_ixL, ixP_s, at2_0, at2_1, at2_m1, at4_0, at4_1, at4_2, at4_3, at4_m1, at7_0, at7_1, at7_2, at7_3, at7_4, at7_5, at7_6, at7_m1, oD_none, oD_some, tgP_2, w_appLoc, w_lenLoc, w_lenLst, w_meth, List.length_map, goM_nx, goM_ret, goM_ct, goM_brk, goM_er, wi_str, strP_s, tgT', tgN]
    have hL : ∀ {m : Nat} {S3 : List Cell}, RS (S0 ++ [.lst (cs.map cdD)]) r m S3 → S3[S.length]? = some (.lst (cs.map cdD)) := fun R => by
      rw [hl]; exact R.last hr
    refine ⟨ty_loc (hL R2), ?_⟩
    refine (spec_word (hr1 _) R2 (by omega) hw hw2).call ?_
    rintro _ S3 ⟨R3, z, w, rfl, hw1, e⟩
    simp -implicitDefEqProofs only [WR_ok, WS_ok, WR_bind, w_c, w_bin, boolP_b, notP_b, w_not, w_and, w_or, w_if, w_chain, w_evs0, w_evs, w_call, w_callK, w_tup, w_lst, w_cell, cellP_lst, cellP_dct, negP_i, w_neg, w_fld, w_methC, w_make, w_makeZ, ws_next, ws_brk, ws_ct, ws_seq, ws_asg, ws_ret, ws_drop, ws_if, ws_par, ws_unp, ws_sto, ws_stoF, ws_for, wi_seq, wi_rng1, wi_enum, seqP_lst, seqP_klst, seqP_tup, seqP_ktup, rngP_i, enumP_lst, goP_nx, goP_ret, goP_ct, goP_brk, goP_er, bodyP_nx, bodyP_ret, bodyP_er, turnP_nx, turnP_ct, turnP_brk, turnP_ret, turnP_er, w_run, startD, List.map_cons, List.map_nil, List.length_cons, List.length_nil, List.replicate, List.cons_append, List.nil_append, List.append_nil, List.getElem?_cons_zero, List.getElem?_cons_succ, List.set_cons_zero, List.set_cons_succ, w_v, slotP_s, w_addI, w_subI, w_mulI, w_divI, w_modI, w_powI, w_ltI, w_leI, w_gtI, w_geI, w_isN, w_notN, isNon_n, isNon_i, isNon_t, isNon_s, w_intI, w_intB, w_absI, w_maxI, w_minI, decide_eq_true_eq, Bool.not_eq_true, if_true, if_false, ite_true, ite_false, reduceCtorEq, Bool.false_eq_true, Bool.not_true, Bool.not_false, eq_self_iff_true, true_and, and_true, w_eqI, w_neI, w_ixT, w_ixL, ixP_s, at2_0, at2_1, at2_m1, at4_0, at4_1, at4_2, at4_3, at4_m1, at7_0, at7_1, at7_2, at7_3, at7_4, at7_5, at7_6, at7_m1, oD_none, oD_some, tgP_2, w_appLoc, w_lenLoc, w_lenLst, w_meth, List.length_map, goM_nx, goM_ret, goM_ct, goM_brk, goM_er, wi_str, strP_s, e]
    refine (spec_within (B := B) (hr1 _) R3 (by omega) h1 h2 hB).call ?_
    rintro _ S4 ⟨R4, g, rfl, g1, g2⟩
    try simp -implicitDefEqProofs only [WR_ok, WS_ok, WR_bind, w_c, w_bin, boolP_b, notP_b, w_not, w_and, w_or, w_if, w_chain, w_evs0, w_evs, w_call, w_callK, w_tup, w_lst, w_cell, cellP_lst, cellP_dct, negP_i, w_neg, w_fld, w_methC, w_make, w_makeZ, ws_next, ws_brk, ws_ct, ws_seq, ws_asg, ws_ret, ws_drop, ws_if, ws_par, ws_unp, ws_sto, ws_stoF, ws_for, wi_seq, wi_rng1, wi_enum, seqP_lst, seqP_klst, seqP_tup, seqP_ktup, rngP_i, enumP_lst, goP_nx, goP_ret, goP_ct, goP_brk, goP_er, bodyP_nx, bodyP_ret, bodyP_er, turnP_nx, turnP_ct, turnP_brk, turnP_ret, turnP_er, w_run, startD, List.map_cons, List.map_nil, List.length_cons, List.length_nil, List.replicate, List.cons_append, List.nil_append, List.append_nil, List.getElem?_cons_zero, List.getElem?_cons_succ, List.set_cons_zero, List.set_cons_succ, w_v, slotP_s, w_addI, w_subI, w_mulI, w_divI, w_modI, w_powI, w_ltI, w_leI, w_gtI, w_geI, w_isN, w_notN, isNon_n, isNon_i, isNon_t, isNon_s, w_intI, w_intB, w_absI, w_maxI, w_minI, decide_eq_true_eq, Bool.not_eq_true, if_true, if_false, ite_true, ite_false, reduceCtorEq, Bool.false_eq_true, Bool.not_true, Bool.not_false, eq_self_iff_true, true_and, and_true, w_eqI, w_neI, w_ixT, w_ixL, ixP_s, at2_0, at2_1, at2_m1, at4_0, at4_1, at4_2, at4_3, at4_m1, at7_0, at7_1, at7_2, at7_3, at7_4, at7_5, at7_6, at7_m1, oD_none, oD_some, tgP_2, w_appLoc, w_lenLoc, w_lenLst, w_meth, List.length_map, goM_nx, goM_ret, goM_ct, goM_brk, goM_er, wi_str, strP_s]
    rw [w_appLoc (hL R4)]
    refine ⟨by simp [big]; omega, some d, cs ++ [(w, g)], rfl, ?_, by simp; omega, ?_⟩
    · rw [hl, List.map_append]
      exact (R4.app hr _).mono (by omega)
    · intro c hc
      rcases List.mem_append.mp hc with hc | hc
      · exact hcs c hc
      · simp at hc; subst hc; exact ⟨hw1, g1, g2⟩
  · rintro ρ S2 ⟨x, cs, rfl, R2, hc, hcs⟩
    have hlen : (intsD 0 (if z1 - 2 > 0 then z1 - 2 else 0).toNat).length ≤ 2 := by
      simp [intsD]; split <;> omega
    have hL : ∀ {m : Nat} {S3 : List Cell}, RS (S0 ++ [.lst (cs.map cdD)]) r m S3 → S3[S.length]? = some (.lst (cs.map cdD)) := fun R => by
      rw [hl]; exact R.last hr
    have fin : ∀ {m : Nat} {S3 : List Cell}, RS (S0 ++ [.lst (cs.map cdD)]) r m S3 → m ≤ n + 100 → RS S0 r (n + 100) (S3.take S.length) ∧ ∀ c ∈ S3.take S.length, pureC c = true := fun R hm => by
      rw [hl]
      exact ⟨(R.pop hr).mono hm, (R.pop hr).pure hp⟩
    simp -implicitDefEqProofs only [WR_ok, WS_ok, WR_bind, w_c, w_bin, boolP_b, notP_b, w_not, w_and, w_or, w_if, w_chain, w_evs0, w_evs, w_call, w_callK, w_tup, w_lst, w_cell, cellP_lst, cellP_dct, negP_i, w_neg, w_fld, w_methC, w_make, w_makeZ, ws_next, ws_brk, ws_ct, ws_seq, ws_asg, ws_ret, ws_drop, ws_if, ws_par, ws_unp, ws_sto, ws_stoF, ws_for, wi_seq, wi_rng1, wi_enum, seqP_lst, seqP_klst, seqP_tup, seqP_ktup, rngP_i, enumP_lst, goP_nx, goP_ret, goP_ct, goP_brk, goP_er, bodyP_nx, bodyP_ret, bodyP_er, turnP_nx, turnP_ct, turnP_brk, turnP_ret, turnP_er, w_run, startD, List.map_cons, List.map_nil, List.length_cons, List.length_nil, List.replicate, List.cons_append, List.nil_append, List.append_nil, List.getElem?_cons_zero, List.getElem?_cons_succ, List.set_cons_zero, List.set_cons_succ, w_v, slotP_s, w_addI, w_subI, w_mulI, w_divI, w_modI, w_powI, w_ltI, w_leI, w_gtI, w_geI, w_isN, w_notN, isNon_n, isNon_i, isNon_t, isNon_s, w_intI, w_intB, w_absI, w_maxI, w_minI, decide_eq_true_eq, Bool.not_eq_true, if_true, if_false, ite_true, ite_false, reduceCtorEq, Bool.false_eq_true, Bool.not_true, Bool.not_false, eq_self_iff_true, true_and, and_true, w_eqI, w_neI, w_ixT, w_ixL, ixP_s, at2_0, at2_1, at2_m1, at4_0, at4_1, at4_2, at4_3, at4_m1, at7_0, at7_1, at7_2, at7_3, at7_4, at7_5, at7_6, at7_m1, oD_none, oD_some, tgP_2, w_appLoc, w_lenLoc, w_lenLst, w_meth, List.length_map, goM_nx, goM_ret, goM_ct, goM_brk, goM_er, wi_str, strP_s]
    refine (spec_word (hr1 _) R2 (by omega) hw hw2).call ?_
    rintro _ S3 ⟨R3, z, w, rfl, hw1, e⟩
    simp -implicitDefEqProofs only [WR_ok, WS_ok, WR_bind, w_c, w_bin, boolP_b, notP_b, w_not, w_and, w_or, w_if, w_chain, w_evs0, w_evs, w_call, w_callK, w_tup, w_lst, w_cell, cellP_lst, cellP_dct, negP_i, w_neg, w_fld, w_methC, w_make, w_makeZ, ws_next, ws_brk, ws_ct, ws_seq, ws_asg, ws_ret, ws_drop, ws_if, ws_par, ws_unp, ws_sto, ws_stoF, ws_for, wi_seq, wi_rng1, wi_enum, seqP_lst, seqP_klst, seqP_tup, seqP_ktup, rngP_i, enumP_lst, goP_nx, goP_ret, goP_ct, goP_brk, goP_er, bodyP_nx, bodyP_ret, bodyP_er, turnP_nx, turnP_ct, turnP_brk, turnP_ret, turnP_er, w_run, startD, List.map_cons, List.map_nil, List.length_cons, List.length_nil, List.replicate, List.cons_append, List.nil_append, List.append_nil, List.getElem?_cons_zero, List.getElem?_cons_succ, List.set_cons_zero, List.set_cons_succ, w_v, slotP_s, w_addI, w_subI, w_mulI, w_divI, w_modI, w_powI, w_ltI, w_leI, w_gtI, w_geI, w_isN, w_notN, isNon_n, isNon_i, isNon_t, isNon_s, w_intI, w_intB, w_absI, w_maxI, w_minI, decide_eq_true_eq, Bool.not_eq_true, if_true, if_false, ite_true, ite_false, reduceCtorEq, Bool.false_eq_true, Bool.not_true, Bool.not_false, eq_self_iff_true, true_and, and_true, w_eqI, w_neI, w_ixT, w_ixL, ixP_s, at2_0, at2_1, at2_m1, at4_0, at4_1, at4_2, at4_3, at4_m1, at7_0, at7_1, at7_2, at7_3, at7_4, at7_5, at7_6, at7_m1, oD_none, oD_some, tgP_2, w_appLoc, w_lenLoc, w_lenLst, w_meth, List.length_map, goM_nx, goM_ret, goM_ct, goM_brk, goM_er, wi_str, strP_s, e]
    refine (spec_word (hr1 _) R3 (by omega) hw hw2).call ?_
    rintro _ S4 ⟨R4, z', w', rfl, hw1', e'⟩
    simp -implicitDefEqProofs only [WR_ok, WS_ok, WR_bind, w_c, w_bin, boolP_b, notP_b, w_not, w_and, w_or, w_if, w_chain, w_evs0, w_evs, w_call, w_callK, w_tup, w_lst, w_cell, cellP_lst, cellP_dct, negP_i, w_neg, w_fld, w_methC, w_make, w_makeZ, ws_next, ws_brk, ws_ct, ws_seq, ws_asg, ws_ret, ws_drop, ws_if, ws_par, ws_unp, ws_sto, ws_stoF, ws_for, wi_seq, wi_rng1, wi_enum, seqP_lst, seqP_klst, seqP_tup, seqP_ktup, rngP_i, enumP_lst, goP_nx, goP_ret, goP_ct, goP_brk, goP_er, bodyP_nx, bodyP_ret, bodyP_er, turnP_nx, turnP_ct, turnP_brk, turnP_ret, turnP_er, w_run, startD, List.map_cons, List.map_nil, List.length_cons, List.length_nil, List.replicate, List.cons_append, List.nil_append, List.append_nil, List.getElem?_cons_zero, List.getElem?_cons_succ, List.set_cons_zero, List.set_cons_succ, w_v, slotP_s, w_addI, w_subI, w_mulI, w_divI, w_modI, w_powI, w_ltI, w_leI, w_gtI, w_geI, w_isN, w_notN, isNon_n, isNon_i, isNon_t, isNon_s, w_intI, w_intB, w_absI, w_maxI, w_minI, decide_eq_true_eq, Bool.not_eq_true, if_true, if_false, ite_true, ite_false, reduceCtorEq, Bool.false_eq_true, Bool.not_true, Bool.not_false, eq_self_iff_true, true_and, and_true, w_eqI, w_neI, w_ixT, w_ixL, ixP_s, at2_0, at2_1, at2_m1, at4_0, at4_1, at4_2, at4_3, at4_m1, at7_0, at7_1, at7_2, at7_3, at7_4, at7_5, at7_6, at7_m1, oD_none, oD_some, tgP_2, w_appLoc, w_lenLoc, w_lenLst, w_meth, List.length_map, goM_nx, goM_ret, goM_ct, goM_brk, goM_er, wi_str, strP_s, e']
    refine (spec_draw (hr1 _) R4 (by decide) (by decide) (by omega)).call ?_
    rintro _ S5 ⟨R5, z5, rfl, a5, b5⟩
    simp -implicitDefEqProofs only [WR_ok, WS_ok, WR_bind, w_c, w_bin, boolP_b, notP_b, w_not, w_and, w_or, w_if, w_chain, w_evs0, w_evs, w_call, w_callK, w_tup, w_lst, w_cell, cellP_lst, cellP_dct, negP_i, w_neg, w_fld, w_methC, w_make, w_makeZ, ws_next, ws_brk, ws_ct, ws_seq, ws_asg, ws_ret, ws_drop, ws_if, ws_par, ws_unp, ws_sto, ws_stoF, ws_for, wi_seq, wi_rng1, wi_enum, seqP_lst, seqP_klst, seqP_tup, seqP_ktup, rngP_i, enumP_lst, goP_nx, goP_ret, goP_ct, goP_brk, goP_er, bodyP_nx, bodyP_ret, bodyP_er, turnP_nx, turnP_ct, turnP_brk, turnP_ret, turnP_er, w_run, startD, List.map_cons, List.map_nil, List.length_cons, List.length_nil, List.replicate, List.cons_append, List.nil_append, List.append_nil, List.getElem?_cons_zero, List.getElem?_cons_succ, List.set_cons_zero, List.set_cons_succ, w_v, slotP_s, w_addI, w_subI, w_mulI, w_divI, w_modI, w_powI, w_ltI, w_leI, w_gtI, w_geI, w_isN, w_notN, isNon_n, isNon_i, isNon_t, isNon_s, w_intI, w_intB, w_absI, w_maxI, w_minI, decide_eq_true_eq, Bool.not_eq_true, if_true, if_false, ite_true, ite_false, reduceCtorEq, Bool.false_eq_true, Bool.not_true, Bool.not_false, eq_self_iff_true, true_and, and_true, w_eqI, w_neI, w_ixT, w_ixL, ixP_s, at2_0, at2_1, at2_m1, at4_0, at4_1, at4_2, at4_3, at4_m1, at7_0, at7_1, at7_2, at7_3, at7_4, at7_5, at7_6, at7_m1, oD_none, oD_some, tgP_2, w_appLoc, w_lenLoc, w_lenLst, w_meth, List.length_map, goM_nx, goM_ret, goM_ct, goM_brk, goM_er, wi_str, strP_s]
    by_cases h5 : z5 = 0
    · rw [if_pos h5]
      try simp -implicitDefEqProofs only [WR_ok, WS_ok, WR_bind, w_c, w_bin, boolP_b, notP_b, w_not, w_and, w_or, w_if, w_chain, w_evs0, w_evs, w_call, w_callK, w_tup, w_lst, w_cell, cellP_lst, cellP_dct, negP_i, w_neg, w_fld, w_methC, w_make, w_makeZ, ws_next, ws_brk, ws_ct, ws_seq, ws_asg, ws_ret, ws_drop, ws_if, ws_par, ws_unp, ws_sto, ws_stoF, ws_for, wi_seq, wi_rng1, wi_enum, seqP_lst, seqP_klst, seqP_tup, seqP_ktup, rngP_i, enumP_lst, goP_nx, goP_ret, goP_ct, goP_brk, goP_er, bodyP_nx, bodyP_ret, bodyP_er, turnP_nx, turnP_ct, turnP_brk, turnP_ret, turnP_er, w_run, startD, List.map_cons, List.map_nil, List.length_cons, List.length_nil, List.replicate, List.cons_append, List.nil_append, List.append_nil, List.getElem?_cons_zero, List.getElem?_cons_succ, List.set_cons_zero, List.set_cons_succ, w_v, slotP_s, w_addI, w_subI, w_mulI, w_divI, w_modI, w_powI, w_ltI, w_leI, w_gtI, w_geI, w_isN, w_notN, isNon_n, isNon_i, isNon_t, isNon_s, w_intI, w_intB, w_absI, w_maxI, w_minI, decide_eq_true_eq, Bool.not_eq_true, if_true, if_false, ite_true, ite_false, reduceCtorEq, Bool.false_eq_true, Bool.not_true, Bool.not_false, eq_self_iff_true, true_and, and_true, w_eqI, w_neI, w_ixT, w_ixL, ixP_s, at2_0, at2_1, at2_m1, at4_0, at4_1, at4_2, at4_3, at4_m1, at7_0, at7_1, at7_2, at7_3, at7_4, at7_5, at7_6, at7_m1, oD_none, oD_some, tgP_2, w_appLoc, w_lenLoc, w_lenLst, w_meth, List.length_map, goM_nx, goM_ret, goM_ct, goM_brk, goM_er, wi_str, strP_s]
      refine (spec_within (B := B) (hr1 _) R5 (by omega) h1 h2 hB).call ?_
      rintro _ S6 ⟨R6, g, rfl, g1, g2⟩
      try simp -implicitDefEqProofs only [WR_ok, WS_ok, WR_bind, w_c, w_bin, boolP_b, notP_b, w_not, w_and, w_or, w_if, w_chain, w_evs0, w_evs, w_call, w_callK, w_tup, w_lst, w_cell, cellP_lst, cellP_dct, negP_i, w_neg, w_fld, w_methC, w_make, w_makeZ, ws_next, ws_brk, ws_ct, ws_seq, ws_asg, ws_ret, ws_drop, ws_if, ws_par, ws_unp, ws_sto, ws_stoF, ws_for, wi_seq, wi_rng1, wi_enum, seqP_lst, seqP_klst, seqP_tup, seqP_ktup, rngP_i, enumP_lst, goP_nx, goP_ret, goP_ct, goP_brk, goP_er, bodyP_nx, bodyP_ret, bodyP_er, turnP_nx, turnP_ct, turnP_brk, turnP_ret, turnP_er, w_run, startD, List.map_cons, List.map_nil, List.length_cons, List.length_nil, List.replicate, List.cons_append, List.nil_append, List.append_nil, List.getElem?_cons_zero, List.getElem?_cons_succ, List.set_cons_zero, List.set_cons_succ, w_v, slotP_s, w_addI, w_subI, w_mulI, w_divI, w_modI, w_powI, w_ltI, w_leI, w_gtI, w_geI, w_isN, w_notN, isNon_n, isNon_i, isNon_t, isNon_s, w_intI, w_intB, w_absI, w_maxI, w_minI, decide_eq_true_eq, Bool.not_eq_true, if_true, if_false, ite_true, ite_false, reduceCtorEq, Bool.false_eq_true, Bool.not_true, Bool.not_false, eq_self_iff_true, true_and, and_true, w_eqI, w_neI, w_ixT, w_ixL, ixP_s, at2_0, at2_1, at2_m1, at4_0, at4_1, at4_2, at4_3, at4_m1, at7_0, at7_1, at7_2, at7_3, at7_4, at7_5, at7_6, at7_m1, oD_none, oD_some, tgP_2, w_appLoc, w_lenLoc, w_lenLst, w_meth, List.length_map, goM_nx, goM_ret, goM_ct, goM_brk, goM_er, wi_str, strP_s]
      rw [w_tupLoc (hL R6)]
      refine ⟨_, fzD_pure 60 _ (pure_row (.set w g cs)), (fin R6 (by omega)).2, (fin R6 (by omega)).1, .set w g cs, rfl, ?_, fun c hc => (hcs c hc).2, by show cs.length ≤ 2; omega, g1, g2⟩
      intro m hm
      simp only [Row.names, List.mem_cons, List.mem_map] at hm
      rcases hm with rfl | ⟨c, hc, rfl⟩
      · exact hw1
      · exact (hcs c hc).1
    · rw [if_neg h5]
      try simp -implicitDefEqProofs only [WR_ok, WS_ok, WR_bind, w_c, w_bin, boolP_b, notP_b, w_not, w_and, w_or, w_if, w_chain, w_evs0, w_evs, w_call, w_callK, w_tup, w_lst, w_cell, cellP_lst, cellP_dct, negP_i, w_neg, w_fld, w_methC, w_make, w_makeZ, ws_next, ws_brk, ws_ct, ws_seq, ws_asg, ws_ret, ws_drop, ws_if, ws_par, ws_unp, ws_sto, ws_stoF, ws_for, wi_seq, wi_rng1, wi_enum, seqP_lst, seqP_klst, seqP_tup, seqP_ktup, rngP_i, enumP_lst, goP_nx, goP_ret, goP_ct, goP_brk, goP_er, bodyP_nx, bodyP_ret, bodyP_er, turnP_nx, turnP_ct, turnP_brk, turnP_ret, turnP_er, w_run, startD, List.map_cons, List.map_nil, List.length_cons, List.length_nil, List.replicate, List.cons_append, List.nil_append, List.append_nil, List.getElem?_cons_zero, List.getElem?_cons_succ, List.set_cons_zero, List.set_cons_succ, w_v, slotP_s, w_addI, w_subI, w_mulI, w_divI, w_modI, w_powI, w_ltI, w_leI, w_gtI, w_geI, w_isN, w_notN, isNon_n, isNon_i, isNon_t, isNon_s, w_intI, w_intB, w_absI, w_maxI, w_minI, decide_eq_true_eq, Bool.not_eq_true, if_true, if_false, ite_true, ite_false, reduceCtorEq, Bool.false_eq_true, Bool.not_true, Bool.not_false, eq_self_iff_true, true_and, and_true, w_eqI, w_neI, w_ixT, w_ixL, ixP_s, at2_0, at2_1, at2_m1, at4_0, at4_1, at4_2, at4_3, at4_m1, at7_0, at7_1, at7_2, at7_3, at7_4, at7_5, at7_6, at7_m1, oD_none, oD_some, tgP_2, w_appLoc, w_lenLoc, w_lenLst, w_meth, List.length_map, goM_nx, goM_ret, goM_ct, goM_brk, goM_er, wi_str, strP_s]
      refine (spec_draw (hr1 _) R5 (by decide) (by decide) (by omega)).call ?_
      rintro _ S6 ⟨R6, z6, rfl, a6, b6⟩
      simp -implicitDefEqProofs only [WR_ok, WS_ok, WR_bind, w_c, w_bin, boolP_b, notP_b, w_not, w_and, w_or, w_if, w_chain, w_evs0, w_evs, w_call, w_callK, w_tup, w_lst, w_cell, cellP_lst, cellP_dct, negP_i, w_neg, w_fld, w_methC, w_make, w_makeZ, ws_next, ws_brk, ws_ct, ws_seq, ws_asg, ws_ret, ws_drop, ws_if, ws_par, ws_unp, ws_sto, ws_stoF, ws_for, wi_seq, wi_rng1, wi_enum, seqP_lst, seqP_klst, seqP_tup, seqP_ktup, rngP_i, enumP_lst, goP_nx, goP_ret, goP_ct, goP_brk, goP_er, bodyP_nx, bodyP_ret, bodyP_er, turnP_nx, turnP_ct, turnP_brk, turnP_ret, turnP_er, w_run, startD, List.map_cons, List.map_nil, List.length_cons, List.length_nil, List.replicate, List.cons_append, List.nil_append, List.append_nil, List.getElem?_cons_zero, List.getElem?_cons_succ, List.set_cons_zero, List.set_cons_succ, w_v, slotP_s, w_addI, w_subI, w_mulI, w_divI, w_modI, w_powI, w_ltI, w_leI, w_gtI, w_geI, w_isN, w_notN, isNon_n, isNon_i, isNon_t, isNon_s, w_intI, w_intB, w_absI, w_maxI, w_minI, decide_eq_true_eq, Bool.not_eq_true, if_true, if_false, ite_true, ite_false, reduceCtorEq, Bool.false_eq_true, Bool.not_true, Bool.not_false, eq_self_iff_true, true_and, and_true, w_eqI, w_neI, w_ixT, w_ixL, ixP_s, at2_0, at2_1, at2_m1, at4_0, at4_1, at4_2, at4_3, at4_m1, at7_0, at7_1, at7_2, at7_3, at7_4, at7_5, at7_6, at7_m1, oD_none, oD_some, tgP_2, w_appLoc, w_lenLoc, w_lenLst, w_meth, List.length_map, goM_nx, goM_ret, goM_ct, goM_brk, goM_er, wi_str, strP_s]
      refine (spec_draw (hr1 _) R6 (by decide) (by decide) (by omega)).call ?_
      rintro _ S7 ⟨R7, z7, rfl, a7, b7⟩
      simp -implicitDefEqProofs only [WR_ok, WS_ok, WR_bind, w_c, w_bin, boolP_b, notP_b, w_not, w_and, w_or, w_if, w_chain, w_evs0, w_evs, w_call, w_callK, w_tup, w_lst, w_cell, cellP_lst, cellP_dct, negP_i, w_neg, w_fld, w_methC, w_make, w_makeZ, ws_next, ws_brk, ws_ct, ws_seq, ws_asg, ws_ret, ws_drop, ws_if, ws_par, ws_unp, ws_sto, ws_stoF, ws_for, wi_seq, wi_rng1, wi_enum, seqP_lst, seqP_klst, seqP_tup, seqP_ktup, rngP_i, enumP_lst, goP_nx, goP_ret, goP_ct, goP_brk, goP_er, bodyP_nx, bodyP_ret, bodyP_er, turnP_nx, turnP_ct, turnP_brk, turnP_ret, turnP_er, w_run, startD, List.map_cons, List.map_nil, List.length_cons, List.length_nil, List.replicate, List.cons_append, List.nil_append, List.append_nil, List.getElem?_cons_zero, List.getElem?_cons_succ, List.set_cons_zero, List.set_cons_succ, w_v, slotP_s, w_addI, w_subI, w_mulI, w_divI, w_modI, w_powI, w_ltI, w_leI, w_gtI, w_geI, w_isN, w_notN, isNon_n, isNon_i, isNon_t, isNon_s, w_intI, w_intB, w_absI, w_maxI, w_minI, decide_eq_true_eq, Bool.not_eq_true, if_true, if_false, ite_true, ite_false, reduceCtorEq, Bool.false_eq_true, Bool.not_true, Bool.not_false, eq_self_iff_true, true_and, and_true, w_eqI, w_neI, w_ixT, w_ixL, ixP_s, at2_0, at2_1, at2_m1, at4_0, at4_1, at4_2, at4_3, at4_m1, at7_0, at7_1, at7_2, at7_3, at7_4, at7_5, at7_6, at7_m1, oD_none, oD_some, tgP_2, w_appLoc, w_lenLoc, w_lenLst, w_meth, List.length_map, goM_nx, goM_ret, goM_ct, goM_brk, goM_er, wi_str, strP_s]
      refine (spec_draw (hr1 _) R7 (by decide) (by decide) (by omega)).call ?_
      rintro _ S8 ⟨R8, z8, rfl, a8, b8⟩
      obtain ⟨f, ef, f0, fb⟩ : ∃ f : Int, atD [.int 1, .int 1, .int 1, .int (-1), .int 2, .int (-2), .int (1 + z6), .int (0 - 1 - z7)] z8 = some (.int f) ∧ f ≠ 0 ∧ (-10 ≤ f ∧ f ≤ 10) := by
        have : z8 = 0 ∨ z8 = 1 ∨ z8 = 2 ∨ z8 = 3 ∨ z8 = 4 ∨ z8 = 5 ∨ z8 = 6 ∨ z8 = 7 := by omega
        rcases this with rfl | rfl | rfl | rfl | rfl | rfl | rfl | rfl
        all_goals exact ⟨_, rfl, by omega, by omega⟩
      simp -implicitDefEqProofs only [WR_ok, WS_ok, WR_bind, w_c, w_bin, boolP_b, notP_b, w_not, w_and, w_or, w_if, w_chain, w_evs0, w_evs, w_call, w_callK, w_tup, w_lst, w_cell, cellP_lst, cellP_dct, negP_i, w_neg, w_fld, w_methC, w_make, w_makeZ, ws_next, ws_brk, ws_ct, ws_seq, ws_asg, ws_ret, ws_drop, ws_if, ws_par, ws_unp, ws_sto, ws_stoF, ws_for, wi_seq, wi_rng1, wi_enum, seqP_lst, seqP_klst, seqP_tup, seqP_ktup, rngP_i, enumP_lst, goP_nx, goP_ret, goP_ct, goP_brk, goP_er, bodyP_nx, bodyP_ret, bodyP_er, turnP_nx, turnP_ct, turnP_brk, turnP_ret, turnP_er, w_run, startD, List.map_cons, List.map_nil, List.length_cons, List.length_nil, List.replicate, List.cons_append, List.nil_append, List.append_nil, List.getElem?_cons_zero, List.getElem?_cons_succ, List.set_cons_zero, List.set_cons_succ, w_v, slotP_s, w_addI, w_subI, w_mulI, w_divI, w_modI, w_powI, w_ltI, w_leI, w_gtI, w_geI, w_isN, w_notN, isNon_n, isNon_i, isNon_t, isNon_s, w_intI, w_intB, w_absI, w_maxI, w_minI, decide_eq_true_eq, Bool.not_eq_true, if_true, if_false, ite_true, ite_false, reduceCtorEq, Bool.false_eq_true, Bool.not_true, Bool.not_false, eq_self_iff_true, true_and, and_true, w_eqI, w_neI, w_ixT, w_ixL, ixP_s, at2_0, at2_1, at2_m1, at4_0, at4_1, at4_2, at4_3, at4_m1, at7_0, at7_1, at7_2, at7_3, at7_4, at7_5, at7_6, at7_m1, oD_none, oD_some, tgP_2, w_appLoc, w_lenLoc, w_lenLst, w_meth, List.length_map, goM_nx, goM_ret, goM_ct, goM_brk, goM_er, wi_str, strP_s, ef]
      refine (spec_draw (hr1 _) R8 (by decide) (by decide) (by omega)).call ?_
      rintro _ S9 ⟨R9, z9, rfl, a9, b9⟩
      simp -implicitDefEqProofs only [WR_ok, WS_ok, WR_bind, w_c, w_bin, boolP_b, notP_b, w_not, w_and, w_or, w_if, w_chain, w_evs0, w_evs, w_call, w_callK, w_tup, w_lst, w_cell, cellP_lst, cellP_dct, negP_i, w_neg, w_fld, w_methC, w_make, w_makeZ, ws_next, ws_brk, ws_ct, ws_seq, ws_asg, ws_ret, ws_drop, ws_if, ws_par, ws_unp, ws_sto, ws_stoF, ws_for, wi_seq, wi_rng1, wi_enum, seqP_lst, seqP_klst, seqP_tup, seqP_ktup, rngP_i, enumP_lst, goP_nx, goP_ret, goP_ct, goP_brk, goP_er, bodyP_nx, bodyP_ret, bodyP_er, turnP_nx, turnP_ct, turnP_brk, turnP_ret, turnP_er, w_run, startD, List.map_cons, List.map_nil, List.length_cons, List.length_nil, List.replicate, List.cons_append, List.nil_append, List.append_nil, List.getElem?_cons_zero, List.getElem?_cons_succ, List.set_cons_zero, List.set_cons_succ, w_v, slotP_s, w_addI, w_subI, w_mulI, w_divI, w_modI, w_powI, w_ltI, w_leI, w_gtI, w_geI, w_isN, w_notN, isNon_n, isNon_i, isNon_t, isNon_s, w_intI, w_intB, w_absI, w_maxI, w_minI, decide_eq_true_eq, Bool.not_eq_true, if_true, if_false, ite_true, ite_false, reduceCtorEq, Bool.false_eq_true, Bool.not_true, Bool.not_false, eq_self_iff_true, true_and, and_true, w_eqI, w_neI, w_ixT, w_ixL, ixP_s, at2_0, at2_1, at2_m1, at4_0, at4_1, at4_2, at4_3, at4_m1, at7_0, at7_1, at7_2, at7_3, at7_4, at7_5, at7_6, at7_m1, oD_none, oD_some, tgP_2, w_appLoc, w_lenLoc, w_lenLst, w_meth, List.length_map, goM_nx, goM_ret, goM_ct, goM_brk, goM_er, wi_str, strP_s]
      refine (spec_draw (hr1 _) R9 (by decide) (by decide) (by omega)).call ?_
      rintro _ Sa ⟨Ra, za, rfl, aa, ba⟩
      simp -implicitDefEqProofs only [WR_ok, WS_ok, WR_bind, w_c, w_bin, boolP_b, notP_b, w_not, w_and, w_or, w_if, w_chain, w_evs0, w_evs, w_call, w_callK, w_tup, w_lst, w_cell, cellP_lst, cellP_dct, negP_i, w_neg, w_fld, w_methC, w_make, w_makeZ, ws_next, ws_brk, ws_ct, ws_seq, ws_asg, ws_ret, ws_drop, ws_if, ws_par, ws_unp, ws_sto, ws_stoF, ws_for, wi_seq, wi_rng1, wi_enum, seqP_lst, seqP_klst, seqP_tup, seqP_ktup, rngP_i, enumP_lst, goP_nx, goP_ret, goP_ct, goP_brk, goP_er, bodyP_nx, bodyP_ret, bodyP_er, turnP_nx, turnP_ct, turnP_brk, turnP_ret, turnP_er, w_run, startD, List.map_cons, List.map_nil, List.length_cons, List.length_nil, List.replicate, List.cons_append, List.nil_append, List.append_nil, List.getElem?_cons_zero, List.getElem?_cons_succ, List.set_cons_zero, List.set_cons_succ, w_v, slotP_s, w_addI, w_subI, w_mulI, w_divI, w_modI, w_powI, w_ltI, w_leI, w_gtI, w_geI, w_isN, w_notN, isNon_n, isNon_i, isNon_t, isNon_s, w_intI, w_intB, w_absI, w_maxI, w_minI, decide_eq_true_eq, Bool.not_eq_true, if_true, if_false, ite_true, ite_false, reduceCtorEq, Bool.false_eq_true, Bool.not_true, Bool.not_false, eq_self_iff_true, true_and, and_true, w_eqI, w_neI, w_ixT, w_ixL, ixP_s, at2_0, at2_1, at2_m1, at4_0, at4_1, at4_2, at4_3, at4_m1, at7_0, at7_1, at7_2, at7_3, at7_4, at7_5, at7_6, at7_m1, oD_none, oD_some, tgP_2, w_appLoc, w_lenLoc, w_lenLst, w_meth, List.length_map, goM_nx, goM_ret, goM_ct, goM_brk, goM_er, wi_str, strP_s]
      refine (spec_draw (hr1 _) Ra (by decide) (by decide) (by omega)).call ?_
      rintro _ Sb ⟨Rb, zb, rfl, ab, bb⟩
      obtain ⟨k, ek, kb⟩ : ∃ k : Int, atD [.int 0, .int 1, .int (-1), .int (z9 - 9), .int (za - 99), .int far, .int (0 - far)] zb = some (.int k) ∧ -B ≤ k ∧ k ≤ B := by
        have : zb = 0 ∨ zb = 1 ∨ zb = 2 ∨ zb = 3 ∨ zb = 4 ∨ zb = 5 ∨ zb = 6 := by omega
        rcases this with rfl | rfl | rfl | rfl | rfl | rfl | rfl
        all_goals exact ⟨_, rfl, by omega, by omega⟩
      simp -implicitDefEqProofs only [WR_ok, WS_ok, WR_bind, w_c, w_bin, boolP_b, notP_b, w_not, w_and, w_or, w_if, w_chain, w_evs0, w_evs, w_call, w_callK, w_tup, w_lst, w_cell, cellP_lst, cellP_dct, negP_i, w_neg, w_fld, w_methC, w_make, w_makeZ, ws_next, ws_brk, ws_ct, ws_seq, ws_asg, ws_ret, ws_drop, ws_if, ws_par, ws_unp, ws_sto, ws_stoF, ws_for, wi_seq, wi_rng1, wi_enum, seqP_lst, seqP_klst, seqP_tup, seqP_ktup, rngP_i, enumP_lst, goP_nx, goP_ret, goP_ct, goP_brk, goP_er, bodyP_nx, bodyP_ret, bodyP_er, turnP_nx, turnP_ct, turnP_brk, turnP_ret, turnP_er, w_run, startD, List.map_cons, List.map_nil, List.length_cons, List.length_nil, List.replicate, List.cons_append, List.nil_append, List.append_nil, List.getElem?_cons_zero, List.getElem?_cons_succ, List.set_cons_zero, List.set_cons_succ, w_v, slotP_s, w_addI, w_subI, w_mulI, w_divI, w_modI, w_powI, w_ltI, w_leI, w_gtI, w_geI, w_isN, w_notN, isNon_n, isNon_i, isNon_t, isNon_s, w_intI, w_intB, w_absI, w_maxI, w_minI, decide_eq_true_eq, Bool.not_eq_true, if_true, if_false, ite_true, ite_false, reduceCtorEq, Bool.false_eq_true, Bool.not_true, Bool.not_false, eq_self_iff_true, true_and, and_true, w_eqI, w_neI, w_ixT, w_ixL, ixP_s, at2_0, at2_1, at2_m1, at4_0, at4_1, at4_2, at4_3, at4_m1, at7_0, at7_1, at7_2, at7_3, at7_4, at7_5, at7_6, at7_m1, oD_none, oD_some, tgP_2, w_appLoc, w_lenLoc, w_lenLst, w_meth, List.length_map, goM_nx, goM_ret, goM_ct, goM_brk, goM_er, wi_str, strP_s, ek]
      refine (spec_within (B := B) (hr1 _) Rb (by omega) h1 h2 hB).call ?_
      rintro _ Sc ⟨Rc, g, rfl, g1, g2⟩
      try simp -implicitDefEqProofs only [WR_ok, WS_ok, WR_bind, w_c, w_bin, boolP_b, notP_b, w_not, w_and, w_or, w_if, w_chain, w_evs0, w_evs, w_call, w_callK, w_tup, w_lst, w_cell, cellP_lst, cellP_dct, negP_i, w_neg, w_fld, w_methC, w_make, w_makeZ, ws_next, ws_brk, ws_ct, ws_seq, ws_asg, ws_ret, ws_drop, ws_if, ws_par, ws_unp, ws_sto, ws_stoF, ws_for, wi_seq, wi_rng1, wi_enum, seqP_lst, seqP_klst, seqP_tup, seqP_ktup, rngP_i, enumP_lst, goP_nx, goP_ret, goP_ct, goP_brk, goP_er, bodyP_nx, bodyP_ret, bodyP_er, turnP_nx, turnP_ct, turnP_brk, turnP_ret, turnP_er, w_run, startD, List.map_cons, List.map_nil, List.length_cons, List.length_nil, List.replicate, List.cons_append, List.nil_append, List.append_nil, List.getElem?_cons_zero, List.getElem?_cons_succ, List.set_cons_zero, List.set_cons_succ, w_v, slotP_s, w_addI, w_subI, w_mulI, w_divI, w_modI, w_powI, w_ltI, w_leI, w_gtI, w_geI, w_isN, w_notN, isNon_n, isNon_i, isNon_t, isNon_s, w_intI, w_intB, w_absI, w_maxI, w_minI, decide_eq_true_eq, Bool.not_eq_true, if_true, if_false, ite_true, ite_false, reduceCtorEq, Bool.false_eq_true, Bool.not_true, Bool.not_false, eq_self_iff_true, true_and, and_true, w_eqI, w_neI, w_ixT, w_ixL, ixP_s, at2_0, at2_1, at2_m1, at4_0, at4_1, at4_2, at4_3, at4_m1, at7_0, at7_1, at7_2, at7_3, at7_4, at7_5, at7_6, at7_m1, oD_none, oD_some, tgP_2, w_appLoc, w_lenLoc, w_lenLst, w_meth, List.length_map, goM_nx, goM_ret, goM_ct, goM_brk, goM_er, wi_str, strP_s]
      rw [w_tupLoc (hL Rc)]
      refine ⟨_, fzD_pure 60 _ (pure_row (.step w w' f k g cs)), (fin Rc (by omega)).2, (fin Rc (by omega)).1, .step w w' f k g cs, rfl, ?_, fun c hc => (hcs c hc).2, by show cs.length ≤ 2; omega, f0, fb, kb, g1, g2⟩
      intro m hm
      simp only [Row.names, List.mem_cons, List.mem_map] at hm
      rcases hm with rfl | rfl | ⟨c, hc, rfl⟩
      · exact hw1
      · exact hw1'
      · exact (hcs c hc).1


theorem fzD_loc {fl : Nat → List Str} {S : List Cell} {n i : Nat} {l : List D} (hi : ¬ i < n) (hS : S[i]? = some (.lst l)) (hp : l.all (pureD 50) = true) : fzD fl S n 60 (.loc i) = some (.lst l) := by
  show (if i < n then some (D.loc i) else fzCell fl (fzD fl S n 59) S[i]?) = _
  rw [if_neg hi, hS]
  show (optAll (fzD fl S n 59) l).map D.lst = _
  rw [optAll_id fun d hd => fzD_pure 59 d (pureD_le 50 59 d (by decide) (List.all_eq_true.mp hp d hd))]
  rfl
theorem pure_rows (rows : List Row) : (rows.map rowD).all (pureD 50) = true := by
  rw [List.all_map, List.all_eq_true]
  exact fun r _ => pure_row (k := 45) r
theorem PureS.app {S : List Cell} {c : Cell} (h : PureS S) (hc : pureC c = true) : PureS (S ++ [c]) := fun x hx => by
  rcases List.mem_append.mp hx with h' | h'
  · exact h x h'
  · simp at h'; subst h'; exact hc
theorem spec_rows {S0 S : List Cell} {r n : Nat} {ws : List Str} {most : Nat} (hr : r < S0.length) (R : RS S0 r n S) (hn : n ≤ 2 ^ 36) (hm : 1 ≤ most) (hm2 : most ≤ 20) (hw : 0 < ws.length) (hw2 : ws.length < 2 ^ 100) (hp : PureS S0) :
    WR (G_law_rows [.loc r, .lst (ws.map D.str), .int (most : Nat)] S) (fun d S' => RS S0 r (n + 3000) S' ∧ ∃ rows : List Row, d = .lst (rows.map rowD) ∧ rows.length ≤ most ∧ ∀ row ∈ rows, RowOk (10 ^ 31) ws row) E0 := by
  have hl : S.length = S0.length := R.len
  have hr1 : ∀ c : Cell, r < (S0 ++ [c]).length := fun c => by simp; omega
  unfold G_law_rows
  refine w_seal ?_
  rw [w_run]
  have far : ∀ z : Int, 0 ≤ z → z < 3 → ∃ f : Int, atD [.int 99, .int (10 ^ (9 : Int).toNat), .int (10 ^ (31 : Int).toNat)] z = some (.int f) ∧ 0 ≤ f ∧ f ≤ 10 ^ 31 := fun z h0 h1 => by
    have : z = 0 ∨ z = 1 ∨ z = 2 := by omega
    rcases this with rfl | rfl | rfl
    · exact ⟨_, rfl, by decide, by decide⟩
    · exact ⟨_, rfl, by decide, by decide⟩
    · exact ⟨_, rfl, by decide, by decide⟩
  have hL : ∀ {m : Nat} {S3 : List Cell} {rows : List Row}, RS (S0 ++ [.lst (rows.map rowD)]) r m S3 → S3[S.length]? = some (.lst (rows.map rowD)) := fun R => by
    rw [hl]; exact R.last hr
  refine ws_mid (fun ρ S' => ∃ f : Int, ρ = [some (.loc r), some (.lst (ws.map D.str)), some (.int (most : Nat)), some (.int f), some (.loc S.length), none, none] ∧ 0 ≤ f ∧ f ≤ 10 ^ 31 ∧ RS (S0 ++ [.lst ([].map rowD)]) r (n + 1) S') ?_ ?_
  · simp -implicitDefEqProofs only [WR_ok, WS_ok, WR_bind, w_c, w_bin, boolP_b, notP_b, w_not, w_and, w_or, w_if, w_chain, w_evs0, w_evs, w_call, w_callK, w_tup, w_lst, w_cell, cellP_lst, cellP_dct, negP_i, w_neg, w_fld, w_methC, w_make, w_makeZ, ws_next, ws_brk, ws_ct, ws_seq, ws_asg, ws_ret, ws_drop, ws_if, ws_par, ws_unp, ws_sto, ws_stoF, ws_for, wi_seq, wi_rng1, wi_enum, seqP_lst, seqP_klst, seqP_tup, seqP_ktup, rngP_i, enumP_lst, goP_nx, goP_ret, goP_ct, goP_brk, goP_er, bodyP_nx, bodyP_ret, bodyP_er, turnP_nx, turnP_ct, turnP_brk, turnP_ret, turnP_er, w_run, startD, List.map_cons, List.map_nil, List.length_cons, List.length_nil, List.replicate, List.cons_append, List.nil_append, List.append_nil, List.getElem?_cons_zero, List.getElem?_cons_succ, List.set_cons_zero, List.set_cons_succ, w_v, slotP_s, w_addI, w_subI, w_mulI, w_divI, w_modI, w_powI, w_ltI, w_leI, w_gtI, w_geI, w_isN, w_notN, isNon_n, isNon_i, isNon_t, isNon_s, w_intI, w_intB, w_absI, w_maxI, w_minI, decide_eq_true_eq, Bool.not_eq_true, if_true, if_false, ite_true, ite_false, reduceCtorEq, Bool.false_eq_true, Bool.not_true, Bool.not_false, eq_self_iff_true, true_and, and_true, w_eqI, w_neI, w_ixT, w_ixL, ixP_s, at2_0, at2_1, at2_m1, at4_0, at4_1, at4_2, at4_3, at4_m1, at7_0, at7_1, at7_2, at7_3, at7_4, at7_5, at7_6, at7_m1, oD_none, oD_some, tgP_2, w_appLoc, w_lenLoc, w_lenLst, w_meth, List.length_map, goM_nx, goM_ret, goM_ct, goM_brk, goM_er, wi_str, strP_s]
    refine ⟨cPow_of (i := 10) (by decide) (by decide) (by decide) (by decide), cPow_of (i := 10) (by decide) (by decide) (by decide) (by decide), ?_⟩
    refine (spec_draw hr R (by decide) (by decide) (by omega)).call ?_
    rintro _ S1 ⟨R1, z, rfl, h0, h1⟩
    obtain ⟨f, ef, f0, f1⟩ := far z h0 h1
    simp -implicitDefEqProofs only [WR_ok, WS_ok, WR_bind, w_c, w_bin, boolP_b, notP_b, w_not, w_and, w_or, w_if, w_chain, w_evs0, w_evs, w_call, w_callK, w_tup, w_lst, w_cell, cellP_lst, cellP_dct, negP_i, w_neg, w_fld, w_methC, w_make, w_makeZ, ws_next, ws_brk, ws_ct, ws_seq, ws_asg, ws_ret, ws_drop, ws_if, ws_par, ws_unp, ws_sto, ws_stoF, ws_for, wi_seq, wi_rng1, wi_enum, seqP_lst, seqP_klst, seqP_tup, seqP_ktup, rngP_i, enumP_lst, goP_nx, goP_ret, goP_ct, goP_brk, goP_er, bodyP_nx, bodyP_ret, bodyP_er, turnP_nx, turnP_ct, turnP_brk, turnP_ret, turnP_er, w_run, startD, List.map_cons, List.map_nil, List.length_cons, List.length_nil, List.replicate, List.cons_append, List.nil_append, List.append_nil, List.getElem?_cons_zero, List.getElem?_cons_succ, List.set_cons_zero, List.set_cons_succ, w_v, slotP_s, w_addI, w_subI, w_mulI, w_divI, w_modI, w_powI, w_ltI, w_leI, w_gtI, w_geI, w_isN, w_notN, isNon_n, isNon_i, isNon_t, isNon_s, w_intI, w_intB, w_absI, w_maxI, w_minI, decide_eq_true_eq, Bool.not_eq_true, if_true, if_false, ite_true, ite_false, reduceCtorEq, Bool.false_eq_true, Bool.not_true, Bool.not_false, eq_self_iff_true, true_and, and_true, w_eqI, w_neI, w_ixT, w_ixL, ixP_s, at2_0, at2_1, at2_m1, at4_0, at4_1, at4_2, at4_3, at4_m1, at7_0, at7_1, at7_2, at7_3, at7_4, at7_5, at7_6, at7_m1, oD_none, oD_some, tgP_2, w_appLoc, w_lenLoc, w_lenLst, w_meth, List.length_map, goM_nx, goM_ret, goM_ct, goM_brk, goM_er, wi_str, strP_s, ef]
    refine ⟨f, by rw [R1.len, hl], f0, f1, R1.push hr _⟩
  rintro ρ S1 ⟨f, rfl, f0, f1, R1⟩
  refine ws_mid (fun ρ S' => ∃ (x : Option D) (rows : List Row), ρ = [some (.loc r), some (.lst (ws.map D.str)), some (.int (most : Nat)), some (.int f), some (.loc S.length), x, none] ∧ RS (S0 ++ [.lst (rows.map rowD)]) r (n + 5) S' ∧ rows.length ≤ 1 ∧ ∀ row ∈ rows, RowOk (10 ^ 31) ws row) ?_ ?_
  · simp -implicitDefEqProofs only [WR_ok, WS_ok, WR_bind, w_c, w_bin, boolP_b, notP_b, w_not, w_and, w_or, w_if, w_chain, w_evs0, w_evs, w_call, w_callK, w_tup, w_lst, w_cell, cellP_lst, cellP_dct, negP_i, w_neg, w_fld, w_methC, w_make, w_makeZ, ws_next, ws_brk, ws_ct, ws_seq, ws_asg, ws_ret, ws_drop, ws_if, ws_par, ws_unp, ws_sto, ws_stoF, ws_for, wi_seq, wi_rng1, wi_enum, seqP_lst, seqP_klst, seqP_tup, seqP_ktup, rngP_i, enumP_lst, goP_nx, goP_ret, goP_ct, goP_brk, goP_er, bodyP_nx, bodyP_ret, bodyP_er, turnP_nx, turnP_ct, turnP_brk, turnP_ret, turnP_er, w_run, startD, List.map_cons, List.map_nil, List.length_cons, List.length_nil, List.replicate, List.cons_append, List.nil_append, List.append_nil, List.getElem?_cons_zero, List.getElem?_cons_succ, List.set_cons_zero, List.set_cons_succ, w_v, slotP_s, w_addI, w_subI, w_mulI, w_divI, w_modI, w_powI, w_ltI, w_leI, w_gtI, w_geI, w_isN, w_notN, isNon_n, isNon_i, isNon_t, isNon_s, w_intI, w_intB, w_absI, w_maxI, w_minI, decide_eq_true_eq, Bool.not_eq_true, if_true, if_false, ite_true, ite_false, reduceCtorEq, Bool.false_eq_true, Bool.not_true, Bool.not_false, eq_self_iff_true, true_and, and_true, w_eqI, w_neI, w_ixT, w_ixL, ixP_s, at2_0, at2_1, at2_m1, at4_0, at4_1, at4_2, at4_3, at4_m1, at7_0, at7_1, at7_2, at7_3, at7_4, at7_5, at7_6, at7_m1, oD_none, oD_some, tgP_2, w_appLoc, w_lenLoc, w_lenLst, w_meth, List.length_map, goM_nx, goM_ret, goM_ct, goM_brk, goM_er, wi_str, strP_s]
    refine (spec_draw (hr1 _) R1 (by decide) (by decide) (by omega)).call ?_
    rintro _ S2 ⟨R2, z2, rfl, a2, b2⟩
    simp -implicitDefEqProofs only [WR_ok, WS_ok, WR_bind, w_c, w_bin, boolP_b, notP_b, w_not, w_and, w_or, w_if, w_chain, w_evs0, w_evs, w_call, w_callK, w_tup, w_lst, w_cell, cellP_lst, cellP_dct, negP_i, w_neg, w_fld, w_methC, w_make, w_makeZ, ws_next, ws_brk, ws_ct, ws_seq, ws_asg, ws_ret, ws_drop, ws_if, ws_par, ws_unp, ws_sto, ws_stoF, ws_for, wi_seq, wi_rng1, wi_enum, seqP_lst, seqP_klst, seqP_tup, seqP_ktup, rngP_i, enumP_lst, goP_nx, goP_ret, goP_ct, goP_brk, goP_er, bodyP_nx, bodyP_ret, bodyP_er, turnP_nx, turnP_ct, turnP_brk, turnP_ret, turnP_er, w_run, startD, List.map_cons, List.map_nil, List.length_cons, List.length_nil, List.replicate, List.cons_append, List.nil_append, List.append_nil, List.getElem?_cons_zero, List.getElem?_cons_succ, List.set_cons_zero, List.set_cons_succ, w_v, slotP_s, w_addI, w_subI, w_mulI, w_divI, w_modI, w_powI, w_ltI, w_leI, w_gtI, w_geI, w_isN, w_notN, isNon_n, isNon_i, isNon_t, isNon_s, w_intI, w_intB, w_absI, w_maxI, w_minI, decide_eq_true_eq, Bool.not_eq_true, if_true, if_false, ite_true, ite_false, reduceCtorEq, Bool.false_eq_true, Bool.not_true, Bool.not_false, eq_self_iff_true, true_and, and_true, w_eqI, w_neI, w_ixT, w_ixL, ixP_s, at2_0, at2_1, at2_m1, at4_0, at4_1, at4_2, at4_3, at4_m1, at7_0, at7_1, at7_2, at7_3, at7_4, at7_5, at7_6, at7_m1, oD_none, oD_some, tgP_2, w_appLoc, w_lenLoc, w_lenLst, w_meth, List.length_map, goM_nx, goM_ret, goM_ct, goM_brk, goM_er, wi_str, strP_s]
    by_cases hz : 0 < z2
    · rw [if_pos hz, if_pos (by omega)]
      refine (spec_draw (hr1 _) R2 (by decide) (by decide) (by omega)).call ?_
      rintro _ S3 ⟨R3, z3, rfl, a3, b3⟩
      simp -implicitDefEqProofs only [WR_ok, WS_ok, WR_bind, w_c, w_bin, boolP_b, notP_b, w_not, w_and, w_or, w_if, w_chain, w_evs0, w_evs, w_call, w_callK, w_tup, w_lst, w_cell, cellP_lst, cellP_dct, negP_i, w_neg, w_fld, w_methC, w_make, w_makeZ, ws_next, ws_brk, ws_ct, ws_seq, ws_asg, ws_ret, ws_drop, ws_if, ws_par, ws_unp, ws_sto, ws_stoF, ws_for, wi_seq, wi_rng1, wi_enum, seqP_lst, seqP_klst, seqP_tup, seqP_ktup, rngP_i, enumP_lst, goP_nx, goP_ret, goP_ct, goP_brk, goP_er, bodyP_nx, bodyP_ret, bodyP_er, turnP_nx, turnP_ct, turnP_brk, turnP_ret, turnP_er, w_run, startD, List.map_cons, List.map_nil, List.length_cons, List.length_nil, List.replicate, List.cons_append, List.nil_append, List.append_nil, List.getElem?_cons_zero, List.getElem?_cons_succ, List.set_cons_zero, List.set_cons_succ, w_v, slotP_s, w_addI, w_subI, w_mulI, w_divI, w_modI, w_powI, w_ltI, w_leI, w_gtI, w_geI, w_isN, w_notN, isNon_n, isNon_i, isNon_t, isNon_s, w_intI, w_intB, w_absI, w_maxI, w_minI, decide_eq_true_eq, Bool.not_eq_true, if_true, if_false, ite_true, ite_false, reduceCtorEq, Bool.false_eq_true, Bool.not_true, Bool.not_false, eq_self_iff_true, true_and, and_true, w_eqI, w_neI, w_ixT, w_ixL, ixP_s, at2_0, at2_1, at2_m1, at4_0, at4_1, at4_2, at4_3, at4_m1, at7_0, at7_1, at7_2, at7_3, at7_4, at7_5, at7_6, at7_m1, oD_none, oD_some, tgP_2, w_appLoc, w_lenLoc, w_lenLst, w_meth, List.length_map, goM_nx, goM_ret, goM_ct, goM_brk, goM_er, wi_str, strP_s]
      refine ⟨ty_loc (hL R3), ?_⟩
      obtain ⟨w0, hw0, e0⟩ := at_str (ws := ws) (z := 0) (by decide) (by omega)
      simp -implicitDefEqProofs only [WR_ok, WS_ok, WR_bind, w_c, w_bin, boolP_b, notP_b, w_not, w_and, w_or, w_if, w_chain, w_evs0, w_evs, w_call, w_callK, w_tup, w_lst, w_cell, cellP_lst, cellP_dct, negP_i, w_neg, w_fld, w_methC, w_make, w_makeZ, ws_next, ws_brk, ws_ct, ws_seq, ws_asg, ws_ret, ws_drop, ws_if, ws_par, ws_unp, ws_sto, ws_stoF, ws_for, wi_seq, wi_rng1, wi_enum, seqP_lst, seqP_klst, seqP_tup, seqP_ktup, rngP_i, enumP_lst, goP_nx, goP_ret, goP_ct, goP_brk, goP_er, bodyP_nx, bodyP_ret, bodyP_er, turnP_nx, turnP_ct, turnP_brk, turnP_ret, turnP_er, w_run, startD, List.map_cons, List.map_nil, List.length_cons, List.length_nil, List.replicate, List.cons_append, List.nil_append, List.append_nil, List.getElem?_cons_zero, List.getElem?_cons_succ, List.set_cons_zero, List.set_cons_succ, w_v, slotP_s, w_addI, w_subI, w_mulI, w_divI, w_modI, w_powI, w_ltI, w_leI, w_gtI, w_geI, w_isN, w_notN, isNon_n, isNon_i, isNon_t, isNon_s, w_intI, w_intB, w_absI, w_maxI, w_minI, decide_eq_true_eq, Bool.not_eq_true, if_true, if_false, ite_true, ite_false, reduceCtorEq, Bool.false_eq_true, Bool.not_true, Bool.not_false, eq_self_iff_true, true_and, and_true, w_eqI, w_neI, w_ixT, w_ixL, ixP_s, at2_0, at2_1, at2_m1, at4_0, at4_1, at4_2, at4_3, at4_m1, at7_0, at7_1, at7_2, at7_3, at7_4, at7_5, at7_6, at7_m1, oD_none, oD_some, tgP_2, w_appLoc, w_lenLoc, w_lenLst, w_meth, List.length_map, goM_nx, goM_ret, goM_ct, goM_brk, goM_er, wi_str, strP_s, e0]
      refine (spec_draw (hr1 _) R3 (by decide) (by decide) (by omega)).call ?_
      rintro _ S4 ⟨R4, z4, rfl, a4, b4⟩
      simp -implicitDefEqProofs only [WR_ok, WS_ok, WR_bind, w_c, w_bin, boolP_b, notP_b, w_not, w_and, w_or, w_if, w_chain, w_evs0, w_evs, w_call, w_callK, w_tup, w_lst, w_cell, cellP_lst, cellP_dct, negP_i, w_neg, w_fld, w_methC, w_make, w_makeZ, ws_next, ws_brk, ws_ct, ws_seq, ws_asg, ws_ret, ws_drop, ws_if, ws_par, ws_unp, ws_sto, ws_stoF, ws_for, wi_seq, wi_rng1, wi_enum, seqP_lst, seqP_klst, seqP_tup, seqP_ktup, rngP_i, enumP_lst, goP_nx, goP_ret, goP_ct, goP_brk, goP_er, bodyP_nx, bodyP_ret, bodyP_er, turnP_nx, turnP_ct, turnP_brk, turnP_ret, turnP_er, w_run, startD, List.map_cons, List.map_nil, List.length_cons, List.length_nil, List.replicate, List.cons_append, List.nil_append, List.append_nil, List.getElem?_cons_zero, List.getElem?_cons_succ, List.set_cons_zero, List.set_cons_succ, w_v, slotP_s, w_addI, w_subI, w_mulI, w_divI, w_modI, w_powI, w_ltI, w_leI, w_gtI, w_geI, w_isN, w_notN, isNon_n, isNon_i, isNon_t, isNon_s, w_intI, w_intB, w_absI, w_maxI, w_minI, decide_eq_true_eq, Bool.not_eq_true, if_true, if_false, ite_true, ite_false, reduceCtorEq, Bool.false_eq_true, Bool.not_true, Bool.not_false, eq_self_iff_true, true_and, and_true, w_eqI, w_neI, w_ixT, w_ixL, ixP_s, at2_0, at2_1, at2_m1, at4_0, at4_1, at4_2, at4_3, at4_m1, at7_0, at7_1, at7_2, at7_3, at7_4, at7_5, at7_6, at7_m1, oD_none, oD_some, tgP_2, w_appLoc, w_lenLoc, w_lenLst, w_meth, List.length_map, goM_nx, goM_ret, goM_ct, goM_brk, goM_er, wi_str, strP_s]
      rw [w_appLoc (hL R4)]
      refine ⟨by simp [big], some (.int (z3 - 4)), [.set w0 (some (z3 - 4), some (z3 - 4 + z4)) []], rfl, ?_, by simp, ?_⟩
      · rw [hl]
        exact (R4.app hr _).mono (by omega)
      · intro row hrow
        simp at hrow
        subst hrow
        refine ⟨fun m hm => ?_, fun c hc => by simp [Row.cs] at hc, Nat.zero_le _, ?_, ?_⟩
        · simp [Row.names] at hm; subst hm; exact hw0
        · unfold rgOk; dsimp only; omega
        · unfold rgBnd Bnd; dsimp only; omega
    · rw [if_neg hz]
      exact ⟨none, [], rfl, R2.mono (by omega), Nat.zero_le _, by simp⟩
  rintro ρ S2 ⟨x, rows, rfl, R2, hrl, hrows⟩
  simp -implicitDefEqProofs only [WR_ok, WS_ok, WR_bind, w_c, w_bin, boolP_b, notP_b, w_not, w_and, w_or, w_if, w_chain, w_evs0, w_evs, w_call, w_callK, w_tup, w_lst, w_cell, cellP_lst, cellP_dct, negP_i, w_neg, w_fld, w_methC, w_make, w_makeZ, ws_next, ws_brk, ws_ct, ws_seq, ws_asg, ws_ret, ws_drop, ws_if, ws_par, ws_unp, ws_sto, ws_stoF, ws_for, wi_seq, wi_rng1, wi_enum, seqP_lst, seqP_klst, seqP_tup, seqP_ktup, rngP_i, enumP_lst, goP_nx, goP_ret, goP_ct, goP_brk, goP_er, bodyP_nx, bodyP_ret, bodyP_er, turnP_nx, turnP_ct, turnP_brk, turnP_ret, turnP_er, w_run, startD, List.map_cons, List.map_nil, List.length_cons, List.length_nil, List.replicate, List.cons_append, List.nil_append, List.append_nil, List.getElem?_cons_zero, List.getElem?_cons_succ, List.set_cons_zero, List.set_cons_succ, w_v, slotP_s, w_addI, w_subI, w_mulI, w_divI, w_modI, w_powI, w_ltI, w_leI, w_gtI, w_geI, w_isN, w_notN, isNon_n, isNon_i, isNon_t, isNon_s, w_intI, w_intB, w_absI, w_maxI, w_minI, decide_eq_true_eq, Bool.not_eq_true, if_true, if_false, ite_true, ite_false, reduceCtorEq, Bool.false_eq_true, Bool.not_true, Bool.not_false, eq_self_iff_true, true_and, and_true, w_eqI, w_neI, w_ixT, w_ixL, ixP_s, at2_0, at2_1, at2_m1, at4_0, at4_1, at4_2, at4_3, at4_m1, at7_0, at7_1, at7_2, at7_3, at7_4, at7_5, at7_6, at7_m1, oD_none, oD_some, tgP_2, w_appLoc, w_lenLoc, w_lenLst, w_meth, List.length_map, goM_nx, goM_ret, goM_ct, goM_brk, goM_er, wi_str, strP_s]
  rw [w_lenLoc (hL R2)]
  simp -implicitDefEqProofs only [WR_ok, WS_ok, WR_bind, w_c, w_bin, boolP_b, notP_b, w_not, w_and, w_or, w_if, w_chain, w_evs0, w_evs, w_call, w_callK, w_tup, w_lst, w_cell, cellP_lst, cellP_dct, negP_i, w_neg, w_fld, w_methC, w_make, w_makeZ, ws_next, ws_brk, ws_ct, ws_seq, ws_asg, ws_ret, ws_drop, ws_if, ws_par, ws_unp, ws_sto, ws_stoF, ws_for, wi_seq, wi_rng1, wi_enum, seqP_lst, seqP_klst, seqP_tup, seqP_ktup, rngP_i, enumP_lst, goP_nx, goP_ret, goP_ct, goP_brk, goP_er, bodyP_nx, bodyP_ret, bodyP_er, turnP_nx, turnP_ct, turnP_brk, turnP_ret, turnP_er, w_run, startD, List.map_cons, List.map_nil, List.length_cons, List.length_nil, List.replicate, List.cons_append, List.nil_append, List.append_nil, List.getElem?_cons_zero, List.getElem?_cons_succ, List.set_cons_zero, List.set_cons_succ, w_v, slotP_s, w_addI, w_subI, w_mulI, w_divI, w_modI, w_powI, w_ltI, w_leI, w_gtI, w_geI, w_isN, w_notN, isNon_n, isNon_i, isNon_t, isNon_s, w_intI, w_intB, w_absI, w_maxI, w_minI, decide_eq_true_eq, Bool.not_eq_true, if_true, if_false, ite_true, ite_false, reduceCtorEq, Bool.false_eq_true, Bool.not_true, Bool.not_false, eq_self_iff_true, true_and, and_true, w_eqI, w_neI, w_ixT, w_ixL, ixP_s, at2_0, at2_1, at2_m1, at4_0, at4_1, at4_2, at4_3, at4_m1, at7_0, at7_1, at7_2, at7_3, at7_4, at7_5, at7_6, at7_m1, oD_none, oD_some, tgP_2, w_appLoc, w_lenLoc, w_lenLst, w_meth, List.length_map, goM_nx, goM_ret, goM_ct, goM_brk, goM_er, wi_str, strP_s]
  refine (spec_draw (hr1 _) R2 (by omega) (by omega) (by omega)).call ?_
  rintro _ S3 ⟨R3, z3, rfl, a3, b3⟩
  simp -implicitDefEqProofs only [WR_ok, WS_ok, WR_bind, w_c, w_bin, boolP_b, notP_b, w_not, w_and, w_or, w_if, w_chain, w_evs0, w_evs, w_call, w_callK, w_tup, w_lst, w_cell, cellP_lst, cellP_dct, negP_i, w_neg, w_fld, w_methC, w_make, w_makeZ, ws_next, ws_brk, ws_ct, ws_seq, ws_asg, ws_ret, ws_drop, ws_if, ws_par, ws_unp, ws_sto, ws_stoF, ws_for, wi_seq, wi_rng1, wi_enum, seqP_lst, seqP_klst, seqP_tup, seqP_ktup, rngP_i, enumP_lst, goP_nx, goP_ret, goP_ct, goP_brk, goP_er, bodyP_nx, bodyP_ret, bodyP_er, turnP_nx, turnP_ct, turnP_brk, turnP_ret, turnP_er, w_run, startD, List.map_cons, List.map_nil, List.length_cons, List.length_nil, List.replicate, List.cons_append, List.nil_append, List.append_nil, List.getElem?_cons_zero, List.getElem?_cons_succ, List.set_cons_zero, List.set_cons_succ, w_v, slotP_s, w_addI, w_subI, w_mulI, w_divI, w_modI, w_powI, w_ltI, w_leI, w_gtI, w_geI, w_isN, w_notN, isNon_n, isNon_i, isNon_t, isNon_s, w_intI, w_intB, w_absI, w_maxI, w_minI, decide_eq_true_eq, Bool.not_eq_true, if_true, if_false, ite_true, ite_false, reduceCtorEq, Bool.false_eq_true, Bool.not_true, Bool.not_false, eq_self_iff_true, true_and, and_true, w_eqI, w_neI, w_ixT, w_ixL, ixP_s, at2_0, at2_1, at2_m1, at4_0, at4_1, at4_2, at4_3, at4_m1, at7_0, at7_1, at7_2, at7_3, at7_4, at7_5, at7_6, at7_m1, oD_none, oD_some, tgP_2, w_appLoc, w_lenLoc, w_lenLst, w_meth, List.length_map, goM_nx, goM_ret, goM_ct, goM_brk, goM_er, wi_str, strP_s]
  refine ⟨by unfold rngOk; simp; omega, ?_⟩
  have hcount : (intsD 0 z3.toNat).length + rows.length ≤ most := by simp [intsD]; omega
  refine for_inv (fun i ρ S' => ∃ (x y : Option D) (more : List Row), ρ = [some (.loc r), some (.lst (ws.map D.str)), some (.int (most : Nat)), some (.int f), some (.loc S.length), x, y] ∧ RS (S0 ++ [.lst (more.map rowD)]) r (n + 6 + 100 * i) S' ∧ more.length = rows.length + i ∧ ∀ row ∈ more, RowOk (10 ^ 31) ws row)
    ⟨x, none, rows, rfl, R3.mono (by omega), rfl, hrows⟩ (fun _ _ _ _ => trivial) ?_ ?_
  · rintro i d ρ S4 hi ⟨x, y, more, rfl, R4, hc, hmore⟩
    have hi2 : i < (intsD 0 z3.toNat).length := (List.getElem?_eq_some_iff.mp hi).1
    simp -implicitDefEqProofs only [WR_ok, WS_ok, WR_bind, w_c, w_bin, boolP_b, notP_b, w_not, w_and, w_or, w_if, w_chain, w_evs0, w_evs, w_call, w_callK, w_tup, w_lst, w_cell, cellP_lst, cellP_dct, negP_i, w_neg, w_fld, w_methC, w_make, w_makeZ, ws_next, ws_brk, ws_ct, ws_seq, ws_asg, ws_ret, ws_drop, ws_if, ws_par, ws_unp, ws_sto, ws_stoF, ws_for, wi_seq, wi_rng1, wi_enum, seqP_lst, seqP_klst, seqP_tup, seqP_ktup, rngP_i, enumP_lst, goP_nx, goP_ret, goP_ct, goP_brk, goP_er, bodyP_nx, bodyP_ret, bodyP_er, turnP_nx, turnP_ct, turnP_brk, turnP_ret, turnP_er, w_run, startD, List.map_cons, List.map_nil, List.length_cons, List.length_nil, List.replicate, List.cons_append, List.nil_append, List.append_nil, List.getElem?_cons_zero, List.getElem?_cons_succ, List.set_cons_zero, List.set_cons_succ, w_v, slotP_s, w_addI, w_subI, w_mulI, w_divI, w_modI, w_powI, w_ltI, w_leI, w_gtI, w_geI, w_isN, w_notN, isNon_n, isNon_i, isNon_t, isNon_s, w_intI, w_intB, w_absI, w_maxI, w_minI, decide_eq_true_eq, Bool.not_eq_true, if_true, if_false, ite_true, ite_false, reduceCtorEq, Bool.false_eq_true, Bool.not_true, Bool.not_false, eq_self_iff_true, true_and, and_true, w_eqI, w_neI, w_ixT, w_ixL, ixP_s, at2_0, at2_1, at2_m1, at4_0, at4_1, at4_2, at4_3, at4_m1, at7_0, at7_1, at7_2, at7_3, at7_4, at7_5, at7_6, at7_m1, oD_none, oD_some, tgP_2, w_appLoc, w_lenLoc, w_lenLst, w_meth, List.length_map, goM_nx, goM_ret, goM_ct, goM_brk, goM_er, wi_str, strP_s, tgT', tgN]
    refine ⟨ty_loc (hL R4), ?_⟩
    refine (spec_rule (B := 10 ^ 31) (hr1 _) R4 (by omega) (by omega) f1 (by decide) hw hw2 (hp.app (pure_rows more))).call ?_
    rintro _ S5 ⟨R5, row, rfl, hrow⟩
    try simp -implicitDefEqProofs only [WR_ok, WS_ok, WR_bind, w_c, w_bin, boolP_b, notP_b, w_not, w_and, w_or, w_if, w_chain, w_evs0, w_evs, w_call, w_callK, w_tup, w_lst, w_cell, cellP_lst, cellP_dct, negP_i, w_neg, w_fld, w_methC, w_make, w_makeZ, ws_next, ws_brk, ws_ct, ws_seq, ws_asg, ws_ret, ws_drop, ws_if, ws_par, ws_unp, ws_sto, ws_stoF, ws_for, wi_seq, wi_rng1, wi_enum, seqP_lst, seqP_klst, seqP_tup, seqP_ktup, rngP_i, enumP_lst, goP_nx, goP_ret, goP_ct, goP_brk, goP_er, bodyP_nx, bodyP_ret, bodyP_er, turnP_nx, turnP_ct, turnP_brk, turnP_ret, turnP_er, w_run, startD, List.map_cons, List.map_nil, List.length_cons, List.length_nil, List.replicate, List.cons_append, List.nil_append, List.append_nil, List.getElem?_cons_zero, List.getElem?_cons_succ, List.set_cons_zero, List.set_cons_succ, w_v, slotP_s, w_addI, w_subI, w_mulI, w_divI, w_modI, w_powI, w_ltI, w_leI, w_gtI, w_geI, w_isN, w_notN, isNon_n, isNon_i, isNon_t, isNon_s, w_intI, w_intB, w_absI, w_maxI, w_minI, decide_eq_true_eq, Bool.not_eq_true, if_true, if_false, ite_true, ite_false, reduceCtorEq, Bool.false_eq_true, Bool.not_true, Bool.not_false, eq_self_iff_true, true_and, and_true, w_eqI, w_neI, w_ixT, w_ixL, ixP_s, at2_0, at2_1, at2_m1, at4_0, at4_1, at4_2, at4_3, at4_m1, at7_0, at7_1, at7_2, at7_3, at7_4, at7_5, at7_6, at7_m1, oD_none, oD_some, tgP_2, w_appLoc, w_lenLoc, w_lenLst, w_meth, List.length_map, goM_nx, goM_ret, goM_ct, goM_brk, goM_er, wi_str, strP_s]
    rw [w_appLoc (hL R5)]
    refine ⟨by simp [big]; omega, x, some d, more ++ [row], rfl, ?_, by simp; omega, ?_⟩
    · rw [hl, List.map_append]
      exact (R5.app hr _).mono (by omega)
    · intro row' hr'
      rcases List.mem_append.mp hr' with h | h
      · exact hmore row' h
      · simp at h; subst h; exact hrow
  · rintro ρ S4 ⟨x, y, more, rfl, R4, hc, hmore⟩
    simp -implicitDefEqProofs only [WR_ok, WS_ok, WR_bind, w_c, w_bin, boolP_b, notP_b, w_not, w_and, w_or, w_if, w_chain, w_evs0, w_evs, w_call, w_callK, w_tup, w_lst, w_cell, cellP_lst, cellP_dct, negP_i, w_neg, w_fld, w_methC, w_make, w_makeZ, ws_next, ws_brk, ws_ct, ws_seq, ws_asg, ws_ret, ws_drop, ws_if, ws_par, ws_unp, ws_sto, ws_stoF, ws_for, wi_seq, wi_rng1, wi_enum, seqP_lst, seqP_klst, seqP_tup, seqP_ktup, rngP_i, enumP_lst, goP_nx, goP_ret, goP_ct, goP_brk, goP_er, bodyP_nx, bodyP_ret, bodyP_er, turnP_nx, turnP_ct, turnP_brk, turnP_ret, turnP_er, w_run, startD, List.map_cons, List.map_nil, List.length_cons, List.length_nil, List.replicate, List.cons_append, List.nil_append, List.append_nil, List.getElem?_cons_zero, List.getElem?_cons_succ, List.set_cons_zero, List.set_cons_succ, w_v, slotP_s, w_addI, w_subI, w_mulI, w_divI, w_modI, w_powI, w_ltI, w_leI, w_gtI, w_geI, w_isN, w_notN, isNon_n, isNon_i, isNon_t, isNon_s, w_intI, w_intB, w_absI, w_maxI, w_minI, decide_eq_true_eq, Bool.not_eq_true, if_true, if_false, ite_true, ite_false, reduceCtorEq, Bool.false_eq_true, Bool.not_true, Bool.not_false, eq_self_iff_true, true_and, and_true, w_eqI, w_neI, w_ixT, w_ixL, ixP_s, at2_0, at2_1, at2_m1, at4_0, at4_1, at4_2, at4_3, at4_m1, at7_0, at7_1, at7_2, at7_3, at7_4, at7_5, at7_6, at7_m1, oD_none, oD_some, tgP_2, w_appLoc, w_lenLoc, w_lenLst, w_meth, List.length_map, goM_nx, goM_ret, goM_ct, goM_brk, goM_er, wi_str, strP_s]
    have hS := hL R4
    refine ⟨.lst (more.map rowD), fzD_loc (by omega) hS (pure_rows more), ?_, ?_, more, rfl, by omega, hmore⟩
    · rw [hl]; exact (R4.pop hr).pure hp
    · rw [hl]; exact (R4.pop hr).mono (by omega)


def baseW : List Str := ["x", "y", "ab", "jkv", "q", "lowhere"]
def preW (w : Str) : Str := ("row" : Str) ++ cutS w none (some 5)
def allW : List Str := baseW ++ baseW.map preW
theorem base_ok : ∀ w ∈ baseW, w.length ≤ 100 ∧ (cutS w none (some 5)).length ≤ 100 := by decide +kernel
theorem base_nd : baseW.Nodup := by decide +kernel
theorem pre_inj : ∀ v ∈ baseW, ∀ w ∈ baseW, preW v = preW w → v = w := by decide +kernel
theorem all_ok : ∀ w ∈ allW, okStr w = true ∧ w.length ≤ 8 ∧ 1 ≤ w.length := by decide +kernel
theorem w_popLoc {P : D → List Cell → Prop} {E : Nat → D → List Cell → Prop} {S : List Cell} {l : List D} {n i : Nat} {d : D} (h : S[n]? = some (.lst l)) (hd : l[i]? = some d) (hi : i < 2 ^ 62) : WR (mPop1 (.loc n) [.int (i : Int)] S) P E = P d (S.set n (.lst (l.eraseIdx i))) := by
  have hl : i < l.length := (List.getElem?_eq_some_iff.mp hd).1
  show WR (onL (.loc n) S fun n l => if (decide (-(2 ^ 63) ≤ (i : Int)) && decide ((i : Int) < 2 ^ 63)) = true then (match ixN l.length (i : Int) with
    | some k => match l[k]? with
      | some d => Res.ok d (S.set n (.lst (l.eraseIdx k)))
      | none => .bad
    | none => .bad) else .bad) P E = _
  unfold onL
  dsimp only
  rw [h]
  dsimp only
  rw [if_pos (by simp; omega), ixN_nat hl]
  dsimp only
  rw [hd]
  rfl
theorem w_slS {P : D → List Cell → Prop} {E : Nat → D → List Cell → Prop} {S : List Cell} {z : Str} {lo hi : Option Int} : WR (opSl (.str z) lo hi S) P E = (z.length ≤ big ∧ P (.str (cutS z lo hi)) S) := wr_if
theorem w_addS {P : D → List Cell → Prop} {E : Nat → D → List Cell → Prop} {S : List Cell} {a b : Str} : WR (opAdd (.str a) (.str b) S) P E = (a.length + b.length ≤ big ∧ P (.str (a ++ b)) S) := wr_if
def partP (p : Option Int → List Cell → Prop) : D → List Cell → Prop := fun x S => match x with
  | .int i => p (some i) S
  | _ => False
theorem partP_i {p : Option Int → List Cell → Prop} {i : Int} {S : List Cell} : partP p (.int i) S = p (some i) S := rfl
theorem w_part {P : D → List Cell → Prop} {E : Nat → D → List Cell → Prop} {S : List Cell} {ρ : Slots} {f : Ev} {k : Option Int → List Cell → Res} : WR (partF (some f) ρ S k) P E = WR (f ρ S) (partP fun i S1 => WR (k i S1) P E) E := by
  unfold partF
  rw [WR_bind]; congr; funext x S1
  cases x <;> rfl
theorem w_part0 {P : D → List Cell → Prop} {E : Nat → D → List Cell → Prop} {S : List Cell} {ρ : Slots} {k : Option Int → List Cell → Res} : WR (partF none ρ S k) P E = WR (k none S) P E := rfl
theorem w_sl {P : D → List Cell → Prop} {E : Nat → D → List Cell → Prop} {S : List Cell} {ρ : Slots} {f : Ev} {lo hi : Option Ev} : WR (slF f lo hi ρ S) P E = WR (f ρ S) (fun x S1 => WR (partF lo ρ S1 fun i S2 => partF hi ρ S2 fun j S3 => opSl x i j S3) P E) E := by unfold slF; rw [WR_bind]
theorem filterMap_some {α : Type} (l : List α) : (l.map some).filterMap id = l := by
  induction l with
  | nil => rfl
  | cons a l ih => simp [ih]
theorem pure_strs (l : List Str) : (l.map D.str).all (pureD 50) = true := by
  rw [List.all_map, List.all_eq_true]
  exact fun r _ => rfl
theorem set_two {S0 : List Cell} {a b c : Cell} : (S0 ++ [a, b]).set S0.length c = S0 ++ [c, b] := by
  rw [List.set_append_right _ _ (Nat.le_refl _), Nat.sub_self]; rfl
theorem set_two' {S0 : List Cell} {a b c : Cell} : (S0 ++ [a, b]).set (S0.length + 1) c = S0 ++ [a, c] := by
  rw [List.set_append_right _ _ (by omega)]; simp
theorem erase_map {α β : Type} (f : α → β) : ∀ (l : List α) (j : Nat), (l.map f).eraseIdx j = (l.eraseIdx j).map f
  | [], _ => rfl
  | a :: l, 0 => rfl
  | a :: l, j + 1 => by
    show f a :: (l.map f).eraseIdx j = f a :: (l.eraseIdx j).map f
    rw [erase_map f l j]
theorem erase_perm {α : Type} : ∀ (l : List α) (j : Nat) (h : j < l.length), (l[j] :: l.eraseIdx j).Perm l
  | a :: l, 0, _ => List.Perm.refl _
  | a :: l, j + 1, h => by
    have h' : j < l.length := by simpa using h
    have ih := erase_perm l j h'
    show (l[j] :: a :: l.eraseIdx j).Perm (a :: l)
    exact (List.Perm.swap a l[j] _).trans (ih.cons a)
theorem spec_words {S0 S : List Cell} {r n k : Nat} {kz : Int} (hkz : kz = (k : Nat)) (hr : r < S0.length) (R : RS S0 r n S) (hn : n ≤ 2 ^ 36) (hk : k ≤ 6) (hp : PureS S0) :
    WR (G_law_words [.loc r, .int kz] S) (fun d S' => RS S0 r (n + 20) S' ∧ ∃ ws : List Str, d = .lst (ws.map D.str) ∧ ws.length = k ∧ ws.Nodup ∧ ∀ w ∈ ws, w ∈ allW) E0 := by
  have hl : S.length = S0.length := R.len
  have hr2 : ∀ c1 c2 : Cell, r < (S0 ++ [c1, c2]).length := fun c1 c2 => by simp; omega
  unfold G_law_words
  refine w_seal ?_
  rw [w_run]
  unfold b_law_words
  have hA : ∀ {m : Nat} {S3 : List Cell} {c1 c2 : Cell}, RS (S0 ++ [c1, c2]) r m S3 → S3[S.length]? = some c1 := fun R => by
    rw [R.at (by omega), hl]; simp
  have hB : ∀ {m : Nat} {S3 : List Cell} {c1 c2 : Cell}, RS (S0 ++ [c1, c2]) r m S3 → S3[S.length + 1]? = some c2 := fun R => by
    rw [R.at (by omega), hl]; simp
  refine ws_mid (fun ρ S' => ρ = [some (.loc r), some (.int kz), some (.loc S.length), some (.loc (S.length + 1)), none, none] ∧ RS (S0 ++ [.lst (baseW.map .str), .lst ([].map D.str)]) r n S') ?_ ?_
  · simp -implicitDefEqProofs only [WR_ok, WS_ok, WR_bind, w_c, w_bin, boolP_b, notP_b, w_not, w_and, w_or, w_if, w_chain, w_evs0, w_evs, w_call, w_callK, w_tup, w_lst, w_cell, cellP_lst, cellP_dct, negP_i, w_neg, w_fld, w_methC, w_make, w_makeZ, ws_next, ws_brk, ws_ct, ws_seq, ws_asg, ws_ret, ws_drop, ws_if, ws_par, ws_unp, ws_sto, ws_stoF, ws_for, wi_seq, wi_rng1, wi_enum, seqP_lst, seqP_klst, seqP_tup, seqP_ktup, rngP_i, enumP_lst, goP_nx, goP_ret, goP_ct, goP_brk, goP_er, bodyP_nx, bodyP_ret, bodyP_er, turnP_nx, turnP_ct, turnP_brk, turnP_ret, turnP_er, w_run, startD, List.map_cons, List.map_nil, List.length_cons, List.length_nil, List.replicate, List.cons_append, List.nil_append, List.append_nil, List.getElem?_cons_zero, List.getElem?_cons_succ, List.set_cons_zero, List.set_cons_succ, w_v, slotP_s, w_addI, w_subI, w_mulI, w_divI, w_modI, w_powI, w_ltI, w_leI, w_gtI, w_geI, w_isN, w_notN, isNon_n, isNon_i, isNon_t, isNon_s, w_intI, w_intB, w_absI, w_maxI, w_minI, decide_eq_true_eq, Bool.not_eq_true, if_true, if_false, ite_true, ite_false, reduceCtorEq, Bool.false_eq_true, Bool.not_true, Bool.not_false, eq_self_iff_true, true_and, and_true, w_eqI, w_neI, w_ixT, w_ixL, ixP_s, at2_0, at2_1, at2_m1, at4_0, at4_1, at4_2, at4_3, at4_m1, at7_0, at7_1, at7_2, at7_3, at7_4, at7_5, at7_6, at7_m1, oD_none, oD_some, tgP_2, w_appLoc, w_lenLoc, w_lenLst, w_meth, List.length_map, goM_nx, goM_ret, goM_ct, goM_brk, goM_er, wi_str, strP_s, List.length_append]
    have := (R.push hr (.lst (baseW.map .str))).push (by simp; omega) (.lst [])
    rw [List.append_assoc] at this
    exact this
  rintro ρ S1 ⟨rfl, R1⟩
  refine ws_mid (fun ρ S' => ∃ (x : Option D) (l s : List Str), ρ = [some (.loc r), some (.int kz), some (.loc S.length), some (.loc (S.length + 1)), x, none] ∧ RS (S0 ++ [.lst (l.map .str), .lst (s.map .str)]) r (n + 6) S' ∧ s.length = k ∧ (s ++ l).Perm baseW) ?_ ?_
  · simp -implicitDefEqProofs only [WR_ok, WS_ok, WR_bind, w_c, w_bin, boolP_b, notP_b, w_not, w_and, w_or, w_if, w_chain, w_evs0, w_evs, w_call, w_callK, w_tup, w_lst, w_cell, cellP_lst, cellP_dct, negP_i, w_neg, w_fld, w_methC, w_make, w_makeZ, ws_next, ws_brk, ws_ct, ws_seq, ws_asg, ws_ret, ws_drop, ws_if, ws_par, ws_unp, ws_sto, ws_stoF, ws_for, wi_seq, wi_rng1, wi_enum, seqP_lst, seqP_klst, seqP_tup, seqP_ktup, rngP_i, enumP_lst, goP_nx, goP_ret, goP_ct, goP_brk, goP_er, bodyP_nx, bodyP_ret, bodyP_er, turnP_nx, turnP_ct, turnP_brk, turnP_ret, turnP_er, w_run, startD, List.map_cons, List.map_nil, List.length_cons, List.length_nil, List.replicate, List.cons_append, List.nil_append, List.append_nil, List.getElem?_cons_zero, List.getElem?_cons_succ, List.set_cons_zero, List.set_cons_succ, w_v, slotP_s, w_addI, w_subI, w_mulI, w_divI, w_modI, w_powI, w_ltI, w_leI, w_gtI, w_geI, w_isN, w_notN, isNon_n, isNon_i, isNon_t, isNon_s, w_intI, w_intB, w_absI, w_maxI, w_minI, decide_eq_true_eq, Bool.not_eq_true, if_true, if_false, ite_true, ite_false, reduceCtorEq, Bool.false_eq_true, Bool.not_true, Bool.not_false, eq_self_iff_true, true_and, and_true, w_eqI, w_neI, w_ixT, w_ixL, ixP_s, at2_0, at2_1, at2_m1, at4_0, at4_1, at4_2, at4_3, at4_m1, at7_0, at7_1, at7_2, at7_3, at7_4, at7_5, at7_6, at7_m1, oD_none, oD_some, tgP_2, w_appLoc, w_lenLoc, w_lenLst, w_meth, List.length_map, goM_nx, goM_ret, goM_ct, goM_brk, goM_er, wi_str, strP_s]
    refine ⟨by unfold rngOk; simp; omega, ?_⟩
    have hlen : (intsD 0 kz.toNat).length = k := by simp [intsD]; omega
    refine for_inv (fun i ρ S' => ∃ (x : Option D) (l s : List Str), ρ = [some (.loc r), some (.int kz), some (.loc S.length), some (.loc (S.length + 1)), x, none] ∧ RS (S0 ++ [.lst (l.map .str), .lst (s.map .str)]) r (n + i) S' ∧ s.length = i ∧ (s ++ l).Perm baseW)
      ⟨none, baseW, [], rfl, R1, rfl, by simp⟩ (fun _ _ _ _ => trivial) ?_ ?_
    · rintro i d ρ S2 hi ⟨x, l, s, rfl, R2, hs, hperm⟩
      have hi2 : i < k := by rw [← hlen]; exact (List.getElem?_eq_some_iff.mp hi).1
      have htot : s.length + l.length = 6 := by have := hperm.length_eq; rw [List.length_append] at this; exact this
      simp -implicitDefEqProofs only [WR_ok, WS_ok, WR_bind, w_c, w_bin, boolP_b, notP_b, w_not, w_and, w_or, w_if, w_chain, w_evs0, w_evs, w_call, w_callK, w_tup, w_lst, w_cell, cellP_lst, cellP_dct, negP_i, w_neg, w_fld, w_methC, w_make, w_makeZ, ws_next, ws_brk, ws_ct, ws_seq, ws_asg, ws_ret, ws_drop, ws_if, ws_par, ws_unp, ws_sto, ws_stoF, ws_for, wi_seq, wi_rng1, wi_enum, seqP_lst, seqP_klst, seqP_tup, seqP_ktup, rngP_i, enumP_lst, goP_nx, goP_ret, goP_ct, goP_brk, goP_er, bodyP_nx, bodyP_ret, bodyP_er, turnP_nx, turnP_ct, turnP_brk, turnP_ret, turnP_er, w_run, startD, List.map_cons, List.map_nil, List.length_cons, List.length_nil, List.replicate, List.cons_append, List.nil_append, List.append_nil, List.getElem?_cons_zero, List.getElem?_cons_succ, List.set_cons_zero, List.set_cons_succ, w_v, slotP_s, w_addI, w_subI, w_mulI, w_divI, w_modI, w_powI, w_ltI, w_leI, w_gtI, w_geI, w_isN, w_notN, isNon_n, isNon_i, isNon_t, isNon_s, w_intI, w_intB, w_absI, w_maxI, w_minI, decide_eq_true_eq, Bool.not_eq_true, if_true, if_false, ite_true, ite_false, reduceCtorEq, Bool.false_eq_true, Bool.not_true, Bool.not_false, eq_self_iff_true, true_and, and_true, w_eqI, w_neI, w_ixT, w_ixL, ixP_s, at2_0, at2_1, at2_m1, at4_0, at4_1, at4_2, at4_3, at4_m1, at7_0, at7_1, at7_2, at7_3, at7_4, at7_5, at7_6, at7_m1, oD_none, oD_some, tgP_2, w_appLoc, w_lenLoc, w_lenLst, w_meth, List.length_map, goM_nx, goM_ret, goM_ct, goM_brk, goM_er, wi_str, strP_s, tgT', tgN]
      refine ⟨ty_loc (hB R2), ty_loc (hA R2), ?_⟩
      rw [w_lenLoc (hA R2), List.length_map]
      refine (spec_draw (hr2 _ _) R2 (by omega) (by omega) (by omega)).call ?_
      rintro _ S3 ⟨R3, z, rfl, a3, b3⟩
      obtain ⟨j, rfl⟩ : ∃ j : Nat, z = (j : Int) := ⟨z.toNat, by omega⟩
      have hj : j < l.length := by omega
      rw [w_popLoc (d := .str l[j]) (hA R3) (by rw [List.getElem?_map, List.getElem?_eq_getElem hj]; rfl) (by omega)]
      have R4 : RS (S0 ++ [.lst ((l.eraseIdx j).map .str), .lst (s.map .str)]) r (n + i + 1) (S3.set S.length (.lst ((l.map D.str).eraseIdx j))) := by
        have := R3.put (k := S.length) (by omega) (.lst ((l.map D.str).eraseIdx j))
        rw [hl, set_two] at this
        rw [hl]
        rwa [erase_map] at this ⊢
      rw [w_appLoc (hB R4)]
      refine ⟨by simp [big]; omega, some d, l.eraseIdx j, s ++ [l[j]], rfl, ?_, by simp [hs], ?_⟩
      · have := R4.put (k := S.length + 1) (by omega) (.lst (s.map D.str ++ [D.str l[j]]))
        rw [hl, set_two'] at this
        rw [hl]
        simpa [Nat.add_assoc] using this
      · refine List.Perm.trans ?_ hperm
        rw [List.append_assoc]
        exact (erase_perm l j hj).append_left s
    · rintro ρ S2 ⟨x, l, s, rfl, R2, hs, hperm⟩
      simp -implicitDefEqProofs only [WR_ok, WS_ok, WR_bind, w_c, w_bin, boolP_b, notP_b, w_not, w_and, w_or, w_if, w_chain, w_evs0, w_evs, w_call, w_callK, w_tup, w_lst, w_cell, cellP_lst, cellP_dct, negP_i, w_neg, w_fld, w_methC, w_make, w_makeZ, ws_next, ws_brk, ws_ct, ws_seq, ws_asg, ws_ret, ws_drop, ws_if, ws_par, ws_unp, ws_sto, ws_stoF, ws_for, wi_seq, wi_rng1, wi_enum, seqP_lst, seqP_klst, seqP_tup, seqP_ktup, rngP_i, enumP_lst, goP_nx, goP_ret, goP_ct, goP_brk, goP_er, bodyP_nx, bodyP_ret, bodyP_er, turnP_nx, turnP_ct, turnP_brk, turnP_ret, turnP_er, w_run, startD, List.map_cons, List.map_nil, List.length_cons, List.length_nil, List.replicate, List.cons_append, List.nil_append, List.append_nil, List.getElem?_cons_zero, List.getElem?_cons_succ, List.set_cons_zero, List.set_cons_succ, w_v, slotP_s, w_addI, w_subI, w_mulI, w_divI, w_modI, w_powI, w_ltI, w_leI, w_gtI, w_geI, w_isN, w_notN, isNon_n, isNon_i, isNon_t, isNon_s, w_intI, w_intB, w_absI, w_maxI, w_minI, decide_eq_true_eq, Bool.not_eq_true, if_true, if_false, ite_true, ite_false, reduceCtorEq, Bool.false_eq_true, Bool.not_true, Bool.not_false, eq_self_iff_true, true_and, and_true, w_eqI, w_neI, w_ixT, w_ixL, ixP_s, at2_0, at2_1, at2_m1, at4_0, at4_1, at4_2, at4_3, at4_m1, at7_0, at7_1, at7_2, at7_3, at7_4, at7_5, at7_6, at7_m1, oD_none, oD_some, tgP_2, w_appLoc, w_lenLoc, w_lenLst, w_meth, List.length_map, goM_nx, goM_ret, goM_ct, goM_brk, goM_er, wi_str, strP_s]
      rw [hlen] at hs R2
      exact ⟨x, l, s, rfl, R2.mono (by omega), hs, hperm⟩
  rintro ρ S2 ⟨x, l, s, rfl, R2, hs, hperm⟩
  have hsub : ∀ w ∈ s, w ∈ baseW := fun w hw => hperm.subset (List.mem_append_left _ hw)
  have hnd : s.Nodup := (List.nodup_append.mp (hperm.nodup_iff.mpr base_nd)).1
  simp -implicitDefEqProofs only [WR_ok, WS_ok, WR_bind, w_c, w_bin, boolP_b, notP_b, w_not, w_and, w_or, w_if, w_chain, w_evs0, w_evs, w_call, w_callK, w_tup, w_lst, w_cell, cellP_lst, cellP_dct, negP_i, w_neg, w_fld, w_methC, w_make, w_makeZ, ws_next, ws_brk, ws_ct, ws_seq, ws_asg, ws_ret, ws_drop, ws_if, ws_par, ws_unp, ws_sto, ws_stoF, ws_for, wi_seq, wi_rng1, wi_enum, seqP_lst, seqP_klst, seqP_tup, seqP_ktup, rngP_i, enumP_lst, goP_nx, goP_ret, goP_ct, goP_brk, goP_er, bodyP_nx, bodyP_ret, bodyP_er, turnP_nx, turnP_ct, turnP_brk, turnP_ret, turnP_er, w_run, startD, List.map_cons, List.map_nil, List.length_cons, List.length_nil, List.replicate, List.cons_append, List.nil_append, List.append_nil, List.getElem?_cons_zero, List.getElem?_cons_succ, List.set_cons_zero, List.set_cons_succ, w_v, slotP_s, w_addI, w_subI, w_mulI, w_divI, w_modI, w_powI, w_ltI, w_leI, w_gtI, w_geI, w_isN, w_notN, isNon_n, isNon_i, isNon_t, isNon_s, w_intI, w_intB, w_absI, w_maxI, w_minI, decide_eq_true_eq, Bool.not_eq_true, if_true, if_false, ite_true, ite_false, reduceCtorEq, Bool.false_eq_true, Bool.not_true, Bool.not_false, eq_self_iff_true, true_and, and_true, w_eqI, w_neI, w_ixT, w_ixL, ixP_s, at2_0, at2_1, at2_m1, at4_0, at4_1, at4_2, at4_3, at4_m1, at7_0, at7_1, at7_2, at7_3, at7_4, at7_5, at7_6, at7_m1, oD_none, oD_some, tgP_2, w_appLoc, w_lenLoc, w_lenLst, w_meth, List.length_map, goM_nx, goM_ret, goM_ct, goM_brk, goM_er, wi_str, strP_s]
  refine (spec_draw (hr2 _ _) R2 (by decide) (by decide) (by omega)).call ?_
  rintro _ S3 ⟨R3, z, rfl, a3, b3⟩
  simp -implicitDefEqProofs only [WR_ok, WS_ok, WR_bind, w_c, w_bin, boolP_b, notP_b, w_not, w_and, w_or, w_if, w_chain, w_evs0, w_evs, w_call, w_callK, w_tup, w_lst, w_cell, cellP_lst, cellP_dct, negP_i, w_neg, w_fld, w_methC, w_make, w_makeZ, ws_next, ws_brk, ws_ct, ws_seq, ws_asg, ws_ret, ws_drop, ws_if, ws_par, ws_unp, ws_sto, ws_stoF, ws_for, wi_seq, wi_rng1, wi_enum, seqP_lst, seqP_klst, seqP_tup, seqP_ktup, rngP_i, enumP_lst, goP_nx, goP_ret, goP_ct, goP_brk, goP_er, bodyP_nx, bodyP_ret, bodyP_er, turnP_nx, turnP_ct, turnP_brk, turnP_ret, turnP_er, w_run, startD, List.map_cons, List.map_nil, List.length_cons, List.length_nil, List.replicate, List.cons_append, List.nil_append, List.append_nil, List.getElem?_cons_zero, List.getElem?_cons_succ, List.set_cons_zero, List.set_cons_succ, w_v, slotP_s, w_addI, w_subI, w_mulI, w_divI, w_modI, w_powI, w_ltI, w_leI, w_gtI, w_geI, w_isN, w_notN, isNon_n, isNon_i, isNon_t, isNon_s, w_intI, w_intB, w_absI, w_maxI, w_minI, decide_eq_true_eq, Bool.not_eq_true, if_true, if_false, ite_true, ite_false, reduceCtorEq, Bool.false_eq_true, Bool.not_true, Bool.not_false, eq_self_iff_true, true_and, and_true, w_eqI, w_neI, w_ixT, w_ixL, ixP_s, at2_0, at2_1, at2_m1, at4_0, at4_1, at4_2, at4_3, at4_m1, at7_0, at7_1, at7_2, at7_3, at7_4, at7_5, at7_6, at7_m1, oD_none, oD_some, tgP_2, w_appLoc, w_lenLoc, w_lenLst, w_meth, List.length_map, goM_nx, goM_ret, goM_ct, goM_brk, goM_er, wi_str, strP_s]
  have fin : RS S0 r (n + 20) (S3.take S.length) ∧ ∀ c ∈ S3.take S.length, pureC c = true := by
    rw [hl]
    exact ⟨(R3.pop hr).mono (by omega), (R3.pop hr).pure hp⟩
  by_cases hz : z = 0
  · rw [if_pos hz]
    simp -implicitDefEqProofs only [WR_ok, WS_ok, WR_bind, w_c, w_bin, boolP_b, notP_b, w_not, w_and, w_or, w_if, w_chain, w_evs0, w_evs, w_call, w_callK, w_tup, w_lst, w_cell, cellP_lst, cellP_dct, negP_i, w_neg, w_fld, w_methC, w_make, w_makeZ, ws_next, ws_brk, ws_ct, ws_seq, ws_asg, ws_ret, ws_drop, ws_if, ws_par, ws_unp, ws_sto, ws_stoF, ws_for, wi_seq, wi_rng1, wi_enum, seqP_lst, seqP_klst, seqP_tup, seqP_ktup, rngP_i, enumP_lst, goP_nx, goP_ret, goP_ct, goP_brk, goP_er, bodyP_nx, bodyP_ret, bodyP_er, turnP_nx, turnP_ct, turnP_brk, turnP_ret, turnP_er, w_run, startD, List.map_cons, List.map_nil, List.length_cons, List.length_nil, List.replicate, List.cons_append, List.nil_append, List.append_nil, List.getElem?_cons_zero, List.getElem?_cons_succ, List.set_cons_zero, List.set_cons_succ, w_v, slotP_s, w_addI, w_subI, w_mulI, w_divI, w_modI, w_powI, w_ltI, w_leI, w_gtI, w_geI, w_isN, w_notN, isNon_n, isNon_i, isNon_t, isNon_s, w_intI, w_intB, w_absI, w_maxI, w_minI, decide_eq_true_eq, Bool.not_eq_true, if_true, if_false, ite_true, ite_false, reduceCtorEq, Bool.false_eq_true, Bool.not_true, Bool.not_false, eq_self_iff_true, true_and, and_true, w_eqI, w_neI, w_ixT, w_ixL, ixP_s, at2_0, at2_1, at2_m1, at4_0, at4_1, at4_2, at4_3, at4_m1, at7_0, at7_1, at7_2, at7_3, at7_4, at7_5, at7_6, at7_m1, oD_none, oD_some, tgP_2, w_appLoc, w_lenLoc, w_lenLst, w_meth, List.length_map, goM_nx, goM_ret, goM_ct, goM_brk, goM_er, wi_str, strP_s, w_comp]
    rw [seqP_loc (hB R3)]
    refine comp_pure (os := (s.map fun w => D.str (preW w)).map some) (hB R3) (by simp) ?_ ?_ ?_
    · intro i d o h1 h2
      rw [List.getElem?_map] at h1
      rw [List.map_map, List.getElem?_map] at h2
      cases hw : s[i]? with
      | none => rw [hw] at h1; cases h1
      | some w =>
        rw [hw] at h1 h2
        cases h1
        cases h2
        have hwb := base_ok w (hsub w (List.mem_of_getElem? hw))
        unfold compT
        simp -implicitDefEqProofs only [WR_ok, WS_ok, WR_bind, w_c, w_bin, boolP_b, notP_b, w_not, w_and, w_or, w_if, w_chain, w_evs0, w_evs, w_call, w_callK, w_tup, w_lst, w_cell, cellP_lst, cellP_dct, negP_i, w_neg, w_fld, w_methC, w_make, w_makeZ, ws_next, ws_brk, ws_ct, ws_seq, ws_asg, ws_ret, ws_drop, ws_if, ws_par, ws_unp, ws_sto, ws_stoF, ws_for, wi_seq, wi_rng1, wi_enum, seqP_lst, seqP_klst, seqP_tup, seqP_ktup, rngP_i, enumP_lst, goP_nx, goP_ret, goP_ct, goP_brk, goP_er, bodyP_nx, bodyP_ret, bodyP_er, turnP_nx, turnP_ct, turnP_brk, turnP_ret, turnP_er, w_run, startD, List.map_cons, List.map_nil, List.length_cons, List.length_nil, List.replicate, List.cons_append, List.nil_append, List.append_nil, List.getElem?_cons_zero, List.getElem?_cons_succ, List.set_cons_zero, List.set_cons_succ, w_v, slotP_s, w_addI, w_subI, w_mulI, w_divI, w_modI, w_powI, w_ltI, w_leI, w_gtI, w_geI, w_isN, w_notN, isNon_n, isNon_i, isNon_t, isNon_s, w_intI, w_intB, w_absI, w_maxI, w_minI, decide_eq_true_eq, Bool.not_eq_true, if_true, if_false, ite_true, ite_false, reduceCtorEq, Bool.false_eq_true, Bool.not_true, Bool.not_false, eq_self_iff_true, true_and, and_true, w_eqI, w_neI, w_ixT, w_ixL, ixP_s, at2_0, at2_1, at2_m1, at4_0, at4_1, at4_2, at4_3, at4_m1, at7_0, at7_1, at7_2, at7_3, at7_4, at7_5, at7_6, at7_m1, oD_none, oD_some, tgP_2, w_appLoc, w_lenLoc, w_lenLst, w_meth, List.length_map, goM_nx, goM_ret, goM_ct, goM_brk, goM_er, wi_str, strP_s, tgT', tgN, wipeD, trueF, w_sl, w_part0, w_part, partP_i, w_slS, w_addS]
        refine ⟨D.str (preW w), rfl, by unfold big; omega, ?_, rfl⟩
        have : ("row" : Str).length = 3 := by decide +kernel
        unfold big; omega
    · rw [filterMap_some]; simp [big]; omega
    · rw [filterMap_some]
      refine ⟨.lst (s.map fun w => D.str (preW w)), fzD_pure 60 _ ?_, fin.2, fin.1, s.map preW, ?_, by simp [hs], ?_, ?_⟩
      · show (s.map fun w => D.str (preW w)).all (pureD 59) = true
        rw [List.all_map, List.all_eq_true]
        exact fun r _ => rfl
      · simp
      · rw [List.nodup_iff_pairwise_ne] at hnd ⊢
        rw [List.pairwise_map]
        exact hnd.imp_of_mem fun ha hb hne e => hne (pre_inj _ (hsub _ ha) _ (hsub _ hb) e)
      · intro w hw
        obtain ⟨v, hv, rfl⟩ := List.mem_map.mp hw
        exact List.mem_append_right _ (List.mem_map.mpr ⟨v, hsub v hv, rfl⟩)
  · rw [if_neg hz]
    try simp -implicitDefEqProofs only [WR_ok, WS_ok, WR_bind, w_c, w_bin, boolP_b, notP_b, w_not, w_and, w_or, w_if, w_chain, w_evs0, w_evs, w_call, w_callK, w_tup, w_lst, w_cell, cellP_lst, cellP_dct, negP_i, w_neg, w_fld, w_methC, w_make, w_makeZ, ws_next, ws_brk, ws_ct, ws_seq, ws_asg, ws_ret, ws_drop, ws_if, ws_par, ws_unp, ws_sto, ws_stoF, ws_for, wi_seq, wi_rng1, wi_enum, seqP_lst, seqP_klst, seqP_tup, seqP_ktup, rngP_i, enumP_lst, goP_nx, goP_ret, goP_ct, goP_brk, goP_er, bodyP_nx, bodyP_ret, bodyP_er, turnP_nx, turnP_ct, turnP_brk, turnP_ret, turnP_er, w_run, startD, List.map_cons, List.map_nil, List.length_cons, List.length_nil, List.replicate, List.cons_append, List.nil_append, List.append_nil, List.getElem?_cons_zero, List.getElem?_cons_succ, List.set_cons_zero, List.set_cons_succ, w_v, slotP_s, w_addI, w_subI, w_mulI, w_divI, w_modI, w_powI, w_ltI, w_leI, w_gtI, w_geI, w_isN, w_notN, isNon_n, isNon_i, isNon_t, isNon_s, w_intI, w_intB, w_absI, w_maxI, w_minI, decide_eq_true_eq, Bool.not_eq_true, if_true, if_false, ite_true, ite_false, reduceCtorEq, Bool.false_eq_true, Bool.not_true, Bool.not_false, eq_self_iff_true, true_and, and_true, w_eqI, w_neI, w_ixT, w_ixL, ixP_s, at2_0, at2_1, at2_m1, at4_0, at4_1, at4_2, at4_3, at4_m1, at7_0, at7_1, at7_2, at7_3, at7_4, at7_5, at7_6, at7_m1, oD_none, oD_some, tgP_2, w_appLoc, w_lenLoc, w_lenLst, w_meth, List.length_map, goM_nx, goM_ret, goM_ct, goM_brk, goM_er, wi_str, strP_s]
    refine ⟨.lst (s.map .str), fzD_loc (by omega) (hB R3) (pure_strs s), fin.2, fin.1, s, rfl, hs, hnd, fun w hw => List.mem_append_left _ (hsub w hw)⟩


theorem cutD_mem {ns : List Int} {lo hi : Option Int} {i : Nat} {d : D} (h : (cutD (ns.map D.int) lo hi)[i]? = some d) : ∃ z, d = .int z := by
  have := List.mem_of_getElem? h
  unfold cutD at this
  obtain ⟨z, _, e⟩ := List.mem_map.mp (List.mem_of_mem_drop (List.mem_of_mem_take this))
  exact ⟨z, e.symm⟩
theorem cutD_len {l : List D} {lo hi : Option Int} : (cutD l lo hi).length ≤ l.length := by
  unfold cutD
  rw [List.length_take, List.length_drop]
  omega
theorem dig_bound {dg m : Int} {i : Nat} (h : dg.natAbs < 2 ^ (200 * i)) (h0 : 0 ≤ m) (h1 : m < 10 ^ 60) : (dg * 10 ^ 60 + m).natAbs < 2 ^ (200 * (i + 1)) := by
  have e : 2 ^ (200 * (i + 1)) = 2 ^ (200 * i) * 2 ^ 200 := by rw [Nat.mul_add, Nat.pow_add]
  have h2 : (dg * 10 ^ 60 + m).natAbs ≤ dg.natAbs * 10 ^ 60 + m.natAbs := by
    refine Nat.le_trans (Int.natAbs_add_le _ _) ?_
    rw [Int.natAbs_mul]
    exact Nat.le_refl _
  have h3 : m.natAbs < 10 ^ 60 := by omega
  have h4 : (dg.natAbs + 1) * 10 ^ 60 ≤ 2 ^ (200 * i) * 10 ^ 60 := Nat.mul_le_mul_right _ h
  have h5 : 2 ^ (200 * i) * 10 ^ 60 ≤ 2 ^ (200 * i) * 2 ^ 200 := Nat.mul_le_mul_left _ (by decide)
  rw [e]
  rw [Nat.add_mul] at h4
  omega
theorem spec_rng {ns : List Int} {d0 : D} (hd : d0 = .lst (ns.map D.int) ∨ d0 = .klst (ns.map D.int)) (hns : ns.length ≤ 63) :
    WR (G_law_rng [d0] []) (fun d S' => d = .loc 0 ∧ RS [rc 0 0 0] 0 0 S') E0 := by
  unfold G_law_rng
  rw [w_run]
  unfold b_law_rng
  refine ws_mid (fun ρ S' => ρ = [some d0, some (.int 0), some (.int 88675123), none, none] ∧ S' = []) ?_ ?_
  · simp -implicitDefEqProofs only [WR_ok, WS_ok, WR_bind, w_c, w_bin, boolP_b, notP_b, w_not, w_and, w_or, w_if, w_chain, w_evs0, w_evs, w_call, w_callK, w_tup, w_lst, w_cell, cellP_lst, cellP_dct, negP_i, w_neg, w_fld, w_methC, w_make, w_makeZ, ws_next, ws_brk, ws_ct, ws_seq, ws_asg, ws_ret, ws_drop, ws_if, ws_par, ws_unp, ws_sto, ws_stoF, ws_for, wi_seq, wi_rng1, wi_enum, seqP_lst, seqP_klst, seqP_tup, seqP_ktup, rngP_i, enumP_lst, goP_nx, goP_ret, goP_ct, goP_brk, goP_er, bodyP_nx, bodyP_ret, bodyP_er, turnP_nx, turnP_ct, turnP_brk, turnP_ret, turnP_er, w_run, startD, List.map_cons, List.map_nil, List.length_cons, List.length_nil, List.replicate, List.cons_append, List.nil_append, List.append_nil, List.getElem?_cons_zero, List.getElem?_cons_succ, List.set_cons_zero, List.set_cons_succ, w_v, slotP_s, w_addI, w_subI, w_mulI, w_divI, w_modI, w_powI, w_ltI, w_leI, w_gtI, w_geI, w_isN, w_notN, isNon_n, isNon_i, isNon_t, isNon_s, w_intI, w_intB, w_absI, w_maxI, w_minI, decide_eq_true_eq, Bool.not_eq_true, if_true, if_false, ite_true, ite_false, reduceCtorEq, Bool.false_eq_true, Bool.not_true, Bool.not_false, eq_self_iff_true, true_and, and_true, w_eqI, w_neI, w_ixT, w_ixL, ixP_s, at2_0, at2_1, at2_m1, at4_0, at4_1, at4_2, at4_3, at4_m1, at7_0, at7_1, at7_2, at7_3, at7_4, at7_5, at7_6, at7_m1, oD_none, oD_some, tgP_2, w_appLoc, w_lenLoc, w_lenLst, w_meth, List.length_map, goM_nx, goM_ret, goM_ct, goM_brk, goM_er, wi_str, strP_s]
  rintro ρ S ⟨rfl, rfl⟩
  have hsl : ∀ (P : D → List Cell → Prop) (E : Nat → D → List Cell → Prop) (S : List Cell) (hi : Option Int), WR (opSl d0 none hi S) P E = P (.lst (cutD (ns.map D.int) none hi)) S := by
    intro P E S hi
    rcases hd with rfl | rfl <;> rfl
  have p60 : (10 : Int) ^ (60 : Int).toNat = 10 ^ 60 := rfl
  refine ws_mid (fun ρ S' => ∃ (dg sd : Int) (x y : Option D), ρ = [some d0, some (.int dg), some (.int sd), x, y] ∧ 0 ≤ sd ∧ sd < 2 ^ 62 ∧ S' = []) ?_ ?_
  · simp -implicitDefEqProofs only [WR_ok, WS_ok, WR_bind, w_c, w_bin, boolP_b, notP_b, w_not, w_and, w_or, w_if, w_chain, w_evs0, w_evs, w_call, w_callK, w_tup, w_lst, w_cell, cellP_lst, cellP_dct, negP_i, w_neg, w_fld, w_methC, w_make, w_makeZ, ws_next, ws_brk, ws_ct, ws_seq, ws_asg, ws_ret, ws_drop, ws_if, ws_par, ws_unp, ws_sto, ws_stoF, ws_for, wi_seq, wi_rng1, wi_enum, seqP_lst, seqP_klst, seqP_tup, seqP_ktup, rngP_i, enumP_lst, goP_nx, goP_ret, goP_ct, goP_brk, goP_er, bodyP_nx, bodyP_ret, bodyP_er, turnP_nx, turnP_ct, turnP_brk, turnP_ret, turnP_er, w_run, startD, List.map_cons, List.map_nil, List.length_cons, List.length_nil, List.replicate, List.cons_append, List.nil_append, List.append_nil, List.getElem?_cons_zero, List.getElem?_cons_succ, List.set_cons_zero, List.set_cons_succ, w_v, slotP_s, w_addI, w_subI, w_mulI, w_divI, w_modI, w_powI, w_ltI, w_leI, w_gtI, w_geI, w_isN, w_notN, isNon_n, isNon_i, isNon_t, isNon_s, w_intI, w_intB, w_absI, w_maxI, w_minI, decide_eq_true_eq, Bool.not_eq_true, if_true, if_false, ite_true, ite_false, reduceCtorEq, Bool.false_eq_true, Bool.not_true, Bool.not_false, eq_self_iff_true, true_and, and_true, w_eqI, w_neI, w_ixT, w_ixL, ixP_s, at2_0, at2_1, at2_m1, at4_0, at4_1, at4_2, at4_3, at4_m1, at7_0, at7_1, at7_2, at7_3, at7_4, at7_5, at7_6, at7_m1, oD_none, oD_some, tgP_2, w_appLoc, w_lenLoc, w_lenLst, w_meth, List.length_map, goM_nx, goM_ret, goM_ct, goM_brk, goM_er, wi_str, strP_s, w_sl, w_part0, w_part, partP_i, hsl]
    refine for_inv (fun i ρ S' => ∃ (dg sd : Int) (x y : Option D), ρ = [some d0, some (.int dg), some (.int sd), x, y] ∧ dg.natAbs < 2 ^ (200 * i) ∧ 0 ≤ sd ∧ sd < 2 ^ 62 ∧ S' = [])
      ⟨0, 88675123, none, none, rfl, by decide, by decide, by decide, rfl⟩ (fun _ _ _ _ => trivial) ?_ ?_
    · rintro i d ρ S hi ⟨dg, sd, x, y, rfl, h1, h2, h3, rfl⟩
      obtain ⟨z, rfl⟩ := cutD_mem hi
      have hi2 : i < 63 := by
        have := (List.getElem?_eq_some_iff.mp hi).1
        have h9 := cutD_len (l := ns.map D.int) (lo := none) (hi := some 63)
        rw [List.length_map] at h9
        omega
      have hp : ∀ k : Int, 0 ≤ k → k ≤ 60 → cPow 10 k = true := fun k a b => cPow_of (i := 10) (by decide) (by decide) a (by omega)
      have fin : ∀ sd' : Int, 0 ≤ sd' % 2305843009213693951 ∧ sd' % 2305843009213693951 < 2 ^ 62 := fun sd' => ⟨Int.emod_nonneg _ (by decide), by have := Int.emod_lt_of_pos sd' (b := 2305843009213693951) (by decide); omega⟩
      simp -implicitDefEqProofs only [WR_ok, WS_ok, WR_bind, w_c, w_bin, boolP_b, notP_b, w_not, w_and, w_or, w_if, w_chain, w_evs0, w_evs, w_call, w_callK, w_tup, w_lst, w_cell, cellP_lst, cellP_dct, negP_i, w_neg, w_fld, w_methC, w_make, w_makeZ, ws_next, ws_brk, ws_ct, ws_seq, ws_asg, ws_ret, ws_drop, ws_if, ws_par, ws_unp, ws_sto, ws_stoF, ws_for, wi_seq, wi_rng1, wi_enum, seqP_lst, seqP_klst, seqP_tup, seqP_ktup, rngP_i, enumP_lst, goP_nx, goP_ret, goP_ct, goP_brk, goP_er, bodyP_nx, bodyP_ret, bodyP_er, turnP_nx, turnP_ct, turnP_brk, turnP_ret, turnP_er, w_run, startD, List.map_cons, List.map_nil, List.length_cons, List.length_nil, List.replicate, List.cons_append, List.nil_append, List.append_nil, List.getElem?_cons_zero, List.getElem?_cons_succ, List.set_cons_zero, List.set_cons_succ, w_v, slotP_s, w_addI, w_subI, w_mulI, w_divI, w_modI, w_powI, w_ltI, w_leI, w_gtI, w_geI, w_isN, w_notN, isNon_n, isNon_i, isNon_t, isNon_s, w_intI, w_intB, w_absI, w_maxI, w_minI, decide_eq_true_eq, Bool.not_eq_true, if_true, if_false, ite_true, ite_false, reduceCtorEq, Bool.false_eq_true, Bool.not_true, Bool.not_false, eq_self_iff_true, true_and, and_true, w_eqI, w_neI, w_ixT, w_ixL, ixP_s, at2_0, at2_1, at2_m1, at4_0, at4_1, at4_2, at4_3, at4_m1, at7_0, at7_1, at7_2, at7_3, at7_4, at7_5, at7_6, at7_m1, oD_none, oD_some, tgP_2, w_appLoc, w_lenLoc, w_lenLst, w_meth, List.length_map, goM_nx, goM_ret, goM_ct, goM_brk, goM_er, wi_str, strP_s, tgT', tgN]
      refine ⟨hp 18 (by decide) (by decide), ?_⟩
      generalize (if z < 0 then -z else z) = far
      split
      · refine ⟨hp 60 (by decide) (by decide), cMul_of (i := 200 * i) (j := 200) h1 (by decide) (by omega), hp 60 (by decide) (by decide), cMod_of (by decide), cMul_of (i := 62) (j := 20) (by omega) (by decide) (by decide), cMod_of (by decide), cMod_of (by decide), _, _, _, _, rfl, ?_, (fin _).1, (fin _).2⟩
        rw [p60]
        exact dig_bound h1 (Int.emod_nonneg _ (by decide)) (Int.emod_lt_of_pos _ (by decide))
      · refine ⟨cMul_of (i := 62) (j := 20) (by omega) (by decide) (by decide), cMod_of (by decide), cMod_of (by decide), _, _, _, _, rfl, Nat.lt_of_lt_of_le h1 (Nat.pow_le_pow_right (by decide) (by omega)), (fin _).1, (fin _).2⟩
    · rintro ρ S ⟨dg, sd, x, y, rfl, h1, h2, h3, rfl⟩
      simp -implicitDefEqProofs only [WR_ok, WS_ok, WR_bind, w_c, w_bin, boolP_b, notP_b, w_not, w_and, w_or, w_if, w_chain, w_evs0, w_evs, w_call, w_callK, w_tup, w_lst, w_cell, cellP_lst, cellP_dct, negP_i, w_neg, w_fld, w_methC, w_make, w_makeZ, ws_next, ws_brk, ws_ct, ws_seq, ws_asg, ws_ret, ws_drop, ws_if, ws_par, ws_unp, ws_sto, ws_stoF, ws_for, wi_seq, wi_rng1, wi_enum, seqP_lst, seqP_klst, seqP_tup, seqP_ktup, rngP_i, enumP_lst, goP_nx, goP_ret, goP_ct, goP_brk, goP_er, bodyP_nx, bodyP_ret, bodyP_er, turnP_nx, turnP_ct, turnP_brk, turnP_ret, turnP_er, w_run, startD, List.map_cons, List.map_nil, List.length_cons, List.length_nil, List.replicate, List.cons_append, List.nil_append, List.append_nil, List.getElem?_cons_zero, List.getElem?_cons_succ, List.set_cons_zero, List.set_cons_succ, w_v, slotP_s, w_addI, w_subI, w_mulI, w_divI, w_modI, w_powI, w_ltI, w_leI, w_gtI, w_geI, w_isN, w_notN, isNon_n, isNon_i, isNon_t, isNon_s, w_intI, w_intB, w_absI, w_maxI, w_minI, decide_eq_true_eq, Bool.not_eq_true, if_true, if_false, ite_true, ite_false, reduceCtorEq, Bool.false_eq_true, Bool.not_true, Bool.not_false, eq_self_iff_true, true_and, and_true, w_eqI, w_neI, w_ixT, w_ixL, ixP_s, at2_0, at2_1, at2_m1, at4_0, at4_1, at4_2, at4_3, at4_m1, at7_0, at7_1, at7_2, at7_3, at7_4, at7_5, at7_6, at7_m1, oD_none, oD_some, tgP_2, w_appLoc, w_lenLoc, w_lenLst, w_meth, List.length_map, goM_nx, goM_ret, goM_ct, goM_brk, goM_er, wi_str, strP_s]
      exact ⟨_, _, _, _, rfl, h2, h3⟩
  rintro ρ S ⟨dg, sd, x, y, rfl, h2, h3, rfl⟩
  simp -implicitDefEqProofs only [WR_ok, WS_ok, WR_bind, w_c, w_bin, boolP_b, notP_b, w_not, w_and, w_or, w_if, w_chain, w_evs0, w_evs, w_call, w_callK, w_tup, w_lst, w_cell, cellP_lst, cellP_dct, negP_i, w_neg, w_fld, w_methC, w_make, w_makeZ, ws_next, ws_brk, ws_ct, ws_seq, ws_asg, ws_ret, ws_drop, ws_if, ws_par, ws_unp, ws_sto, ws_stoF, ws_for, wi_seq, wi_rng1, wi_enum, seqP_lst, seqP_klst, seqP_tup, seqP_ktup, rngP_i, enumP_lst, goP_nx, goP_ret, goP_ct, goP_brk, goP_er, bodyP_nx, bodyP_ret, bodyP_er, turnP_nx, turnP_ct, turnP_brk, turnP_ret, turnP_er, w_run, startD, List.map_cons, List.map_nil, List.length_cons, List.length_nil, List.replicate, List.cons_append, List.nil_append, List.append_nil, List.getElem?_cons_zero, List.getElem?_cons_succ, List.set_cons_zero, List.set_cons_succ, w_v, slotP_s, w_addI, w_subI, w_mulI, w_divI, w_modI, w_powI, w_ltI, w_leI, w_gtI, w_geI, w_isN, w_notN, isNon_n, isNon_i, isNon_t, isNon_s, w_intI, w_intB, w_absI, w_maxI, w_minI, decide_eq_true_eq, Bool.not_eq_true, if_true, if_false, ite_true, ite_false, reduceCtorEq, Bool.false_eq_true, Bool.not_true, Bool.not_false, eq_self_iff_true, true_and, and_true, w_eqI, w_neI, w_ixT, w_ixL, ixP_s, at2_0, at2_1, at2_m1, at4_0, at4_1, at4_2, at4_3, at4_m1, at7_0, at7_1, at7_2, at7_3, at7_4, at7_5, at7_6, at7_m1, oD_none, oD_some, tgP_2, w_appLoc, w_lenLoc, w_lenLst, w_meth, List.length_map, goM_nx, goM_ret, goM_ct, goM_brk, goM_er, wi_str, strP_s]
  exact ⟨dg, sd, 0, h2, h3, by decide, by decide, rfl⟩
def dctC (ks : List Str) (val : Str → Option Int) : Cell := .dct (ks.map Sum.inr) (ks.map fun k => oD (val k))
theorem look_map {ks : List Str} {f : Str → D} {k : Str} (h : k ∈ ks) : look (ks.map Sum.inr) (ks.map f) (Sum.inr k : Key) = some (f k) := by
  induction ks with
  | nil => cases h
  | cons a ks ih =>
    show (if (Sum.inr a : Key) = Sum.inr k then some (f a) else look (ks.map Sum.inr) (ks.map f) (Sum.inr k : Key)) = _
    by_cases e : a = k
    · subst e; rw [if_pos rfl]
    · rw [if_neg (fun z => e (Sum.inr.inj z))]
      rcases List.mem_cons.mp h with h | h
      · exact absurd h.symm e
      · exact ih h
def upV {α : Type} (val : Str → α) (k : Str) (v : α) : Str → α := fun x => if x = k then v else val x
theorem putKs_mem {κ : Type} [DecidableEq κ] {ks : List κ} {k : κ} (h : k ∈ ks) : putKs ks k = ks := if_pos h
theorem putDs_map {ks : List Str} {α : Type} {g : α → D} {val : Str → α} {k : Str} {v : α} (h : k ∈ ks) (nd : ks.Nodup) : putDs (ks.map Sum.inr) (ks.map fun x => g (val x)) (Sum.inr k : Key) (g v) = ks.map fun x => g (upV val k v x) := by
  induction ks with
  | nil => cases h
  | cons a ks ih =>
    rw [List.nodup_cons] at nd
    show (if (Sum.inr a : Key) = Sum.inr k then g v :: ks.map (fun x => g (val x)) else g (val a) :: putDs (ks.map Sum.inr) (ks.map fun x => g (val x)) (Sum.inr k : Key) (g v)) = _
    by_cases e : a = k
    · subst e
      rw [if_pos rfl, List.map_cons]
      congr 1
      · unfold upV; rw [if_pos rfl]
      · refine List.map_congr_left fun x hx => ?_
        unfold upV
        rw [if_neg (by intro z; subst z; exact nd.1 hx)]
    · rw [if_neg (fun z => e (Sum.inr.inj z)), List.map_cons]
      rcases List.mem_cons.mp h with h | h
      · exact absurd h.symm e
      · rw [ih h nd.2]
        congr 1
        unfold upV
        rw [if_neg e]
theorem w_ixDct {P : D → List Cell → Prop} {E : Nat → D → List Cell → Prop} {S : List Cell} {n : Nat} {ks : List Str} {val : Str → Option Int} {k : Str} (hS : S[n]? = some (dctC ks val)) (hk : k ∈ ks) : WR (opIx (.loc n) (.str k) S) P E = P (oD (val k)) S := by
  have : opIx (.loc n) (.str k) S = .ok (oD (val k)) S := by
    show ixR (.loc n) (.str k) S = _
    unfold ixR asQ asLK asL asT
    dsimp only
    rw [hS]
    show ixD (.loc n) (.str k) S = _
    unfold ixD getD'
    dsimp only
    rw [hS]
    show (match some (look (ks.map Sum.inr) (ks.map fun k => oD (val k)) (Sum.inr k : Key)) with | some (some d) => Res.ok d S | _ => .bad) = _
    rw [look_map hk]
  rw [this]; rfl
theorem setP_dct {S : List Cell} {n : Nat} {ks : List Str} {val : Str → Option Int} {k : Str} {v : Option Int} {ρ : Slots} {Ps : Fl → List Cell → Prop} (hS : S[n]? = some (dctC ks val)) (hk : k ∈ ks) (nd : ks.Nodup) (hl : ks.length ≤ big) :
    setP (.loc n) (.str k) (oD v) ρ Ps S = Ps (.nx ρ) (S.set n (dctC ks (upV val k v))) := by
  have hm : (Sum.inr k : Key) ∈ ks.map Sum.inr := List.mem_map.mpr ⟨k, hk, rfl⟩
  have nd' : (ks.map (Sum.inr : Str → Key)).Nodup := by
    rw [List.nodup_iff_pairwise_ne, List.pairwise_map]
    exact (List.nodup_iff_pairwise_ne.mp nd).imp fun h e => h (Sum.inr.inj e)
  have : setC (.loc n) (.str k) (oD v) S = some (S.set n (dctC ks (upV val k v))) := by
    unfold setC
    dsimp only
    rw [hS]
    show (if (ks.map (Sum.inr : Str → Key)).Nodup ∧ (ks.map (Sum.inr : Str → Key)).length ≤ big then some (S.set n (.dct (putKs (ks.map Sum.inr) (Sum.inr k)) (putDs (ks.map Sum.inr) (ks.map fun k => oD (val k)) (Sum.inr k : Key) (oD v)))) else none) = _
    rw [if_pos ⟨nd', by simpa using hl⟩, putKs_mem hm, putDs_map hk nd]
    rfl
  unfold setP
  rw [this]
theorem tgT'_2 {i j : Nat} {ρ : Slots} {Q : Slots → Prop} {a b : D} : tgT' (tgT [tgN i, tgN j]) ρ Q (.tup [a, b]) = Q ((ρ.set i (some a)).set j (some b)) := rfl
/-- the value that a rule gives -/
def stepV (row : Row) (val : Str → Option Int) (v : Option Int) : Option Int :=
  if row.cs.all (fun c => inB c.2 (val c.1)) = true then (match row with
    | .set _ r _ => if inB r v = true then v else none
    | .step _ src f a r _ => if v.isSome = true ∨ inB r (val src) = false then none else (val src).map fun x => f * x + a) else none
def valBnd (B : Int) (val : Str → Option Int) : Prop := ∀ k, Bnd B (val k)
theorem inB_some {r : Rg} {v : Option Int} (h : inB r v = true) : ∃ x, v = some x := by
  cases v with
  | none => cases h
  | some x => exact ⟨x, rfl⟩


section
variable {P : D → List Cell → Prop} {E : Nat → D → List Cell → Prop} {S : List Cell} {row : Row}
def Row.kind : Row → Str
  | .set _ _ _ => "set"
  | .step _ _ _ _ _ _ => "step"
theorem row_m1 : WR (opIx (rowD row) (.int (-1)) S) P E = P (.tup (row.cs.map cdD)) S := by cases row <;> rfl
theorem row_0 : WR (opIx (rowD row) (.int 0) S) P E = P (.str row.kind) S := by cases row <;> rfl
theorem row_1 : WR (opIx (rowD row) (.int 1) S) P E = P (.str row.name) S := by cases row <;> rfl
theorem kind_ok : okStr row.kind = true := by
  cases row with
  | set _ _ _ => exact okS_set
  | step _ _ _ _ _ _ => exact okS_step
end
theorem filter_none {α : Type} {d : D} {p : α → Bool} : ∀ {cs : List α}, ((cs.map fun c => if p c = true then none else some d).filterMap id = [] ↔ cs.all p = true)
  | [] => by simp
  | c :: cs => by
    rw [List.map_cons, List.all_cons]
    cases h : p c with
    | true => simpa [h] using filter_none (cs := cs)
    | false => simp
theorem filter_len {α : Type} : ∀ (os : List (Option α)), (os.filterMap id).length ≤ os.length
  | [] => Nat.le_refl _
  | o :: os => by
    have := filter_len os
    cases o with
    | none => simpa using Nat.le_succ_of_le this
    | some a => simpa using this
theorem filter_all {α : Type} {q : α → Prop} : ∀ {os : List (Option α)}, (∀ a, some a ∈ os → q a) → ∀ a ∈ os.filterMap id, q a := by
  intro os h a ha
  rw [List.mem_filterMap] at ha
  obtain ⟨o, ho, e⟩ := ha
  have e' : o = some a := e
  subst e'
  exact h a ho
structure HeldOk (S : List Cell) (h : Nat) (ks : List Str) (val : Str → Option Int) : Prop where
  at_ : S[h]? = some (dctC ks val)
  bd : valBnd (10 ^ 31) val
def nextV (rows : List Row) (val : Str → Option Int) (num : Int) (spot : Option Int) : Option Int :=
  if 0 ≤ num ∧ num < rows.length then (match rows[num.toNat]? with
    | some row => stepV row val spot
    | none => none) else none
theorem isNon_o {v : Option Int} : isNon (oD v) = !v.isSome := by cases v <;> rfl
theorem row_at {rows : List Row} {num : Int} (h : 0 ≤ num ∧ num < rows.length) : ∃ row ∈ rows, rows[num.toNat]? = some row ∧ atD (rows.map rowD) num = some (rowD row) := by
  obtain ⟨d, h2, h3, h4⟩ := atD_int (l := rows.map rowD) h.1 (by simpa using h.2)
  rw [List.getElem?_map] at h4
  cases hr : rows[num.toNat]? with
  | none => rw [hr] at h4; cases h4
  | some row =>
    rw [hr] at h4
    cases h4
    exact ⟨row, List.mem_of_getElem? hr, rfl, h2⟩
theorem mul_ok {f x : Int} (hf : Bnd 10 (some f)) (hx : Bnd (10 ^ 31) (some x)) : cMul f x = true := by
  unfold Bnd at hf hx
  exact cMul_of (i := 10) (j := 120) (by omega) (by omega) (by decide)
theorem spec_next {S : List Cell} {h : Nat} {rows : List Row} {ks ws : List Str} {val : Str → Option Int} {num : Int} {spot : Option Int} (H : HeldOk S h ks val) (hrows : ∀ row ∈ rows, RowOk (10 ^ 31) ws row) (hws : ∀ w ∈ ws, w ∈ ks) (hok : ∀ w ∈ ws, okStr w = true) :
    WR (G_law_next [.lst (rows.map rowD), .loc h, .tup [.int num, oD spot]] S) (fun d S' => d = oD (nextV rows val num spot) ∧ S' = S) E0 := by
  unfold G_law_next
  rw [w_run]
  unfold b_law_next
  refine ws_mid (fun ρ S' => ρ = [some (.lst (rows.map rowD)), some (.loc h), some (.tup [.int num, oD spot]), some (.int num), some (oD spot), none, none, none] ∧ S' = S) (by simp -implicitDefEqProofs only [WR_ok, WS_ok, WR_bind, w_c, w_bin, boolP_b, notP_b, w_not, w_and, w_or, w_if, w_chain, w_evs0, w_evs, w_call, w_callK, w_tup, w_lst, w_cell, cellP_lst, cellP_dct, negP_i, w_neg, w_fld, w_methC, w_make, w_makeZ, ws_next, ws_brk, ws_ct, ws_seq, ws_asg, ws_ret, ws_drop, ws_if, ws_par, ws_unp, ws_sto, ws_stoF, ws_for, wi_seq, wi_rng1, wi_enum, seqP_lst, seqP_klst, seqP_tup, seqP_ktup, rngP_i, enumP_lst, goP_nx, goP_ret, goP_ct, goP_brk, goP_er, bodyP_nx, bodyP_ret, bodyP_er, turnP_nx, turnP_ct, turnP_brk, turnP_ret, turnP_er, w_run, startD, List.map_cons, List.map_nil, List.length_cons, List.length_nil, List.replicate, List.cons_append, List.nil_append, List.append_nil, List.getElem?_cons_zero, List.getElem?_cons_succ, List.set_cons_zero, List.set_cons_succ, w_v, slotP_s, w_addI, w_subI, w_mulI, w_divI, w_modI, w_powI, w_ltI, w_leI, w_gtI, w_geI, w_isN, w_notN, isNon_n, isNon_i, isNon_t, isNon_s, w_intI, w_intB, w_absI, w_maxI, w_minI, decide_eq_true_eq, Bool.not_eq_true, if_true, if_false, ite_true, ite_false, reduceCtorEq, Bool.false_eq_true, Bool.not_true, Bool.not_false, eq_self_iff_true, true_and, and_true, w_eqI, w_neI, w_ixT, w_ixL, ixP_s, at2_0, at2_1, at2_m1, at4_0, at4_1, at4_2, at4_3, at4_m1, at7_0, at7_1, at7_2, at7_3, at7_4, at7_5, at7_6, at7_m1, oD_none, oD_some, tgP_2, w_appLoc, w_lenLoc, w_lenLst, w_meth, List.length_map, goM_nx, goM_ret, goM_ct, goM_brk, goM_er, wi_str, strP_s]) ?_
  rintro ρ S1 ⟨rfl, rfl⟩
  by_cases hn : 0 ≤ num ∧ num < rows.length
  rotate_left
  · have hv : nextV rows val num spot = none := if_neg hn
    rw [hv]
    simp -implicitDefEqProofs only [WR_ok, WS_ok, WR_bind, w_c, w_bin, boolP_b, notP_b, w_not, w_and, w_or, w_if, w_chain, w_evs0, w_evs, w_call, w_callK, w_tup, w_lst, w_cell, cellP_lst, cellP_dct, negP_i, w_neg, w_fld, w_methC, w_make, w_makeZ, ws_next, ws_brk, ws_ct, ws_seq, ws_asg, ws_ret, ws_drop, ws_if, ws_par, ws_unp, ws_sto, ws_stoF, ws_for, wi_seq, wi_rng1, wi_enum, seqP_lst, seqP_klst, seqP_tup, seqP_ktup, rngP_i, enumP_lst, goP_nx, goP_ret, goP_ct, goP_brk, goP_er, bodyP_nx, bodyP_ret, bodyP_er, turnP_nx, turnP_ct, turnP_brk, turnP_ret, turnP_er, w_run, startD, List.map_cons, List.map_nil, List.length_cons, List.length_nil, List.replicate, List.cons_append, List.nil_append, List.append_nil, List.getElem?_cons_zero, List.getElem?_cons_succ, List.set_cons_zero, List.set_cons_succ, w_v, slotP_s, w_addI, w_subI, w_mulI, w_divI, w_modI, w_powI, w_ltI, w_leI, w_gtI, w_geI, w_isN, w_notN, isNon_n, isNon_i, isNon_t, isNon_s, w_intI, w_intB, w_absI, w_maxI, w_minI, decide_eq_true_eq, Bool.not_eq_true, if_true, if_false, ite_true, ite_false, reduceCtorEq, Bool.false_eq_true, Bool.not_true, Bool.not_false, eq_self_iff_true, true_and, and_true, w_eqI, w_neI, w_ixT, w_ixL, ixP_s, at2_0, at2_1, at2_m1, at4_0, at4_1, at4_2, at4_3, at4_m1, at7_0, at7_1, at7_2, at7_3, at7_4, at7_5, at7_6, at7_m1, oD_none, oD_some, tgP_2, w_appLoc, w_lenLoc, w_lenLst, w_meth, List.length_map, goM_nx, goM_ret, goM_ct, goM_brk, goM_er, wi_str, strP_s, Bool.not_eq_true', decide_eq_false_iff_not, ite_not]
    by_cases h0 : 0 ≤ num
    · rw [if_pos h0, if_neg (show ¬ num < (rows.length : Int) by omega)]
      try simp [oD]
    · rw [if_neg h0]
      try simp [oD]
  obtain ⟨row, hrow, hat, hat'⟩ := row_at hn
  have ok := hrows row hrow
  have hv : nextV rows val num spot = stepV row val spot := by unfold nextV; rw [if_pos hn, hat]
  rw [hv]
  refine ws_mid (fun ρ S' => ρ = [some (.lst (rows.map rowD)), some (.loc h), some (.tup [.int num, oD spot]), some (.int num), some (oD spot), none, none, none] ∧ S' = S1) ?_ ?_
  · simp -implicitDefEqProofs only [WR_ok, WS_ok, WR_bind, w_c, w_bin, boolP_b, notP_b, w_not, w_and, w_or, w_if, w_chain, w_evs0, w_evs, w_call, w_callK, w_tup, w_lst, w_cell, cellP_lst, cellP_dct, negP_i, w_neg, w_fld, w_methC, w_make, w_makeZ, ws_next, ws_brk, ws_ct, ws_seq, ws_asg, ws_ret, ws_drop, ws_if, ws_par, ws_unp, ws_sto, ws_stoF, ws_for, wi_seq, wi_rng1, wi_enum, seqP_lst, seqP_klst, seqP_tup, seqP_ktup, rngP_i, enumP_lst, goP_nx, goP_ret, goP_ct, goP_brk, goP_er, bodyP_nx, bodyP_ret, bodyP_er, turnP_nx, turnP_ct, turnP_brk, turnP_ret, turnP_er, w_run, startD, List.map_cons, List.map_nil, List.length_cons, List.length_nil, List.replicate, List.cons_append, List.nil_append, List.append_nil, List.getElem?_cons_zero, List.getElem?_cons_succ, List.set_cons_zero, List.set_cons_succ, w_v, slotP_s, w_addI, w_subI, w_mulI, w_divI, w_modI, w_powI, w_ltI, w_leI, w_gtI, w_geI, w_isN, w_notN, isNon_n, isNon_i, isNon_t, isNon_s, w_intI, w_intB, w_absI, w_maxI, w_minI, decide_eq_true_eq, Bool.not_eq_true, if_true, if_false, ite_true, ite_false, reduceCtorEq, Bool.false_eq_true, Bool.not_true, Bool.not_false, eq_self_iff_true, true_and, and_true, w_eqI, w_neI, w_ixT, w_ixL, ixP_s, at2_0, at2_1, at2_m1, at4_0, at4_1, at4_2, at4_3, at4_m1, at7_0, at7_1, at7_2, at7_3, at7_4, at7_5, at7_6, at7_m1, oD_none, oD_some, tgP_2, w_appLoc, w_lenLoc, w_lenLst, w_meth, List.length_map, goM_nx, goM_ret, goM_ct, goM_brk, goM_er, wi_str, strP_s, Bool.not_eq_true', decide_eq_false_iff_not, ite_not]
    rw [if_pos hn.1, if_pos hn.2]
    try simp
  rintro ρ S2 ⟨rfl, rfl⟩
  refine ws_mid (fun ρ S' => ρ = [some (.lst (rows.map rowD)), some (.loc h), some (.tup [.int num, oD spot]), some (.int num), some (oD spot), some (rowD row), none, none] ∧ S' = S2) ?_ ?_
  · simp -implicitDefEqProofs only [WR_ok, WS_ok, WR_bind, w_c, w_bin, boolP_b, notP_b, w_not, w_and, w_or, w_if, w_chain, w_evs0, w_evs, w_call, w_callK, w_tup, w_lst, w_cell, cellP_lst, cellP_dct, negP_i, w_neg, w_fld, w_methC, w_make, w_makeZ, ws_next, ws_brk, ws_ct, ws_seq, ws_asg, ws_ret, ws_drop, ws_if, ws_par, ws_unp, ws_sto, ws_stoF, ws_for, wi_seq, wi_rng1, wi_enum, seqP_lst, seqP_klst, seqP_tup, seqP_ktup, rngP_i, enumP_lst, goP_nx, goP_ret, goP_ct, goP_brk, goP_er, bodyP_nx, bodyP_ret, bodyP_er, turnP_nx, turnP_ct, turnP_brk, turnP_ret, turnP_er, w_run, startD, List.map_cons, List.map_nil, List.length_cons, List.length_nil, List.replicate, List.cons_append, List.nil_append, List.append_nil, List.getElem?_cons_zero, List.getElem?_cons_succ, List.set_cons_zero, List.set_cons_succ, w_v, slotP_s, w_addI, w_subI, w_mulI, w_divI, w_modI, w_powI, w_ltI, w_leI, w_gtI, w_geI, w_isN, w_notN, isNon_n, isNon_i, isNon_t, isNon_s, w_intI, w_intB, w_absI, w_maxI, w_minI, decide_eq_true_eq, Bool.not_eq_true, if_true, if_false, ite_true, ite_false, reduceCtorEq, Bool.false_eq_true, Bool.not_true, Bool.not_false, eq_self_iff_true, true_and, and_true, w_eqI, w_neI, w_ixT, w_ixL, ixP_s, at2_0, at2_1, at2_m1, at4_0, at4_1, at4_2, at4_3, at4_m1, at7_0, at7_1, at7_2, at7_3, at7_4, at7_5, at7_6, at7_m1, oD_none, oD_some, tgP_2, w_appLoc, w_lenLoc, w_lenLst, w_meth, List.length_map, goM_nx, goM_ret, goM_ct, goM_brk, goM_er, wi_str, strP_s, hat']
  rintro ρ S3 ⟨rfl, rfl⟩
  have hc : ∀ c ∈ row.cs, c.1 ∈ ks := fun c hc => hws _ (ok.nm c.1 (by
    cases row with
    | set n r cs => simp only [Row.names, List.mem_cons, List.mem_map]; exact .inr ⟨c, hc, rfl⟩
    | step n s f a r cs => simp only [Row.names, List.mem_cons, List.mem_map]; exact .inr (.inr ⟨c, hc, rfl⟩)))
  refine ws_mid (fun ρ S' => ρ = [some (.lst (rows.map rowD)), some (.loc h), some (.tup [.int num, oD spot]), some (.int num), some (oD spot), some (rowD row), none, none] ∧ S' = S3 ∧ row.cs.all (fun c => inB c.2 (val c.1)) = true) ?_ ?_
  · simp -implicitDefEqProofs only [WR_ok, WS_ok, WR_bind, w_c, w_bin, boolP_b, notP_b, w_not, w_and, w_or, w_if, w_chain, w_evs0, w_evs, w_call, w_callK, w_tup, w_lst, w_cell, cellP_lst, cellP_dct, negP_i, w_neg, w_fld, w_methC, w_make, w_makeZ, ws_next, ws_brk, ws_ct, ws_seq, ws_asg, ws_ret, ws_drop, ws_if, ws_par, ws_unp, ws_sto, ws_stoF, ws_for, wi_seq, wi_rng1, wi_enum, seqP_lst, seqP_klst, seqP_tup, seqP_ktup, rngP_i, enumP_lst, goP_nx, goP_ret, goP_ct, goP_brk, goP_er, bodyP_nx, bodyP_ret, bodyP_er, turnP_nx, turnP_ct, turnP_brk, turnP_ret, turnP_er, w_run, startD, List.map_cons, List.map_nil, List.length_cons, List.length_nil, List.replicate, List.cons_append, List.nil_append, List.append_nil, List.getElem?_cons_zero, List.getElem?_cons_succ, List.set_cons_zero, List.set_cons_succ, w_v, slotP_s, w_addI, w_subI, w_mulI, w_divI, w_modI, w_powI, w_ltI, w_leI, w_gtI, w_geI, w_isN, w_notN, isNon_n, isNon_i, isNon_t, isNon_s, w_intI, w_intB, w_absI, w_maxI, w_minI, decide_eq_true_eq, Bool.not_eq_true, if_true, if_false, ite_true, ite_false, reduceCtorEq, Bool.false_eq_true, Bool.not_true, Bool.not_false, eq_self_iff_true, true_and, and_true, w_eqI, w_neI, w_ixT, w_ixL, ixP_s, at2_0, at2_1, at2_m1, at4_0, at4_1, at4_2, at4_3, at4_m1, at7_0, at7_1, at7_2, at7_3, at7_4, at7_5, at7_6, at7_m1, oD_none, oD_some, tgP_2, w_appLoc, w_lenLoc, w_lenLst, w_meth, List.length_map, goM_nx, goM_ret, goM_ct, goM_brk, goM_er, wi_str, strP_s, w_comp, row_m1]
    refine comp_pure (os := row.cs.map fun c => if inB c.2 (val c.1) = true then none else some (.int 1)) trivial (by simp) ?_ ?_ ?_
    · intro i d o h1 h2
      rw [List.getElem?_map] at h1 h2
      cases hw : row.cs[i]? with
      | none => rw [hw] at h1; cases h1
      | some c =>
        rw [hw] at h1 h2
        cases h1
        cases h2
        have hck := hc c (List.mem_of_getElem? hw)
        unfold compT cdD
        simp -implicitDefEqProofs only [WR_ok, WS_ok, WR_bind, w_c, w_bin, boolP_b, notP_b, w_not, w_and, w_or, w_if, w_chain, w_evs0, w_evs, w_call, w_callK, w_tup, w_lst, w_cell, cellP_lst, cellP_dct, negP_i, w_neg, w_fld, w_methC, w_make, w_makeZ, ws_next, ws_brk, ws_ct, ws_seq, ws_asg, ws_ret, ws_drop, ws_if, ws_par, ws_unp, ws_sto, ws_stoF, ws_for, wi_seq, wi_rng1, wi_enum, seqP_lst, seqP_klst, seqP_tup, seqP_ktup, rngP_i, enumP_lst, goP_nx, goP_ret, goP_ct, goP_brk, goP_er, bodyP_nx, bodyP_ret, bodyP_er, turnP_nx, turnP_ct, turnP_brk, turnP_ret, turnP_er, w_run, startD, List.map_cons, List.map_nil, List.length_cons, List.length_nil, List.replicate, List.cons_append, List.nil_append, List.append_nil, List.getElem?_cons_zero, List.getElem?_cons_succ, List.set_cons_zero, List.set_cons_succ, w_v, slotP_s, w_addI, w_subI, w_mulI, w_divI, w_modI, w_powI, w_ltI, w_leI, w_gtI, w_geI, w_isN, w_notN, isNon_n, isNon_i, isNon_t, isNon_s, w_intI, w_intB, w_absI, w_maxI, w_minI, decide_eq_true_eq, Bool.not_eq_true, if_true, if_false, ite_true, ite_false, reduceCtorEq, Bool.false_eq_true, Bool.not_true, Bool.not_false, eq_self_iff_true, true_and, and_true, w_eqI, w_neI, w_ixT, w_ixL, ixP_s, at2_0, at2_1, at2_m1, at4_0, at4_1, at4_2, at4_3, at4_m1, at7_0, at7_1, at7_2, at7_3, at7_4, at7_5, at7_6, at7_m1, oD_none, oD_some, tgP_2, w_appLoc, w_lenLoc, w_lenLst, w_meth, List.length_map, goM_nx, goM_ret, goM_ct, goM_brk, goM_er, wi_str, strP_s, tgT'_2, wipeD, w_ixDct H.at_ hck]
        refine (spec_inside c.2 (val c.1)).call ?_
        rintro _ S4 ⟨rfl, rfl⟩
        try simp -implicitDefEqProofs only [WR_ok, WS_ok, WR_bind, w_c, w_bin, boolP_b, notP_b, w_not, w_and, w_or, w_if, w_chain, w_evs0, w_evs, w_call, w_callK, w_tup, w_lst, w_cell, cellP_lst, cellP_dct, negP_i, w_neg, w_fld, w_methC, w_make, w_makeZ, ws_next, ws_brk, ws_ct, ws_seq, ws_asg, ws_ret, ws_drop, ws_if, ws_par, ws_unp, ws_sto, ws_stoF, ws_for, wi_seq, wi_rng1, wi_enum, seqP_lst, seqP_klst, seqP_tup, seqP_ktup, rngP_i, enumP_lst, goP_nx, goP_ret, goP_ct, goP_brk, goP_er, bodyP_nx, bodyP_ret, bodyP_er, turnP_nx, turnP_ct, turnP_brk, turnP_ret, turnP_er, w_run, startD, List.map_cons, List.map_nil, List.length_cons, List.length_nil, List.replicate, List.cons_append, List.nil_append, List.append_nil, List.getElem?_cons_zero, List.getElem?_cons_succ, List.set_cons_zero, List.set_cons_succ, w_v, slotP_s, w_addI, w_subI, w_mulI, w_divI, w_modI, w_powI, w_ltI, w_leI, w_gtI, w_geI, w_isN, w_notN, isNon_n, isNon_i, isNon_t, isNon_s, w_intI, w_intB, w_absI, w_maxI, w_minI, decide_eq_true_eq, Bool.not_eq_true, if_true, if_false, ite_true, ite_false, reduceCtorEq, Bool.false_eq_true, Bool.not_true, Bool.not_false, eq_self_iff_true, true_and, and_true, w_eqI, w_neI, w_ixT, w_ixL, ixP_s, at2_0, at2_1, at2_m1, at4_0, at4_1, at4_2, at4_3, at4_m1, at7_0, at7_1, at7_2, at7_3, at7_4, at7_5, at7_6, at7_m1, oD_none, oD_some, tgP_2, w_appLoc, w_lenLoc, w_lenLst, w_meth, List.length_map, goM_nx, goM_ret, goM_ct, goM_brk, goM_er, wi_str, strP_s]
        cases hb : inB c.2 (val c.1) <;> simp [hb]
    · have := filter_len (row.cs.map fun c => if inB c.2 (val c.1) = true then none else some (D.int 1))
      rw [List.length_map] at this
      have := ok.few
      unfold big
      omega
    · try simp -implicitDefEqProofs only [WR_ok, WS_ok, WR_bind, w_c, w_bin, boolP_b, notP_b, w_not, w_and, w_or, w_if, w_chain, w_evs0, w_evs, w_call, w_callK, w_tup, w_lst, w_cell, cellP_lst, cellP_dct, negP_i, w_neg, w_fld, w_methC, w_make, w_makeZ, ws_next, ws_brk, ws_ct, ws_seq, ws_asg, ws_ret, ws_drop, ws_if, ws_par, ws_unp, ws_sto, ws_stoF, ws_for, wi_seq, wi_rng1, wi_enum, seqP_lst, seqP_klst, seqP_tup, seqP_ktup, rngP_i, enumP_lst, goP_nx, goP_ret, goP_ct, goP_brk, goP_er, bodyP_nx, bodyP_ret, bodyP_er, turnP_nx, turnP_ct, turnP_brk, turnP_ret, turnP_er, w_run, startD, List.map_cons, List.map_nil, List.length_cons, List.length_nil, List.replicate, List.cons_append, List.nil_append, List.append_nil, List.getElem?_cons_zero, List.getElem?_cons_succ, List.set_cons_zero, List.set_cons_succ, w_v, slotP_s, w_addI, w_subI, w_mulI, w_divI, w_modI, w_powI, w_ltI, w_leI, w_gtI, w_geI, w_isN, w_notN, isNon_n, isNon_i, isNon_t, isNon_s, w_intI, w_intB, w_absI, w_maxI, w_minI, decide_eq_true_eq, Bool.not_eq_true, if_true, if_false, ite_true, ite_false, reduceCtorEq, Bool.false_eq_true, Bool.not_true, Bool.not_false, eq_self_iff_true, true_and, and_true, w_eqI, w_neI, w_ixT, w_ixL, ixP_s, at2_0, at2_1, at2_m1, at4_0, at4_1, at4_2, at4_3, at4_m1, at7_0, at7_1, at7_2, at7_3, at7_4, at7_5, at7_6, at7_m1, oD_none, oD_some, tgP_2, w_appLoc, w_lenLoc, w_lenLst, w_meth, List.length_map, goM_nx, goM_ret, goM_ct, goM_brk, goM_er, wi_str, strP_s]
      have hd : okD 40 (.lst ((row.cs.map fun c => if inB c.2 (val c.1) = true then none else some (D.int 1)).filterMap id)) = true := by
        show (List.all _ (okD 39)) = true
        rw [List.all_eq_true]
        refine filter_all fun a ha => ?_
        obtain ⟨c, _, e⟩ := List.mem_map.mp ha
        split at e
        · cases e
        · cases e; rfl
      rw [w_neOf (eqD_nil seen_lst hd (by decide))]
      simp -implicitDefEqProofs only [WR_ok, WS_ok, WR_bind, w_c, w_bin, boolP_b, notP_b, w_not, w_and, w_or, w_if, w_chain, w_evs0, w_evs, w_call, w_callK, w_tup, w_lst, w_cell, cellP_lst, cellP_dct, negP_i, w_neg, w_fld, w_methC, w_make, w_makeZ, ws_next, ws_brk, ws_ct, ws_seq, ws_asg, ws_ret, ws_drop, ws_if, ws_par, ws_unp, ws_sto, ws_stoF, ws_for, wi_seq, wi_rng1, wi_enum, seqP_lst, seqP_klst, seqP_tup, seqP_ktup, rngP_i, enumP_lst, goP_nx, goP_ret, goP_ct, goP_brk, goP_er, bodyP_nx, bodyP_ret, bodyP_er, turnP_nx, turnP_ct, turnP_brk, turnP_ret, turnP_er, w_run, startD, List.map_cons, List.map_nil, List.length_cons, List.length_nil, List.replicate, List.cons_append, List.nil_append, List.append_nil, List.getElem?_cons_zero, List.getElem?_cons_succ, List.set_cons_zero, List.set_cons_succ, w_v, slotP_s, w_addI, w_subI, w_mulI, w_divI, w_modI, w_powI, w_ltI, w_leI, w_gtI, w_geI, w_isN, w_notN, isNon_n, isNon_i, isNon_t, isNon_s, w_intI, w_intB, w_absI, w_maxI, w_minI, decide_eq_true_eq, Bool.not_eq_true, if_true, if_false, ite_true, ite_false, reduceCtorEq, Bool.false_eq_true, Bool.not_true, Bool.not_false, eq_self_iff_true, true_and, and_true, w_eqI, w_neI, w_ixT, w_ixL, ixP_s, at2_0, at2_1, at2_m1, at4_0, at4_1, at4_2, at4_3, at4_m1, at7_0, at7_1, at7_2, at7_3, at7_4, at7_5, at7_6, at7_m1, oD_none, oD_some, tgP_2, w_appLoc, w_lenLoc, w_lenLst, w_meth, List.length_map, goM_nx, goM_ret, goM_ct, goM_brk, goM_er, wi_str, strP_s]
      by_cases hall : row.cs.all (fun c => inB c.2 (val c.1)) = true
      · rw [decide_eq_true (filter_none.mpr hall)]
        simp [hall]
      · rw [decide_eq_false (fun z => hall (filter_none.mp z))]
        have hs : stepV row val spot = none := if_neg hall
        simp [hs, oD]
  rintro ρ S4 ⟨rfl, rfl, hall⟩
  cases row with
  | set nm r cs =>
    have hs : stepV (.set nm r cs) val spot = (if inB r spot = true then spot else none) := if_pos hall
    rw [hs]
    simp -implicitDefEqProofs only [WR_ok, WS_ok, WR_bind, w_c, w_bin, boolP_b, notP_b, w_not, w_and, w_or, w_if, w_chain, w_evs0, w_evs, w_call, w_callK, w_tup, w_lst, w_cell, cellP_lst, cellP_dct, negP_i, w_neg, w_fld, w_methC, w_make, w_makeZ, ws_next, ws_brk, ws_ct, ws_seq, ws_asg, ws_ret, ws_drop, ws_if, ws_par, ws_unp, ws_sto, ws_stoF, ws_for, wi_seq, wi_rng1, wi_enum, seqP_lst, seqP_klst, seqP_tup, seqP_ktup, rngP_i, enumP_lst, goP_nx, goP_ret, goP_ct, goP_brk, goP_er, bodyP_nx, bodyP_ret, bodyP_er, turnP_nx, turnP_ct, turnP_brk, turnP_ret, turnP_er, w_run, startD, List.map_cons, List.map_nil, List.length_cons, List.length_nil, List.replicate, List.cons_append, List.nil_append, List.append_nil, List.getElem?_cons_zero, List.getElem?_cons_succ, List.set_cons_zero, List.set_cons_succ, w_v, slotP_s, w_addI, w_subI, w_mulI, w_divI, w_modI, w_powI, w_ltI, w_leI, w_gtI, w_geI, w_isN, w_notN, isNon_n, isNon_i, isNon_t, isNon_s, w_intI, w_intB, w_absI, w_maxI, w_minI, decide_eq_true_eq, Bool.not_eq_true, if_true, if_false, ite_true, ite_false, reduceCtorEq, Bool.false_eq_true, Bool.not_true, Bool.not_false, eq_self_iff_true, true_and, and_true, w_eqI, w_neI, w_ixT, w_ixL, ixP_s, at2_0, at2_1, at2_m1, at4_0, at4_1, at4_2, at4_3, at4_m1, at7_0, at7_1, at7_2, at7_3, at7_4, at7_5, at7_6, at7_m1, oD_none, oD_some, tgP_2, w_appLoc, w_lenLoc, w_lenLst, w_meth, List.length_map, goM_nx, goM_ret, goM_ct, goM_brk, goM_er, wi_str, strP_s, row_0]
    rw [w_eqS kind_ok okS_set]
    unfold Row.kind rowD
    simp -implicitDefEqProofs only [WR_ok, WS_ok, WR_bind, w_c, w_bin, boolP_b, notP_b, w_not, w_and, w_or, w_if, w_chain, w_evs0, w_evs, w_call, w_callK, w_tup, w_lst, w_cell, cellP_lst, cellP_dct, negP_i, w_neg, w_fld, w_methC, w_make, w_makeZ, ws_next, ws_brk, ws_ct, ws_seq, ws_asg, ws_ret, ws_drop, ws_if, ws_par, ws_unp, ws_sto, ws_stoF, ws_for, wi_seq, wi_rng1, wi_enum, seqP_lst, seqP_klst, seqP_tup, seqP_ktup, rngP_i, enumP_lst, goP_nx, goP_ret, goP_ct, goP_brk, goP_er, bodyP_nx, bodyP_ret, bodyP_er, turnP_nx, turnP_ct, turnP_brk, turnP_ret, turnP_er, w_run, startD, List.map_cons, List.map_nil, List.length_cons, List.length_nil, List.replicate, List.cons_append, List.nil_append, List.append_nil, List.getElem?_cons_zero, List.getElem?_cons_succ, List.set_cons_zero, List.set_cons_succ, w_v, slotP_s, w_addI, w_subI, w_mulI, w_divI, w_modI, w_powI, w_ltI, w_leI, w_gtI, w_geI, w_isN, w_notN, isNon_n, isNon_i, isNon_t, isNon_s, w_intI, w_intB, w_absI, w_maxI, w_minI, decide_eq_true_eq, Bool.not_eq_true, if_true, if_false, ite_true, ite_false, reduceCtorEq, Bool.false_eq_true, Bool.not_true, Bool.not_false, eq_self_iff_true, true_and, and_true, w_eqI, w_neI, w_ixT, w_ixL, ixP_s, at2_0, at2_1, at2_m1, at4_0, at4_1, at4_2, at4_3, at4_m1, at7_0, at7_1, at7_2, at7_3, at7_4, at7_5, at7_6, at7_m1, oD_none, oD_some, tgP_2, w_appLoc, w_lenLoc, w_lenLst, w_meth, List.length_map, goM_nx, goM_ret, goM_ct, goM_brk, goM_er, wi_str, strP_s]
    refine (spec_inside r spot).call ?_
    rintro _ S5 ⟨rfl, rfl⟩
    simp -implicitDefEqProofs only [WR_ok, WS_ok, WR_bind, w_c, w_bin, boolP_b, notP_b, w_not, w_and, w_or, w_if, w_chain, w_evs0, w_evs, w_call, w_callK, w_tup, w_lst, w_cell, cellP_lst, cellP_dct, negP_i, w_neg, w_fld, w_methC, w_make, w_makeZ, ws_next, ws_brk, ws_ct, ws_seq, ws_asg, ws_ret, ws_drop, ws_if, ws_par, ws_unp, ws_sto, ws_stoF, ws_for, wi_seq, wi_rng1, wi_enum, seqP_lst, seqP_klst, seqP_tup, seqP_ktup, rngP_i, enumP_lst, goP_nx, goP_ret, goP_ct, goP_brk, goP_er, bodyP_nx, bodyP_ret, bodyP_er, turnP_nx, turnP_ct, turnP_brk, turnP_ret, turnP_er, w_run, startD, List.map_cons, List.map_nil, List.length_cons, List.length_nil, List.replicate, List.cons_append, List.nil_append, List.append_nil, List.getElem?_cons_zero, List.getElem?_cons_succ, List.set_cons_zero, List.set_cons_succ, w_v, slotP_s, w_addI, w_subI, w_mulI, w_divI, w_modI, w_powI, w_ltI, w_leI, w_gtI, w_geI, w_isN, w_notN, isNon_n, isNon_i, isNon_t, isNon_s, w_intI, w_intB, w_absI, w_maxI, w_minI, decide_eq_true_eq, Bool.not_eq_true, if_true, if_false, ite_true, ite_false, reduceCtorEq, Bool.false_eq_true, Bool.not_true, Bool.not_false, eq_self_iff_true, true_and, and_true, w_eqI, w_neI, w_ixT, w_ixL, ixP_s, at2_0, at2_1, at2_m1, at4_0, at4_1, at4_2, at4_3, at4_m1, at7_0, at7_1, at7_2, at7_3, at7_4, at7_5, at7_6, at7_m1, oD_none, oD_some, tgP_2, w_appLoc, w_lenLoc, w_lenLst, w_meth, List.length_map, goM_nx, goM_ret, goM_ct, goM_brk, goM_er, wi_str, strP_s]
    cases hb : inB r spot <;> simp [hb, oD]
  | step nm src f a r cs =>
    have hs : stepV (.step nm src f a r cs) val spot = (if spot.isSome = true ∨ inB r (val src) = false then none else (val src).map fun x => f * x + a) := if_pos hall
    rw [hs]
    have hsrc : src ∈ ks := hws _ (ok.nm src (by simp [Row.names]))
    simp -implicitDefEqProofs only [WR_ok, WS_ok, WR_bind, w_c, w_bin, boolP_b, notP_b, w_not, w_and, w_or, w_if, w_chain, w_evs0, w_evs, w_call, w_callK, w_tup, w_lst, w_cell, cellP_lst, cellP_dct, negP_i, w_neg, w_fld, w_methC, w_make, w_makeZ, ws_next, ws_brk, ws_ct, ws_seq, ws_asg, ws_ret, ws_drop, ws_if, ws_par, ws_unp, ws_sto, ws_stoF, ws_for, wi_seq, wi_rng1, wi_enum, seqP_lst, seqP_klst, seqP_tup, seqP_ktup, rngP_i, enumP_lst, goP_nx, goP_ret, goP_ct, goP_brk, goP_er, bodyP_nx, bodyP_ret, bodyP_er, turnP_nx, turnP_ct, turnP_brk, turnP_ret, turnP_er, w_run, startD, List.map_cons, List.map_nil, List.length_cons, List.length_nil, List.replicate, List.cons_append, List.nil_append, List.append_nil, List.getElem?_cons_zero, List.getElem?_cons_succ, List.set_cons_zero, List.set_cons_succ, w_v, slotP_s, w_addI, w_subI, w_mulI, w_divI, w_modI, w_powI, w_ltI, w_leI, w_gtI, w_geI, w_isN, w_notN, isNon_n, isNon_i, isNon_t, isNon_s, w_intI, w_intB, w_absI, w_maxI, w_minI, decide_eq_true_eq, Bool.not_eq_true, if_true, if_false, ite_true, ite_false, reduceCtorEq, Bool.false_eq_true, Bool.not_true, Bool.not_false, eq_self_iff_true, true_and, and_true, w_eqI, w_neI, w_ixT, w_ixL, ixP_s, at2_0, at2_1, at2_m1, at4_0, at4_1, at4_2, at4_3, at4_m1, at7_0, at7_1, at7_2, at7_3, at7_4, at7_5, at7_6, at7_m1, oD_none, oD_some, tgP_2, w_appLoc, w_lenLoc, w_lenLst, w_meth, List.length_map, goM_nx, goM_ret, goM_ct, goM_brk, goM_er, wi_str, strP_s, row_0]
    rw [w_eqS kind_ok okS_set]
    unfold Row.kind rowD
    simp -implicitDefEqProofs only [WR_ok, WS_ok, WR_bind, w_c, w_bin, boolP_b, notP_b, w_not, w_and, w_or, w_if, w_chain, w_evs0, w_evs, w_call, w_callK, w_tup, w_lst, w_cell, cellP_lst, cellP_dct, negP_i, w_neg, w_fld, w_methC, w_make, w_makeZ, ws_next, ws_brk, ws_ct, ws_seq, ws_asg, ws_ret, ws_drop, ws_if, ws_par, ws_unp, ws_sto, ws_stoF, ws_for, wi_seq, wi_rng1, wi_enum, seqP_lst, seqP_klst, seqP_tup, seqP_ktup, rngP_i, enumP_lst, goP_nx, goP_ret, goP_ct, goP_brk, goP_er, bodyP_nx, bodyP_ret, bodyP_er, turnP_nx, turnP_ct, turnP_brk, turnP_ret, turnP_er, w_run, startD, List.map_cons, List.map_nil, List.length_cons, List.length_nil, List.replicate, List.cons_append, List.nil_append, List.append_nil, List.getElem?_cons_zero, List.getElem?_cons_succ, List.set_cons_zero, List.set_cons_succ, w_v, slotP_s, w_addI, w_subI, w_mulI, w_divI, w_modI, w_powI, w_ltI, w_leI, w_gtI, w_geI, w_isN, w_notN, isNon_n, isNon_i, isNon_t, isNon_s, w_intI, w_intB, w_absI, w_maxI, w_minI, decide_eq_true_eq, Bool.not_eq_true, if_true, if_false, ite_true, ite_false, reduceCtorEq, Bool.false_eq_true, Bool.not_true, Bool.not_false, eq_self_iff_true, true_and, and_true, w_eqI, w_neI, w_ixT, w_ixL, ixP_s, at2_0, at2_1, at2_m1, at4_0, at4_1, at4_2, at4_3, at4_m1, at7_0, at7_1, at7_2, at7_3, at7_4, at7_5, at7_6, at7_m1, oD_none, oD_some, tgP_2, w_appLoc, w_lenLoc, w_lenLst, w_meth, List.length_map, goM_nx, goM_ret, goM_ct, goM_brk, goM_er, wi_str, strP_s, isNon_o]
    have : ¬ ((("step" : Str)) = "set") := set_step
    rw [if_neg this]
    try simp -implicitDefEqProofs only [WR_ok, WS_ok, WR_bind, w_c, w_bin, boolP_b, notP_b, w_not, w_and, w_or, w_if, w_chain, w_evs0, w_evs, w_call, w_callK, w_tup, w_lst, w_cell, cellP_lst, cellP_dct, negP_i, w_neg, w_fld, w_methC, w_make, w_makeZ, ws_next, ws_brk, ws_ct, ws_seq, ws_asg, ws_ret, ws_drop, ws_if, ws_par, ws_unp, ws_sto, ws_stoF, ws_for, wi_seq, wi_rng1, wi_enum, seqP_lst, seqP_klst, seqP_tup, seqP_ktup, rngP_i, enumP_lst, goP_nx, goP_ret, goP_ct, goP_brk, goP_er, bodyP_nx, bodyP_ret, bodyP_er, turnP_nx, turnP_ct, turnP_brk, turnP_ret, turnP_er, w_run, startD, List.map_cons, List.map_nil, List.length_cons, List.length_nil, List.replicate, List.cons_append, List.nil_append, List.append_nil, List.getElem?_cons_zero, List.getElem?_cons_succ, List.set_cons_zero, List.set_cons_succ, w_v, slotP_s, w_addI, w_subI, w_mulI, w_divI, w_modI, w_powI, w_ltI, w_leI, w_gtI, w_geI, w_isN, w_notN, isNon_n, isNon_i, isNon_t, isNon_s, w_intI, w_intB, w_absI, w_maxI, w_minI, decide_eq_true_eq, Bool.not_eq_true, if_true, if_false, ite_true, ite_false, reduceCtorEq, Bool.false_eq_true, Bool.not_true, Bool.not_false, eq_self_iff_true, true_and, and_true, w_eqI, w_neI, w_ixT, w_ixL, ixP_s, at2_0, at2_1, at2_m1, at4_0, at4_1, at4_2, at4_3, at4_m1, at7_0, at7_1, at7_2, at7_3, at7_4, at7_5, at7_6, at7_m1, oD_none, oD_some, tgP_2, w_appLoc, w_lenLoc, w_lenLst, w_meth, List.length_map, goM_nx, goM_ret, goM_ct, goM_brk, goM_er, wi_str, strP_s]
    cases spot with
    | some x => simp [oD]
    | none =>
      simp -implicitDefEqProofs only [WR_ok, WS_ok, WR_bind, w_c, w_bin, boolP_b, notP_b, w_not, w_and, w_or, w_if, w_chain, w_evs0, w_evs, w_call, w_callK, w_tup, w_lst, w_cell, cellP_lst, cellP_dct, negP_i, w_neg, w_fld, w_methC, w_make, w_makeZ, ws_next, ws_brk, ws_ct, ws_seq, ws_asg, ws_ret, ws_drop, ws_if, ws_par, ws_unp, ws_sto, ws_stoF, ws_for, wi_seq, wi_rng1, wi_enum, seqP_lst, seqP_klst, seqP_tup, seqP_ktup, rngP_i, enumP_lst, goP_nx, goP_ret, goP_ct, goP_brk, goP_er, bodyP_nx, bodyP_ret, bodyP_er, turnP_nx, turnP_ct, turnP_brk, turnP_ret, turnP_er, w_run, startD, List.map_cons, List.map_nil, List.length_cons, List.length_nil, List.replicate, List.cons_append, List.nil_append, List.append_nil, List.getElem?_cons_zero, List.getElem?_cons_succ, List.set_cons_zero, List.set_cons_succ, w_v, slotP_s, w_addI, w_subI, w_mulI, w_divI, w_modI, w_powI, w_ltI, w_leI, w_gtI, w_geI, w_isN, w_notN, isNon_n, isNon_i, isNon_t, isNon_s, w_intI, w_intB, w_absI, w_maxI, w_minI, decide_eq_true_eq, Bool.not_eq_true, if_true, if_false, ite_true, ite_false, reduceCtorEq, Bool.false_eq_true, Bool.not_true, Bool.not_false, eq_self_iff_true, true_and, and_true, w_eqI, w_neI, w_ixT, w_ixL, ixP_s, at2_0, at2_1, at2_m1, at4_0, at4_1, at4_2, at4_3, at4_m1, at7_0, at7_1, at7_2, at7_3, at7_4, at7_5, at7_6, at7_m1, oD_none, oD_some, tgP_2, w_appLoc, w_lenLoc, w_lenLst, w_meth, List.length_map, goM_nx, goM_ret, goM_ct, goM_brk, goM_er, wi_str, strP_s, w_ixDct H.at_ hsrc, Option.isSome_none]
      refine (spec_inside r (val src)).call ?_
      rintro _ S5 ⟨rfl, rfl⟩
      simp -implicitDefEqProofs only [WR_ok, WS_ok, WR_bind, w_c, w_bin, boolP_b, notP_b, w_not, w_and, w_or, w_if, w_chain, w_evs0, w_evs, w_call, w_callK, w_tup, w_lst, w_cell, cellP_lst, cellP_dct, negP_i, w_neg, w_fld, w_methC, w_make, w_makeZ, ws_next, ws_brk, ws_ct, ws_seq, ws_asg, ws_ret, ws_drop, ws_if, ws_par, ws_unp, ws_sto, ws_stoF, ws_for, wi_seq, wi_rng1, wi_enum, seqP_lst, seqP_klst, seqP_tup, seqP_ktup, rngP_i, enumP_lst, goP_nx, goP_ret, goP_ct, goP_brk, goP_er, bodyP_nx, bodyP_ret, bodyP_er, turnP_nx, turnP_ct, turnP_brk, turnP_ret, turnP_er, w_run, startD, List.map_cons, List.map_nil, List.length_cons, List.length_nil, List.replicate, List.cons_append, List.nil_append, List.append_nil, List.getElem?_cons_zero, List.getElem?_cons_succ, List.set_cons_zero, List.set_cons_succ, w_v, slotP_s, w_addI, w_subI, w_mulI, w_divI, w_modI, w_powI, w_ltI, w_leI, w_gtI, w_geI, w_isN, w_notN, isNon_n, isNon_i, isNon_t, isNon_s, w_intI, w_intB, w_absI, w_maxI, w_minI, decide_eq_true_eq, Bool.not_eq_true, if_true, if_false, ite_true, ite_false, reduceCtorEq, Bool.false_eq_true, Bool.not_true, Bool.not_false, eq_self_iff_true, true_and, and_true, w_eqI, w_neI, w_ixT, w_ixL, ixP_s, at2_0, at2_1, at2_m1, at4_0, at4_1, at4_2, at4_3, at4_m1, at7_0, at7_1, at7_2, at7_3, at7_4, at7_5, at7_6, at7_m1, oD_none, oD_some, tgP_2, w_appLoc, w_lenLoc, w_lenLst, w_meth, List.length_map, goM_nx, goM_ret, goM_ct, goM_brk, goM_er, wi_str, strP_s]
      cases hb : inB r (val src) with
      | false => simp [oD]
      | true =>
        obtain ⟨x, hx⟩ := inB_some hb
        have hbx := H.bd src
        rw [hx] at hbx
        simp -implicitDefEqProofs only [WR_ok, WS_ok, WR_bind, w_c, w_bin, boolP_b, notP_b, w_not, w_and, w_or, w_if, w_chain, w_evs0, w_evs, w_call, w_callK, w_tup, w_lst, w_cell, cellP_lst, cellP_dct, negP_i, w_neg, w_fld, w_methC, w_make, w_makeZ, ws_next, ws_brk, ws_ct, ws_seq, ws_asg, ws_ret, ws_drop, ws_if, ws_par, ws_unp, ws_sto, ws_stoF, ws_for, wi_seq, wi_rng1, wi_enum, seqP_lst, seqP_klst, seqP_tup, seqP_ktup, rngP_i, enumP_lst, goP_nx, goP_ret, goP_ct, goP_brk, goP_er, bodyP_nx, bodyP_ret, bodyP_er, turnP_nx, turnP_ct, turnP_brk, turnP_ret, turnP_er, w_run, startD, List.map_cons, List.map_nil, List.length_cons, List.length_nil, List.replicate, List.cons_append, List.nil_append, List.append_nil, List.getElem?_cons_zero, List.getElem?_cons_succ, List.set_cons_zero, List.set_cons_succ, w_v, slotP_s, w_addI, w_subI, w_mulI, w_divI, w_modI, w_powI, w_ltI, w_leI, w_gtI, w_geI, w_isN, w_notN, isNon_n, isNon_i, isNon_t, isNon_s, w_intI, w_intB, w_absI, w_maxI, w_minI, decide_eq_true_eq, Bool.not_eq_true, if_true, if_false, ite_true, ite_false, reduceCtorEq, Bool.false_eq_true, Bool.not_true, Bool.not_false, eq_self_iff_true, true_and, and_true, w_eqI, w_neI, w_ixT, w_ixL, ixP_s, at2_0, at2_1, at2_m1, at4_0, at4_1, at4_2, at4_3, at4_m1, at7_0, at7_1, at7_2, at7_3, at7_4, at7_5, at7_6, at7_m1, oD_none, oD_some, tgP_2, w_appLoc, w_lenLoc, w_lenLst, w_meth, List.length_map, goM_nx, goM_ret, goM_ct, goM_brk, goM_er, wi_str, strP_s, hx]
        have hm := mul_ok ok.rg.2.1 hbx
        simp [hm, oD, w_ixDct H.at_ hsrc, hx, w_mulI, w_addI]


theorem w_addL {P : D → List Cell → Prop} {E : Nat → D → List Cell → Prop} {S : List Cell} {a b : List D} : WR (opAdd (.lst a) (.lst b) S) P E = (a.length + b.length ≤ big ∧ P (.lst (a ++ b)) S) := wr_if
theorem tgT'_1 {i : Nat} {ρ : Slots} {Q : Slots → Prop} {a : D} : tgT' (tgN i) ρ Q a = Q (ρ.set i (some a)) := rfl
def endsOf (g : Rg) : List Int := [g.1, g.2].filterMap id
theorem spec_spot {S0 S : List Cell} {r n : Nat} {g : Rg} (hr : r < S0.length) (R : RS S0 r n S) (hn : n ≤ 2 ^ 36) (hg : rgBnd (10 ^ 31) g) :
    WR (G_law_spot [.loc r, rgD g] S) (fun d S' => RS S0 r (n + 2) S' ∧ ∃ o, d = oD o ∧ Bnd (10 ^ 32) o) E0 := by
  unfold G_law_spot
  rw [w_run]
  unfold b_law_spot
  have hb : ∀ e ∈ endsOf g, -(10 ^ 31) ≤ e ∧ e ≤ 10 ^ 31 := fun e he => by
    unfold endsOf at he
    rw [List.mem_filterMap] at he
    obtain ⟨o, ho, h⟩ := he
    have h' : o = some e := h
    subst h'
    simp only [List.mem_cons, List.not_mem_nil, or_false] at ho
    rcases ho with ho | ho
    · have := hg.1; rw [← ho] at this; exact this
    · have := hg.2; rw [← ho] at this; exact this
  have hlen : (endsOf g).length ≤ 2 := filter_len [g.1, g.2]
  refine ws_mid (fun ρ S' => ρ = [some (.loc r), some (rgD g), some (.lst ((endsOf g).map D.int)), none, none] ∧ S' = S) ?_ ?_
  · simp -implicitDefEqProofs only [WR_ok, WS_ok, WR_bind, w_c, w_bin, boolP_b, notP_b, w_not, w_and, w_or, w_if, w_chain, w_evs0, w_evs, w_call, w_callK, w_tup, w_lst, w_cell, cellP_lst, cellP_dct, negP_i, w_neg, w_fld, w_methC, w_make, w_makeZ, ws_next, ws_brk, ws_ct, ws_seq, ws_asg, ws_ret, ws_drop, ws_if, ws_par, ws_unp, ws_sto, ws_stoF, ws_for, wi_seq, wi_rng1, wi_enum, seqP_lst, seqP_klst, seqP_tup, seqP_ktup, rngP_i, enumP_lst, goP_nx, goP_ret, goP_ct, goP_brk, goP_er, bodyP_nx, bodyP_ret, bodyP_er, turnP_nx, turnP_ct, turnP_brk, turnP_ret, turnP_er, w_run, startD, List.map_cons, List.map_nil, List.length_cons, List.length_nil, List.replicate, List.cons_append, List.nil_append, List.append_nil, List.getElem?_cons_zero, List.getElem?_cons_succ, List.set_cons_zero, List.set_cons_succ, w_v, slotP_s, w_addI, w_subI, w_mulI, w_divI, w_modI, w_powI, w_ltI, w_leI, w_gtI, w_geI, w_isN, w_notN, isNon_n, isNon_i, isNon_t, isNon_s, w_intI, w_intB, w_absI, w_maxI, w_minI, decide_eq_true_eq, Bool.not_eq_true, if_true, if_false, ite_true, ite_false, reduceCtorEq, Bool.false_eq_true, Bool.not_true, Bool.not_false, eq_self_iff_true, true_and, and_true, w_eqI, w_neI, w_ixT, w_ixL, ixP_s, at2_0, at2_1, at2_m1, at4_0, at4_1, at4_2, at4_3, at4_m1, at7_0, at7_1, at7_2, at7_3, at7_4, at7_5, at7_6, at7_m1, oD_none, oD_some, tgP_2, w_appLoc, w_lenLoc, w_lenLst, w_meth, List.length_map, goM_nx, goM_ret, goM_ct, goM_brk, goM_er, wi_str, strP_s, rgD, w_comp]
    have hf : ([g.1, g.2].map fun o => o.map D.int).filterMap id = (endsOf g).map D.int := by
      obtain ⟨a, b⟩ := g
      cases a <;> cases b <;> rfl
    refine comp_pure (os := [g.1, g.2].map fun o => o.map D.int) trivial rfl ?_ ?_ ?_
    · intro i d o h1 h2
      have key : ∀ x : Option Int, compT (tgN 4) [4] (binF opNotN (vF 4) (cF .non)) (vF 4) [some (.loc r), some (.tup [oD g.1, oD g.2]), none, none, none] S (oD x) (x.map D.int) := fun x => by
        unfold compT
        cases x <;> simp -implicitDefEqProofs only [WR_ok, WS_ok, WR_bind, w_c, w_bin, boolP_b, notP_b, w_not, w_and, w_or, w_if, w_chain, w_evs0, w_evs, w_call, w_callK, w_tup, w_lst, w_cell, cellP_lst, cellP_dct, negP_i, w_neg, w_fld, w_methC, w_make, w_makeZ, ws_next, ws_brk, ws_ct, ws_seq, ws_asg, ws_ret, ws_drop, ws_if, ws_par, ws_unp, ws_sto, ws_stoF, ws_for, wi_seq, wi_rng1, wi_enum, seqP_lst, seqP_klst, seqP_tup, seqP_ktup, rngP_i, enumP_lst, goP_nx, goP_ret, goP_ct, goP_brk, goP_er, bodyP_nx, bodyP_ret, bodyP_er, turnP_nx, turnP_ct, turnP_brk, turnP_ret, turnP_er, w_run, startD, List.map_cons, List.map_nil, List.length_cons, List.length_nil, List.replicate, List.cons_append, List.nil_append, List.append_nil, List.getElem?_cons_zero, List.getElem?_cons_succ, List.set_cons_zero, List.set_cons_succ, w_v, slotP_s, w_addI, w_subI, w_mulI, w_divI, w_modI, w_powI, w_ltI, w_leI, w_gtI, w_geI, w_isN, w_notN, isNon_n, isNon_i, isNon_t, isNon_s, w_intI, w_intB, w_absI, w_maxI, w_minI, decide_eq_true_eq, Bool.not_eq_true, if_true, if_false, ite_true, ite_false, reduceCtorEq, Bool.false_eq_true, Bool.not_true, Bool.not_false, eq_self_iff_true, true_and, and_true, w_eqI, w_neI, w_ixT, w_ixL, ixP_s, at2_0, at2_1, at2_m1, at4_0, at4_1, at4_2, at4_3, at4_m1, at7_0, at7_1, at7_2, at7_3, at7_4, at7_5, at7_6, at7_m1, oD_none, oD_some, tgP_2, w_appLoc, w_lenLoc, w_lenLst, w_meth, List.length_map, goM_nx, goM_ret, goM_ct, goM_brk, goM_er, wi_str, strP_s, tgT'_1, wipeD] <;> simp
      cases i with
      | zero => simp at h1 h2; subst h1; subst h2; exact key _
      | succ i =>
        cases i with
        | zero => simp at h1 h2; subst h1; subst h2; exact key _
        | succ i => simp at h1
    · rw [hf, List.length_map]; unfold big; omega
    · rw [hf]; simp
  rintro ρ S1 ⟨rfl, rfl⟩
  have comp1 : ∀ (f : Int → Int) (e : Ev) (ρ : Slots) (P : D → List Cell → Prop) (E : Nat → D → List Cell → Prop) (S : List Cell), (∀ z : Int, WR (e ((wipeD ρ [4]).set 4 (some (.int z))) S) (fun d S' => d = .int (f z) ∧ S' = S) E0) → P (.lst ((endsOf g).map fun z => D.int (f z))) S →
      WR (compD ((endsOf g).map D.int) none (tgN 4) [4] trueF e ρ ((endsOf g).map D.int) S fun r S2 => if r.length ≤ big then .ok (.lst r) S2 else .bad) P E := by
    intro f e ρ P E S he hP
    have hf : ((endsOf g).map fun z => some (D.int (f z))).filterMap id = (endsOf g).map fun z => D.int (f z) := by
      have := filterMap_some ((endsOf g).map fun z => D.int (f z))
      rw [List.map_map] at this
      exact this
    refine comp_pure (os := (endsOf g).map fun z => some (D.int (f z))) trivial (by simp) ?_ ?_ ?_
    · intro i d o h1 h2
      rw [List.getElem?_map] at h1 h2
      cases hw : (endsOf g)[i]? with
      | none => rw [hw] at h1; cases h1
      | some z =>
        rw [hw] at h1 h2
        cases h1
        cases h2
        unfold compT
        simp -implicitDefEqProofs only [WR_ok, WS_ok, WR_bind, w_c, w_bin, boolP_b, notP_b, w_not, w_and, w_or, w_if, w_chain, w_evs0, w_evs, w_call, w_callK, w_tup, w_lst, w_cell, cellP_lst, cellP_dct, negP_i, w_neg, w_fld, w_methC, w_make, w_makeZ, ws_next, ws_brk, ws_ct, ws_seq, ws_asg, ws_ret, ws_drop, ws_if, ws_par, ws_unp, ws_sto, ws_stoF, ws_for, wi_seq, wi_rng1, wi_enum, seqP_lst, seqP_klst, seqP_tup, seqP_ktup, rngP_i, enumP_lst, goP_nx, goP_ret, goP_ct, goP_brk, goP_er, bodyP_nx, bodyP_ret, bodyP_er, turnP_nx, turnP_ct, turnP_brk, turnP_ret, turnP_er, w_run, startD, List.map_cons, List.map_nil, List.length_cons, List.length_nil, List.replicate, List.cons_append, List.nil_append, List.append_nil, List.getElem?_cons_zero, List.getElem?_cons_succ, List.set_cons_zero, List.set_cons_succ, w_v, slotP_s, w_addI, w_subI, w_mulI, w_divI, w_modI, w_powI, w_ltI, w_leI, w_gtI, w_geI, w_isN, w_notN, isNon_n, isNon_i, isNon_t, isNon_s, w_intI, w_intB, w_absI, w_maxI, w_minI, decide_eq_true_eq, Bool.not_eq_true, if_true, if_false, ite_true, ite_false, reduceCtorEq, Bool.false_eq_true, Bool.not_true, Bool.not_false, eq_self_iff_true, true_and, and_true, w_eqI, w_neI, w_ixT, w_ixL, ixP_s, at2_0, at2_1, at2_m1, at4_0, at4_1, at4_2, at4_3, at4_m1, at7_0, at7_1, at7_2, at7_3, at7_4, at7_5, at7_6, at7_m1, oD_none, oD_some, tgP_2, w_appLoc, w_lenLoc, w_lenLst, w_meth, List.length_map, goM_nx, goM_ret, goM_ct, goM_brk, goM_er, wi_str, strP_s, tgT'_1, trueF]
        exact ⟨_, rfl, he z⟩
    · rw [hf, List.length_map]; unfold big; omega
    · rw [hf]; exact hP
  refine ws_mid (fun ρ S' => ∃ l : List D, ρ = [some (.loc r), some (rgD g), some (.lst ((endsOf g).map D.int)), some (.lst l), none] ∧ RS S0 r (n + 1) S' ∧ 0 < l.length ∧ l.length ≤ 20 ∧ ∀ d ∈ l, ∃ o, d = oD o ∧ Bnd (10 ^ 32) o) ?_ ?_
  · simp -implicitDefEqProofs only [WR_ok, WS_ok, WR_bind, w_c, w_bin, boolP_b, notP_b, w_not, w_and, w_or, w_if, w_chain, w_evs0, w_evs, w_call, w_callK, w_tup, w_lst, w_cell, cellP_lst, cellP_dct, negP_i, w_neg, w_fld, w_methC, w_make, w_makeZ, ws_next, ws_brk, ws_ct, ws_seq, ws_asg, ws_ret, ws_drop, ws_if, ws_par, ws_unp, ws_sto, ws_stoF, ws_for, wi_seq, wi_rng1, wi_enum, seqP_lst, seqP_klst, seqP_tup, seqP_ktup, rngP_i, enumP_lst, goP_nx, goP_ret, goP_ct, goP_brk, goP_er, bodyP_nx, bodyP_ret, bodyP_er, turnP_nx, turnP_ct, turnP_brk, turnP_ret, turnP_er, w_run, startD, List.map_cons, List.map_nil, List.length_cons, List.length_nil, List.replicate, List.cons_append, List.nil_append, List.append_nil, List.getElem?_cons_zero, List.getElem?_cons_succ, List.set_cons_zero, List.set_cons_succ, w_v, slotP_s, w_addI, w_subI, w_mulI, w_divI, w_modI, w_powI, w_ltI, w_leI, w_gtI, w_geI, w_isN, w_notN, isNon_n, isNon_i, isNon_t, isNon_s, w_intI, w_intB, w_absI, w_maxI, w_minI, decide_eq_true_eq, Bool.not_eq_true, if_true, if_false, ite_true, ite_false, reduceCtorEq, Bool.false_eq_true, Bool.not_true, Bool.not_false, eq_self_iff_true, true_and, and_true, w_eqI, w_neI, w_ixT, w_ixL, ixP_s, at2_0, at2_1, at2_m1, at4_0, at4_1, at4_2, at4_3, at4_m1, at7_0, at7_1, at7_2, at7_3, at7_4, at7_5, at7_6, at7_m1, oD_none, oD_some, tgP_2, w_appLoc, w_lenLoc, w_lenLst, w_meth, List.length_map, goM_nx, goM_ret, goM_ct, goM_brk, goM_er, wi_str, strP_s, w_comp]
    refine comp1 (fun z => z + 1) _ _ _ _ _ (fun z => by simp -implicitDefEqProofs only [WR_ok, WS_ok, WR_bind, w_c, w_bin, boolP_b, notP_b, w_not, w_and, w_or, w_if, w_chain, w_evs0, w_evs, w_call, w_callK, w_tup, w_lst, w_cell, cellP_lst, cellP_dct, negP_i, w_neg, w_fld, w_methC, w_make, w_makeZ, ws_next, ws_brk, ws_ct, ws_seq, ws_asg, ws_ret, ws_drop, ws_if, ws_par, ws_unp, ws_sto, ws_stoF, ws_for, wi_seq, wi_rng1, wi_enum, seqP_lst, seqP_klst, seqP_tup, seqP_ktup, rngP_i, enumP_lst, goP_nx, goP_ret, goP_ct, goP_brk, goP_er, bodyP_nx, bodyP_ret, bodyP_er, turnP_nx, turnP_ct, turnP_brk, turnP_ret, turnP_er, w_run, startD, List.map_cons, List.map_nil, List.length_cons, List.length_nil, List.replicate, List.cons_append, List.nil_append, List.append_nil, List.getElem?_cons_zero, List.getElem?_cons_succ, List.set_cons_zero, List.set_cons_succ, w_v, slotP_s, w_addI, w_subI, w_mulI, w_divI, w_modI, w_powI, w_ltI, w_leI, w_gtI, w_geI, w_isN, w_notN, isNon_n, isNon_i, isNon_t, isNon_s, w_intI, w_intB, w_absI, w_maxI, w_minI, decide_eq_true_eq, Bool.not_eq_true, if_true, if_false, ite_true, ite_false, reduceCtorEq, Bool.false_eq_true, Bool.not_true, Bool.not_false, eq_self_iff_true, true_and, and_true, w_eqI, w_neI, w_ixT, w_ixL, ixP_s, at2_0, at2_1, at2_m1, at4_0, at4_1, at4_2, at4_3, at4_m1, at7_0, at7_1, at7_2, at7_3, at7_4, at7_5, at7_6, at7_m1, oD_none, oD_some, tgP_2, w_appLoc, w_lenLoc, w_lenLst, w_meth, List.length_map, goM_nx, goM_ret, goM_ct, goM_brk, goM_er, wi_str, strP_s, wipeD]) ?_
    simp -implicitDefEqProofs only [WR_ok, WS_ok, WR_bind, w_c, w_bin, boolP_b, notP_b, w_not, w_and, w_or, w_if, w_chain, w_evs0, w_evs, w_call, w_callK, w_tup, w_lst, w_cell, cellP_lst, cellP_dct, negP_i, w_neg, w_fld, w_methC, w_make, w_makeZ, ws_next, ws_brk, ws_ct, ws_seq, ws_asg, ws_ret, ws_drop, ws_if, ws_par, ws_unp, ws_sto, ws_stoF, ws_for, wi_seq, wi_rng1, wi_enum, seqP_lst, seqP_klst, seqP_tup, seqP_ktup, rngP_i, enumP_lst, goP_nx, goP_ret, goP_ct, goP_brk, goP_er, bodyP_nx, bodyP_ret, bodyP_er, turnP_nx, turnP_ct, turnP_brk, turnP_ret, turnP_er, w_run, startD, List.map_cons, List.map_nil, List.length_cons, List.length_nil, List.replicate, List.cons_append, List.nil_append, List.append_nil, List.getElem?_cons_zero, List.getElem?_cons_succ, List.set_cons_zero, List.set_cons_succ, w_v, slotP_s, w_addI, w_subI, w_mulI, w_divI, w_modI, w_powI, w_ltI, w_leI, w_gtI, w_geI, w_isN, w_notN, isNon_n, isNon_i, isNon_t, isNon_s, w_intI, w_intB, w_absI, w_maxI, w_minI, decide_eq_true_eq, Bool.not_eq_true, if_true, if_false, ite_true, ite_false, reduceCtorEq, Bool.false_eq_true, Bool.not_true, Bool.not_false, eq_self_iff_true, true_and, and_true, w_eqI, w_neI, w_ixT, w_ixL, ixP_s, at2_0, at2_1, at2_m1, at4_0, at4_1, at4_2, at4_3, at4_m1, at7_0, at7_1, at7_2, at7_3, at7_4, at7_5, at7_6, at7_m1, oD_none, oD_some, tgP_2, w_appLoc, w_lenLoc, w_lenLst, w_meth, List.length_map, goM_nx, goM_ret, goM_ct, goM_brk, goM_er, wi_str, strP_s, w_addL]
    refine ⟨by unfold big; omega, ?_⟩
    refine comp1 (fun z => z - 1) _ _ _ _ _ (fun z => by simp -implicitDefEqProofs only [WR_ok, WS_ok, WR_bind, w_c, w_bin, boolP_b, notP_b, w_not, w_and, w_or, w_if, w_chain, w_evs0, w_evs, w_call, w_callK, w_tup, w_lst, w_cell, cellP_lst, cellP_dct, negP_i, w_neg, w_fld, w_methC, w_make, w_makeZ, ws_next, ws_brk, ws_ct, ws_seq, ws_asg, ws_ret, ws_drop, ws_if, ws_par, ws_unp, ws_sto, ws_stoF, ws_for, wi_seq, wi_rng1, wi_enum, seqP_lst, seqP_klst, seqP_tup, seqP_ktup, rngP_i, enumP_lst, goP_nx, goP_ret, goP_ct, goP_brk, goP_er, bodyP_nx, bodyP_ret, bodyP_er, turnP_nx, turnP_ct, turnP_brk, turnP_ret, turnP_er, w_run, startD, List.map_cons, List.map_nil, List.length_cons, List.length_nil, List.replicate, List.cons_append, List.nil_append, List.append_nil, List.getElem?_cons_zero, List.getElem?_cons_succ, List.set_cons_zero, List.set_cons_succ, w_v, slotP_s, w_addI, w_subI, w_mulI, w_divI, w_modI, w_powI, w_ltI, w_leI, w_gtI, w_geI, w_isN, w_notN, isNon_n, isNon_i, isNon_t, isNon_s, w_intI, w_intB, w_absI, w_maxI, w_minI, decide_eq_true_eq, Bool.not_eq_true, if_true, if_false, ite_true, ite_false, reduceCtorEq, Bool.false_eq_true, Bool.not_true, Bool.not_false, eq_self_iff_true, true_and, and_true, w_eqI, w_neI, w_ixT, w_ixL, ixP_s, at2_0, at2_1, at2_m1, at4_0, at4_1, at4_2, at4_3, at4_m1, at7_0, at7_1, at7_2, at7_3, at7_4, at7_5, at7_6, at7_m1, oD_none, oD_some, tgP_2, w_appLoc, w_lenLoc, w_lenLst, w_meth, List.length_map, goM_nx, goM_ret, goM_ct, goM_brk, goM_er, wi_str, strP_s, wipeD]) ?_
    simp -implicitDefEqProofs only [WR_ok, WS_ok, WR_bind, w_c, w_bin, boolP_b, notP_b, w_not, w_and, w_or, w_if, w_chain, w_evs0, w_evs, w_call, w_callK, w_tup, w_lst, w_cell, cellP_lst, cellP_dct, negP_i, w_neg, w_fld, w_methC, w_make, w_makeZ, ws_next, ws_brk, ws_ct, ws_seq, ws_asg, ws_ret, ws_drop, ws_if, ws_par, ws_unp, ws_sto, ws_stoF, ws_for, wi_seq, wi_rng1, wi_enum, seqP_lst, seqP_klst, seqP_tup, seqP_ktup, rngP_i, enumP_lst, goP_nx, goP_ret, goP_ct, goP_brk, goP_er, bodyP_nx, bodyP_ret, bodyP_er, turnP_nx, turnP_ct, turnP_brk, turnP_ret, turnP_er, w_run, startD, List.map_cons, List.map_nil, List.length_cons, List.length_nil, List.replicate, List.cons_append, List.nil_append, List.append_nil, List.getElem?_cons_zero, List.getElem?_cons_succ, List.set_cons_zero, List.set_cons_succ, w_v, slotP_s, w_addI, w_subI, w_mulI, w_divI, w_modI, w_powI, w_ltI, w_leI, w_gtI, w_geI, w_isN, w_notN, isNon_n, isNon_i, isNon_t, isNon_s, w_intI, w_intB, w_absI, w_maxI, w_minI, decide_eq_true_eq, Bool.not_eq_true, if_true, if_false, ite_true, ite_false, reduceCtorEq, Bool.false_eq_true, Bool.not_true, Bool.not_false, eq_self_iff_true, true_and, and_true, w_eqI, w_neI, w_ixT, w_ixL, ixP_s, at2_0, at2_1, at2_m1, at4_0, at4_1, at4_2, at4_3, at4_m1, at7_0, at7_1, at7_2, at7_3, at7_4, at7_5, at7_6, at7_m1, oD_none, oD_some, tgP_2, w_appLoc, w_lenLoc, w_lenLst, w_meth, List.length_map, goM_nx, goM_ret, goM_ct, goM_brk, goM_er, wi_str, strP_s, w_addL, List.length_append]
    refine ⟨by unfold big; omega, ?_⟩
    refine (spec_draw hr R (by decide) (by decide) (by omega)).call ?_
    rintro _ S2 ⟨R2, z, rfl, a2, b2⟩
    simp -implicitDefEqProofs only [WR_ok, WS_ok, WR_bind, w_c, w_bin, boolP_b, notP_b, w_not, w_and, w_or, w_if, w_chain, w_evs0, w_evs, w_call, w_callK, w_tup, w_lst, w_cell, cellP_lst, cellP_dct, negP_i, w_neg, w_fld, w_methC, w_make, w_makeZ, ws_next, ws_brk, ws_ct, ws_seq, ws_asg, ws_ret, ws_drop, ws_if, ws_par, ws_unp, ws_sto, ws_stoF, ws_for, wi_seq, wi_rng1, wi_enum, seqP_lst, seqP_klst, seqP_tup, seqP_ktup, rngP_i, enumP_lst, goP_nx, goP_ret, goP_ct, goP_brk, goP_er, bodyP_nx, bodyP_ret, bodyP_er, turnP_nx, turnP_ct, turnP_brk, turnP_ret, turnP_er, w_run, startD, List.map_cons, List.map_nil, List.length_cons, List.length_nil, List.replicate, List.cons_append, List.nil_append, List.append_nil, List.getElem?_cons_zero, List.getElem?_cons_succ, List.set_cons_zero, List.set_cons_succ, w_v, slotP_s, w_addI, w_subI, w_mulI, w_divI, w_modI, w_powI, w_ltI, w_leI, w_gtI, w_geI, w_isN, w_notN, isNon_n, isNon_i, isNon_t, isNon_s, w_intI, w_intB, w_absI, w_maxI, w_minI, decide_eq_true_eq, Bool.not_eq_true, if_true, if_false, ite_true, ite_false, reduceCtorEq, Bool.false_eq_true, Bool.not_true, Bool.not_false, eq_self_iff_true, true_and, and_true, w_eqI, w_neI, w_ixT, w_ixL, ixP_s, at2_0, at2_1, at2_m1, at4_0, at4_1, at4_2, at4_3, at4_m1, at7_0, at7_1, at7_2, at7_3, at7_4, at7_5, at7_6, at7_m1, oD_none, oD_some, tgP_2, w_appLoc, w_lenLoc, w_lenLst, w_meth, List.length_map, goM_nx, goM_ret, goM_ct, goM_brk, goM_er, wi_str, strP_s, w_addL, List.length_append]
    refine ⟨by unfold big; omega, _, rfl, R2, by simp; omega, by simp; omega, ?_⟩
    intro d hd
    simp only [List.mem_append, List.mem_map, List.mem_cons, List.not_mem_nil, or_false] at hd
    rcases hd with ((⟨e, he, rfl⟩ | ⟨e, he, rfl⟩) | ⟨e, he, rfl⟩) | rfl | rfl | rfl | rfl | rfl
    · have := hb e he; exact ⟨some e, rfl, by unfold Bnd; omega⟩
    · have := hb e he; exact ⟨some (e + 1), rfl, by unfold Bnd; omega⟩
    · have := hb e he; exact ⟨some (e - 1), rfl, by unfold Bnd; omega⟩
    · exact ⟨some 0, rfl, by unfold Bnd; omega⟩
    · exact ⟨some 3, rfl, by unfold Bnd; omega⟩
    · exact ⟨some (-3), rfl, by unfold Bnd; omega⟩
    · exact ⟨some (z - 49), rfl, by unfold Bnd; omega⟩
    · exact ⟨none, rfl, trivial⟩
  rintro ρ S2 ⟨l, rfl, R2, hl0, hl1, hl⟩
  simp -implicitDefEqProofs only [WR_ok, WS_ok, WR_bind, w_c, w_bin, boolP_b, notP_b, w_not, w_and, w_or, w_if, w_chain, w_evs0, w_evs, w_call, w_callK, w_tup, w_lst, w_cell, cellP_lst, cellP_dct, negP_i, w_neg, w_fld, w_methC, w_make, w_makeZ, ws_next, ws_brk, ws_ct, ws_seq, ws_asg, ws_ret, ws_drop, ws_if, ws_par, ws_unp, ws_sto, ws_stoF, ws_for, wi_seq, wi_rng1, wi_enum, seqP_lst, seqP_klst, seqP_tup, seqP_ktup, rngP_i, enumP_lst, goP_nx, goP_ret, goP_ct, goP_brk, goP_er, bodyP_nx, bodyP_ret, bodyP_er, turnP_nx, turnP_ct, turnP_brk, turnP_ret, turnP_er, w_run, startD, List.map_cons, List.map_nil, List.length_cons, List.length_nil, List.replicate, List.cons_append, List.nil_append, List.append_nil, List.getElem?_cons_zero, List.getElem?_cons_succ, List.set_cons_zero, List.set_cons_succ, w_v, slotP_s, w_addI, w_subI, w_mulI, w_divI, w_modI, w_powI, w_ltI, w_leI, w_gtI, w_geI, w_isN, w_notN, isNon_n, isNon_i, isNon_t, isNon_s, w_intI, w_intB, w_absI, w_maxI, w_minI, decide_eq_true_eq, Bool.not_eq_true, if_true, if_false, ite_true, ite_false, reduceCtorEq, Bool.false_eq_true, Bool.not_true, Bool.not_false, eq_self_iff_true, true_and, and_true, w_eqI, w_neI, w_ixT, w_ixL, ixP_s, at2_0, at2_1, at2_m1, at4_0, at4_1, at4_2, at4_3, at4_m1, at7_0, at7_1, at7_2, at7_3, at7_4, at7_5, at7_6, at7_m1, oD_none, oD_some, tgP_2, w_appLoc, w_lenLoc, w_lenLst, w_meth, List.length_map, goM_nx, goM_ret, goM_ct, goM_brk, goM_er, wi_str, strP_s]
  refine (spec_draw hr R2 (by omega) (by omega) (by omega)).call ?_
  rintro _ S3 ⟨R3, z, rfl, a3, b3⟩
  obtain ⟨d, h2, h3, _⟩ := atD_int a3 b3
  simp -implicitDefEqProofs only [WR_ok, WS_ok, WR_bind, w_c, w_bin, boolP_b, notP_b, w_not, w_and, w_or, w_if, w_chain, w_evs0, w_evs, w_call, w_callK, w_tup, w_lst, w_cell, cellP_lst, cellP_dct, negP_i, w_neg, w_fld, w_methC, w_make, w_makeZ, ws_next, ws_brk, ws_ct, ws_seq, ws_asg, ws_ret, ws_drop, ws_if, ws_par, ws_unp, ws_sto, ws_stoF, ws_for, wi_seq, wi_rng1, wi_enum, seqP_lst, seqP_klst, seqP_tup, seqP_ktup, rngP_i, enumP_lst, goP_nx, goP_ret, goP_ct, goP_brk, goP_er, bodyP_nx, bodyP_ret, bodyP_er, turnP_nx, turnP_ct, turnP_brk, turnP_ret, turnP_er, w_run, startD, List.map_cons, List.map_nil, List.length_cons, List.length_nil, List.replicate, List.cons_append, List.nil_append, List.append_nil, List.getElem?_cons_zero, List.getElem?_cons_succ, List.set_cons_zero, List.set_cons_succ, w_v, slotP_s, w_addI, w_subI, w_mulI, w_divI, w_modI, w_powI, w_ltI, w_leI, w_gtI, w_geI, w_isN, w_notN, isNon_n, isNon_i, isNon_t, isNon_s, w_intI, w_intB, w_absI, w_maxI, w_minI, decide_eq_true_eq, Bool.not_eq_true, if_true, if_false, ite_true, ite_false, reduceCtorEq, Bool.false_eq_true, Bool.not_true, Bool.not_false, eq_self_iff_true, true_and, and_true, w_eqI, w_neI, w_ixT, w_ixL, ixP_s, at2_0, at2_1, at2_m1, at4_0, at4_1, at4_2, at4_3, at4_m1, at7_0, at7_1, at7_2, at7_3, at7_4, at7_5, at7_6, at7_m1, oD_none, oD_some, tgP_2, w_appLoc, w_lenLoc, w_lenLst, w_meth, List.length_map, goM_nx, goM_ret, goM_ct, goM_brk, goM_er, wi_str, strP_s, h2]
  exact ⟨R3, hl d h3⟩


theorem putDs_new {κ : Type} [DecidableEq κ] {j : κ} {d : D} : ∀ {ks : List κ} {ds : List D}, j ∉ ks → ks.length = ds.length → putDs ks ds j d = ds ++ [d]
  | [], [], _, _ => rfl
  | [], _ :: _, _, h => by cases h
  | _ :: _, [], _, h => by cases h
  | k :: ks, e :: ds, hj, hl => by
    rw [List.mem_cons] at hj
    show (if k = j then d :: ds else e :: putDs ks ds j d) = _
    rw [if_neg (fun z => hj (.inl z.symm)), putDs_new (fun z => hj (.inr z)) (by simpa using hl)]
    rfl
theorem merge_new : ∀ {js : List Key} {es : List D} {ks : List Key} {ds : List D}, (ks ++ js).Nodup → ks.length = ds.length → js.length = es.length → mergeKs ks js = ks ++ js ∧ mergeDs ks ds js es = ds ++ es
  | [], es, ks, ds, nd, h1, h2 => by
    cases es with
    | nil => exact ⟨by simp [mergeKs], by simp [mergeDs]⟩
    | cons _ _ => cases h2
  | j :: js, es, ks, ds, nd, h1, h2 => by
    cases es with
    | nil => cases h2
    | cons e es =>
      have hj : j ∉ ks := fun z => (List.nodup_append.mp nd).2.2 j z j List.mem_cons_self rfl
      have e1 : putKs ks j = ks ++ [j] := if_neg hj
      have e2 : putDs ks ds j e = ds ++ [e] := putDs_new hj h1
      obtain ⟨a, b⟩ := merge_new (js := js) (es := es) (ks := ks ++ [j]) (ds := ds ++ [e]) (by rw [List.append_assoc]; exact nd) (by simp [h1]) (by simpa using h2)
      refine ⟨?_, ?_⟩
      · show mergeKs (putKs ks j) js = _
        rw [e1, a, List.append_assoc]; rfl
      · show mergeDs (putKs ks j) (putDs ks ds j e) js es = _
        rw [e1, e2, b, List.append_assoc]; rfl
def mvD (m : Int × Option Int) : D := .tup [.int m.1, oD m.2]
def runV (rows : List Row) : (Str → Option Int) → List (Int × Option Int) → Option (Str → Option Int)
  | val, [] => some val
  | val, m :: ms => match rows[m.1.toNat]?, nextV rows val m.1 m.2 with
    | some row, some x => runV rows (upV val row.name (some x)) ms
    | _, _ => none
theorem runV_app {rows : List Row} : ∀ {ms : List (Int × Option Int)} {val val' : Str → Option Int} {ms2 : List (Int × Option Int)}, runV rows val ms = some val' → runV rows val (ms ++ ms2) = runV rows val' ms2
  | [], val, val', ms2, h => by cases h; rfl
  | m :: ms, val, val', ms2, h => by
    unfold runV at h
    show (match rows[m.1.toNat]?, nextV rows val m.1 m.2 with
      | some row, some x => runV rows (upV val row.name (some x)) (ms ++ ms2)
      | _, _ => none) = _
    split at h
    · exact runV_app h
    · cases h
theorem runV_take {rows : List Row} {ms : List (Int × Option Int)} {val val' : Str → Option Int} (h : runV rows val ms = some val') (k : Nat) : ∃ v, runV rows val (ms.take k) = some v := by
  induction ms generalizing val k with
  | nil => exact ⟨val, by simp [runV]⟩
  | cons m ms ih =>
    unfold runV at h
    split at h
    · rename_i row x e1 e2
      cases k with
      | zero => exact ⟨val, rfl⟩
      | succ k =>
        obtain ⟨v, hv⟩ := ih h k
        refine ⟨v, ?_⟩
        show runV rows val (m :: ms.take k) = _
        unfold runV
        rw [e1, e2]
        exact hv
    · cases h
theorem valBnd_up {B : Int} {val : Str → Option Int} {k : Str} {v : Option Int} (h : valBnd B val) (hv : Bnd B v) : valBnd B (upV val k v) := fun x => by
  unfold upV
  split
  · exact hv
  · exact h x
theorem pairsD_ws (ws : List Str) : pairsD (ws.map fun w => D.tup [.str w, .non]) = some (ws.map Sum.inr, ws.map fun _ => D.non) := by
  induction ws with
  | nil => rfl
  | cons w ws ih =>
    show (match keyD (.str w), pairsD (ws.map fun w => D.tup [.str w, .non]) with
      | some j, some (js, vs) => some (j :: js, D.non :: vs)
      | _, _ => none) = _
    rw [ih]
    rfl
theorem nodup_inr {ws : List Str} (h : ws.Nodup) : (ws.map (Sum.inr : Str → Key)).Nodup := by
  rw [List.nodup_iff_pairwise_ne, List.pairwise_map]
  exact (List.nodup_iff_pairwise_ne.mp h).imp fun h e => h (Sum.inr.inj e)
theorem w_dictWs {P : D → List Cell → Prop} {E : Nat → D → List Cell → Prop} {S : List Cell} {ws : List Str} (h : ws.Nodup) : WR (bDict [.lst (ws.map fun w => D.tup [.str w, .non])] S) P E = P (.dct (ws.map Sum.inr) (ws.map fun _ => D.non)) S := by
  have : bDict [.lst (ws.map fun w => D.tup [.str w, .non])] S = .ok (.dct (ws.map Sum.inr) (ws.map fun _ => D.non)) S := by
    show (match pairsD (ws.map fun w => D.tup [.str w, .non]) with
      | some (ks, vs) => Res.ok (.dct (mergeKs [] ks) (mergeDs [] [] ks vs)) S
      | none => .bad) = _
    rw [pairsD_ws]
    dsimp only
    obtain ⟨a, b⟩ := merge_new (ks := []) (ds := []) (js := ws.map Sum.inr) (es := ws.map fun _ => D.non) (by simpa using nodup_inr h) rfl (by simp)
    rw [a, b]
    rfl
  rw [this]; rfl
theorem fzD_locD {fl : Nat → List Str} {S : List Cell} {n i : Nat} {ks : List Key} {l : List D} (hi : ¬ i < n) (hS : S[i]? = some (.dct ks l)) (hp : l.all (pureD 50) = true) (k : Nat) (hk : 51 ≤ k) : fzD fl S n k (.loc i) = some (.dct ks l) := by
  obtain ⟨j, rfl⟩ : ∃ j, k = j + 1 := ⟨k - 1, by omega⟩
  show (if i < n then some (D.loc i) else fzCell fl (fzD fl S n j) S[i]?) = _
  rw [if_neg hi, hS]
  show (optAll (fzD fl S n j) l).map (D.dct ks) = _
  rw [optAll_id fun d hd => fzD_pure j d (pureD_le 50 j d (by omega) (List.all_eq_true.mp hp d hd))]
  rfl
theorem fzD_locL {fl : Nat → List Str} {S : List Cell} {n i : Nat} {l : List D} (hi : ¬ i < n) (hS : S[i]? = some (.lst l)) (hp : l.all (pureD 50) = true) (k : Nat) (hk : 51 ≤ k) : fzD fl S n k (.loc i) = some (.lst l) := by
  obtain ⟨j, rfl⟩ : ∃ j, k = j + 1 := ⟨k - 1, by omega⟩
  show (if i < n then some (D.loc i) else fzCell fl (fzD fl S n j) S[i]?) = _
  rw [if_neg hi, hS]
  show (optAll (fzD fl S n j) l).map D.lst = _
  rw [optAll_id fun d hd => fzD_pure j d (pureD_le 50 j d (by omega) (List.all_eq_true.mp hp d hd))]
  rfl
theorem pure_vals (ks : List Str) (val : Str → Option Int) : (ks.map fun k => oD (val k)).all (pureD 50) = true := by
  rw [List.all_map, List.all_eq_true]
  exact fun k _ => pure_o _
theorem pure_mvs (ms : List (Int × Option Int)) : (ms.map mvD).all (pureD 50) = true := by
  rw [List.all_map, List.all_eq_true]
  intro m _
  show ([D.int m.1, oD m.2].all (pureD 49)) = true
  simp only [List.all_cons, List.all_nil, pure_o, Bool.and_true]
  rfl
def vals0 : Str → Option Int := fun _ => none
theorem nextV_ok {rows : List Row} {val : Str → Option Int} {num : Int} {spot : Option Int} {x : Int} (h : nextV rows val num spot = some x) : 0 ≤ num ∧ num < rows.length := by
  unfold nextV at h
  split at h
  · assumption
  · cases h
theorem set_two2 {S0 : List Cell} {a b c : Cell} : (S0 ++ [a, b]).set S0.length c = S0 ++ [c, b] := set_two
theorem spec_moves {S0 S : List Cell} {r n : Nat} {ws : List Str} {rows : List Row} {many : Int} (hr : r < S0.length) (R : RS S0 r n S) (hn : n ≤ 2 ^ 35) (h0 : 0 ≤ many) (h1 : many ≤ 200) (hnd : ws.Nodup) (hwl : ws.length ≤ 100) (hok : ∀ w ∈ ws, okStr w = true) (hp : PureS S0)
    (hrl : rows.length ≤ 100) (hrows : ∀ row ∈ rows, RowOk (10 ^ 31) ws row) :
    WR (G_law_moves [.loc r, .lst (ws.map D.str), .lst (rows.map rowD), .int many] S) (fun d S' => RS S0 r (n + 1000) S' ∧ ∃ (ms : List (Int × Option Int)) (val : Str → Option Int), d = .tup [.lst (ms.map mvD), .dct (ws.map Sum.inr) (ws.map fun w => oD (val w))] ∧ runV rows vals0 ms = some val ∧ valBnd (10 ^ 31) val ∧ ms.length ≤ 200 ∧ (∀ k v, runV rows vals0 (ms.take k) = some v → valBnd (10 ^ 31) v)) E0 := by
  unfold G_law_moves
  have hl : S.length = S0.length := R.len
  have hr2 : ∀ c1 c2 : Cell, r < (S0 ++ [c1, c2]).length := fun c1 c2 => by simp; omega
  refine w_seal ?_
  rw [w_run]
  unfold b_law_moves
  have hA : ∀ {m : Nat} {S3 : List Cell} {c1 c2 : Cell}, RS (S0 ++ [c1, c2]) r m S3 → S3[S.length]? = some c1 := fun R => by
    rw [R.at (by omega), hl]; simp
  have hB : ∀ {m : Nat} {S3 : List Cell} {c1 c2 : Cell}, RS (S0 ++ [c1, c2]) r m S3 → S3[S.length + 1]? = some c2 := fun R => by
    rw [R.at (by omega), hl]; simp
  refine ws_mid (fun ρ S' => ρ = [some (.loc r), some (.lst (ws.map D.str)), some (.lst (rows.map rowD)), some (.int many), some (.loc S.length), some (.loc (S.length + 1)), none, none, none, none, none] ∧ RS (S0 ++ [dctC ws vals0, .lst ([].map mvD)]) r n S') ?_ ?_
  · simp -implicitDefEqProofs only [WR_ok, WS_ok, WR_bind, w_c, w_bin, boolP_b, notP_b, w_not, w_and, w_or, w_if, w_chain, w_evs0, w_evs, w_call, w_callK, w_tup, w_lst, w_cell, cellP_lst, cellP_dct, negP_i, w_neg, w_fld, w_methC, w_make, w_makeZ, ws_next, ws_brk, ws_ct, ws_seq, ws_asg, ws_ret, ws_drop, ws_if, ws_par, ws_unp, ws_sto, ws_stoF, ws_for, wi_seq, wi_rng1, wi_enum, seqP_lst, seqP_klst, seqP_tup, seqP_ktup, rngP_i, enumP_lst, goP_nx, goP_ret, goP_ct, goP_brk, goP_er, bodyP_nx, bodyP_ret, bodyP_er, turnP_nx, turnP_ct, turnP_brk, turnP_ret, turnP_er, w_run, startD, List.map_cons, List.map_nil, List.length_cons, List.length_nil, List.replicate, List.cons_append, List.nil_append, List.append_nil, List.getElem?_cons_zero, List.getElem?_cons_succ, List.set_cons_zero, List.set_cons_succ, w_v, slotP_s, w_addI, w_subI, w_mulI, w_divI, w_modI, w_powI, w_ltI, w_leI, w_gtI, w_geI, w_isN, w_notN, isNon_n, isNon_i, isNon_t, isNon_s, w_intI, w_intB, w_absI, w_maxI, w_minI, decide_eq_true_eq, Bool.not_eq_true, if_true, if_false, ite_true, ite_false, reduceCtorEq, Bool.false_eq_true, Bool.not_true, Bool.not_false, eq_self_iff_true, true_and, and_true, w_eqI, w_neI, w_ixT, w_ixL, ixP_s, at2_0, at2_1, at2_m1, at4_0, at4_1, at4_2, at4_3, at4_m1, at7_0, at7_1, at7_2, at7_3, at7_4, at7_5, at7_6, at7_m1, oD_none, oD_some, tgP_2, w_appLoc, w_lenLoc, w_lenLst, w_meth, List.length_map, goM_nx, goM_ret, goM_ct, goM_brk, goM_er, wi_str, strP_s, w_comp]
    have hf : (ws.map fun w => some (D.tup [.str w, .non])).filterMap id = ws.map fun w => D.tup [.str w, .non] := by
      have := filterMap_some (ws.map fun w => D.tup [.str w, .non])
      rw [List.map_map] at this
      exact this
    refine comp_pure (os := ws.map fun w => some (D.tup [.str w, .non])) trivial (by simp) ?_ ?_ ?_
    · intro i d o h1 h2
      rw [List.getElem?_map] at h1 h2
      cases hw : ws[i]? with
      | none => rw [hw] at h1; cases h1
      | some w =>
        rw [hw] at h1 h2
        cases h1
        cases h2
        unfold compT
        simp -implicitDefEqProofs only [WR_ok, WS_ok, WR_bind, w_c, w_bin, boolP_b, notP_b, w_not, w_and, w_or, w_if, w_chain, w_evs0, w_evs, w_call, w_callK, w_tup, w_lst, w_cell, cellP_lst, cellP_dct, negP_i, w_neg, w_fld, w_methC, w_make, w_makeZ, ws_next, ws_brk, ws_ct, ws_seq, ws_asg, ws_ret, ws_drop, ws_if, ws_par, ws_unp, ws_sto, ws_stoF, ws_for, wi_seq, wi_rng1, wi_enum, seqP_lst, seqP_klst, seqP_tup, seqP_ktup, rngP_i, enumP_lst, goP_nx, goP_ret, goP_ct, goP_brk, goP_er, bodyP_nx, bodyP_ret, bodyP_er, turnP_nx, turnP_ct, turnP_brk, turnP_ret, turnP_er, w_run, startD, List.map_cons, List.map_nil, List.length_cons, List.length_nil, List.replicate, List.cons_append, List.nil_append, List.append_nil, List.getElem?_cons_zero, List.getElem?_cons_succ, List.set_cons_zero, List.set_cons_succ, w_v, slotP_s, w_addI, w_subI, w_mulI, w_divI, w_modI, w_powI, w_ltI, w_leI, w_gtI, w_geI, w_isN, w_notN, isNon_n, isNon_i, isNon_t, isNon_s, w_intI, w_intB, w_absI, w_maxI, w_minI, decide_eq_true_eq, Bool.not_eq_true, if_true, if_false, ite_true, ite_false, reduceCtorEq, Bool.false_eq_true, Bool.not_true, Bool.not_false, eq_self_iff_true, true_and, and_true, w_eqI, w_neI, w_ixT, w_ixL, ixP_s, at2_0, at2_1, at2_m1, at4_0, at4_1, at4_2, at4_3, at4_m1, at7_0, at7_1, at7_2, at7_3, at7_4, at7_5, at7_6, at7_m1, oD_none, oD_some, tgP_2, w_appLoc, w_lenLoc, w_lenLst, w_meth, List.length_map, goM_nx, goM_ret, goM_ct, goM_brk, goM_er, wi_str, strP_s, tgT'_1, trueF, wipeD]
        exact ⟨_, rfl, rfl⟩
    · rw [hf, List.length_map]; unfold big; omega
    · rw [hf, w_dictWs hnd]
      simp -implicitDefEqProofs only [WR_ok, WS_ok, WR_bind, w_c, w_bin, boolP_b, notP_b, w_not, w_and, w_or, w_if, w_chain, w_evs0, w_evs, w_call, w_callK, w_tup, w_lst, w_cell, cellP_lst, cellP_dct, negP_i, w_neg, w_fld, w_methC, w_make, w_makeZ, ws_next, ws_brk, ws_ct, ws_seq, ws_asg, ws_ret, ws_drop, ws_if, ws_par, ws_unp, ws_sto, ws_stoF, ws_for, wi_seq, wi_rng1, wi_enum, seqP_lst, seqP_klst, seqP_tup, seqP_ktup, rngP_i, enumP_lst, goP_nx, goP_ret, goP_ct, goP_brk, goP_er, bodyP_nx, bodyP_ret, bodyP_er, turnP_nx, turnP_ct, turnP_brk, turnP_ret, turnP_er, w_run, startD, List.map_cons, List.map_nil, List.length_cons, List.length_nil, List.replicate, List.cons_append, List.nil_append, List.append_nil, List.getElem?_cons_zero, List.getElem?_cons_succ, List.set_cons_zero, List.set_cons_succ, w_v, slotP_s, w_addI, w_subI, w_mulI, w_divI, w_modI, w_powI, w_ltI, w_leI, w_gtI, w_geI, w_isN, w_notN, isNon_n, isNon_i, isNon_t, isNon_s, w_intI, w_intB, w_absI, w_maxI, w_minI, decide_eq_true_eq, Bool.not_eq_true, if_true, if_false, ite_true, ite_false, reduceCtorEq, Bool.false_eq_true, Bool.not_true, Bool.not_false, eq_self_iff_true, true_and, and_true, w_eqI, w_neI, w_ixT, w_ixL, ixP_s, at2_0, at2_1, at2_m1, at4_0, at4_1, at4_2, at4_3, at4_m1, at7_0, at7_1, at7_2, at7_3, at7_4, at7_5, at7_6, at7_m1, oD_none, oD_some, tgP_2, w_appLoc, w_lenLoc, w_lenLst, w_meth, List.length_map, goM_nx, goM_ret, goM_ct, goM_brk, goM_er, wi_str, strP_s, List.length_append]
      have := (R.push hr (dctC ws vals0)).push (by simp; omega) (.lst [])
      rw [List.append_assoc] at this
      exact this
  rintro ρ S1 ⟨rfl, R1⟩
  refine ws_mid (fun ρ S' => ∃ (x y z w : Option D) (ms : List (Int × Option Int)) (val : Str → Option Int), ρ = [some (.loc r), some (.lst (ws.map D.str)), some (.lst (rows.map rowD)), some (.int many), some (.loc S.length), some (.loc (S.length + 1)), x, y, z, w, none] ∧ RS (S0 ++ [dctC ws val, .lst (ms.map mvD)]) r (n + 800) S' ∧ runV rows vals0 ms = some val ∧ valBnd (10 ^ 31) val ∧ ms.length ≤ 200 ∧ (∀ k v, runV rows vals0 (ms.take k) = some v → valBnd (10 ^ 31) v)) ?_ ?_
  · simp -implicitDefEqProofs only [WR_ok, WS_ok, WR_bind, w_c, w_bin, boolP_b, notP_b, w_not, w_and, w_or, w_if, w_chain, w_evs0, w_evs, w_call, w_callK, w_tup, w_lst, w_cell, cellP_lst, cellP_dct, negP_i, w_neg, w_fld, w_methC, w_make, w_makeZ, ws_next, ws_brk, ws_ct, ws_seq, ws_asg, ws_ret, ws_drop, ws_if, ws_par, ws_unp, ws_sto, ws_stoF, ws_for, wi_seq, wi_rng1, wi_enum, seqP_lst, seqP_klst, seqP_tup, seqP_ktup, rngP_i, enumP_lst, goP_nx, goP_ret, goP_ct, goP_brk, goP_er, bodyP_nx, bodyP_ret, bodyP_er, turnP_nx, turnP_ct, turnP_brk, turnP_ret, turnP_er, w_run, startD, List.map_cons, List.map_nil, List.length_cons, List.length_nil, List.replicate, List.cons_append, List.nil_append, List.append_nil, List.getElem?_cons_zero, List.getElem?_cons_succ, List.set_cons_zero, List.set_cons_succ, w_v, slotP_s, w_addI, w_subI, w_mulI, w_divI, w_modI, w_powI, w_ltI, w_leI, w_gtI, w_geI, w_isN, w_notN, isNon_n, isNon_i, isNon_t, isNon_s, w_intI, w_intB, w_absI, w_maxI, w_minI, decide_eq_true_eq, Bool.not_eq_true, if_true, if_false, ite_true, ite_false, reduceCtorEq, Bool.false_eq_true, Bool.not_true, Bool.not_false, eq_self_iff_true, true_and, and_true, w_eqI, w_neI, w_ixT, w_ixL, ixP_s, at2_0, at2_1, at2_m1, at4_0, at4_1, at4_2, at4_3, at4_m1, at7_0, at7_1, at7_2, at7_3, at7_4, at7_5, at7_6, at7_m1, oD_none, oD_some, tgP_2, w_appLoc, w_lenLoc, w_lenLst, w_meth, List.length_map, goM_nx, goM_ret, goM_ct, goM_brk, goM_er, wi_str, strP_s]
    have hdr : okD 40 (.lst (rows.map rowD)) = true := by
      show ((rows.map rowD).all (okD 39)) = true
      rw [List.all_map, List.all_eq_true]
      exact fun row hrow => okD_row (k := 34) fun m hm => hok m ((hrows row hrow).nm m hm)
    rw [w_neOf (eqD_nil seen_lst hdr (by decide))]
    simp -implicitDefEqProofs only [WR_ok, WS_ok, WR_bind, w_c, w_bin, boolP_b, notP_b, w_not, w_and, w_or, w_if, w_chain, w_evs0, w_evs, w_call, w_callK, w_tup, w_lst, w_cell, cellP_lst, cellP_dct, negP_i, w_neg, w_fld, w_methC, w_make, w_makeZ, ws_next, ws_brk, ws_ct, ws_seq, ws_asg, ws_ret, ws_drop, ws_if, ws_par, ws_unp, ws_sto, ws_stoF, ws_for, wi_seq, wi_rng1, wi_enum, seqP_lst, seqP_klst, seqP_tup, seqP_ktup, rngP_i, enumP_lst, goP_nx, goP_ret, goP_ct, goP_brk, goP_er, bodyP_nx, bodyP_ret, bodyP_er, turnP_nx, turnP_ct, turnP_brk, turnP_ret, turnP_er, w_run, startD, List.map_cons, List.map_nil, List.length_cons, List.length_nil, List.replicate, List.cons_append, List.nil_append, List.append_nil, List.getElem?_cons_zero, List.getElem?_cons_succ, List.set_cons_zero, List.set_cons_succ, w_v, slotP_s, w_addI, w_subI, w_mulI, w_divI, w_modI, w_powI, w_ltI, w_leI, w_gtI, w_geI, w_isN, w_notN, isNon_n, isNon_i, isNon_t, isNon_s, w_intI, w_intB, w_absI, w_maxI, w_minI, decide_eq_true_eq, Bool.not_eq_true, if_true, if_false, ite_true, ite_false, reduceCtorEq, Bool.false_eq_true, Bool.not_true, Bool.not_false, eq_self_iff_true, true_and, and_true, w_eqI, w_neI, w_ixT, w_ixL, ixP_s, at2_0, at2_1, at2_m1, at4_0, at4_1, at4_2, at4_3, at4_m1, at7_0, at7_1, at7_2, at7_3, at7_4, at7_5, at7_6, at7_m1, oD_none, oD_some, tgP_2, w_appLoc, w_lenLoc, w_lenLst, w_meth, List.length_map, goM_nx, goM_ret, goM_ct, goM_brk, goM_er, wi_str, strP_s]
    refine ⟨cMul_of (i := 20) (j := 2) (by omega) (by split <;> decide) (by decide), ?_, ?_⟩
    · unfold rngOk
      split <;> simp <;> omega
    generalize hcnt : many * (if (!decide (rows.map rowD = [])) = true then 1 else 0) = cnt
    have hcnt2 : 0 ≤ cnt ∧ cnt ≤ 200 ∧ (0 < cnt → 0 < rows.length) := by
      subst hcnt
      cases rows with
      | nil => simp
      | cons a as => simp; omega
    have hclen : (intsD 0 cnt.toNat).length = cnt.toNat := by simp [intsD]
    refine for_inv (fun i ρ S' => ∃ (x y z w : Option D) (ms : List (Int × Option Int)) (val : Str → Option Int), ρ = [some (.loc r), some (.lst (ws.map D.str)), some (.lst (rows.map rowD)), some (.int many), some (.loc S.length), some (.loc (S.length + 1)), x, y, z, w, none] ∧ RS (S0 ++ [dctC ws val, .lst (ms.map mvD)]) r (n + 4 * i) S' ∧ runV rows vals0 ms = some val ∧ valBnd (10 ^ 31) val ∧ ms.length ≤ i ∧ (∀ k v, runV rows vals0 (ms.take k) = some v → valBnd (10 ^ 31) v))
      ⟨none, none, none, none, [], vals0, rfl, R1, rfl, fun _ => trivial, Nat.zero_le _, fun k v h => by simp [runV] at h; subst h; exact fun _ => trivial⟩ (fun _ _ _ _ => trivial) ?_ ?_
    · rintro i d ρ S2 hi ⟨x, y, z, w, ms, val, rfl, R2, hrun, hvb, hml, hpre⟩
      have hi2 : i < cnt.toNat := by rw [← hclen]; exact (List.getElem?_eq_some_iff.mp hi).1
      have hrp : 0 < rows.length := hcnt2.2.2 (by omega)
      rw [tgT'_1]
      refine ws_mid (fun ρ S' => ∃ (num : Int), ρ = [some (.loc r), some (.lst (ws.map D.str)), some (.lst (rows.map rowD)), some (.int many), some (.loc S.length), some (.loc (S.length + 1)), some d, some (.int num), z, w, none] ∧ RS (S0 ++ [dctC ws val, .lst (ms.map mvD)]) r (n + 4 * i + 1) S' ∧ 0 ≤ num ∧ num < rows.length) ?_ ?_
      · simp -implicitDefEqProofs only [WR_ok, WS_ok, WR_bind, w_c, w_bin, boolP_b, notP_b, w_not, w_and, w_or, w_if, w_chain, w_evs0, w_evs, w_call, w_callK, w_tup, w_lst, w_cell, cellP_lst, cellP_dct, negP_i, w_neg, w_fld, w_methC, w_make, w_makeZ, ws_next, ws_brk, ws_ct, ws_seq, ws_asg, ws_ret, ws_drop, ws_if, ws_par, ws_unp, ws_sto, ws_stoF, ws_for, wi_seq, wi_rng1, wi_enum, seqP_lst, seqP_klst, seqP_tup, seqP_ktup, rngP_i, enumP_lst, goP_nx, goP_ret, goP_ct, goP_brk, goP_er, bodyP_nx, bodyP_ret, bodyP_er, turnP_nx, turnP_ct, turnP_brk, turnP_ret, turnP_er, w_run, startD, List.map_cons, List.map_nil, List.length_cons, List.length_nil, List.replicate, List.cons_append, List.nil_append, List.append_nil, List.getElem?_cons_zero, List.getElem?_cons_succ, List.set_cons_zero, List.set_cons_succ, w_v, slotP_s, w_addI, w_subI, w_mulI, w_divI, w_modI, w_powI, w_ltI, w_leI, w_gtI, w_geI, w_isN, w_notN, isNon_n, isNon_i, isNon_t, isNon_s, w_intI, w_intB, w_absI, w_maxI, w_minI, decide_eq_true_eq, Bool.not_eq_true, if_true, if_false, ite_true, ite_false, reduceCtorEq, Bool.false_eq_true, Bool.not_true, Bool.not_false, eq_self_iff_true, true_and, and_true, w_eqI, w_neI, w_ixT, w_ixL, ixP_s, at2_0, at2_1, at2_m1, at4_0, at4_1, at4_2, at4_3, at4_m1, at7_0, at7_1, at7_2, at7_3, at7_4, at7_5, at7_6, at7_m1, oD_none, oD_some, tgP_2, w_appLoc, w_lenLoc, w_lenLst, w_meth, List.length_map, goM_nx, goM_ret, goM_ct, goM_brk, goM_er, wi_str, strP_s]
        refine (spec_draw (hr2 _ _) R2 (by omega) (by omega) (by omega)).call ?_
        rintro _ S3 ⟨R3, num, rfl, a3, b3⟩
        exact ⟨num, rfl, R3, a3, b3⟩
      rintro ρ S3 ⟨num, rfl, R3, n0, n1⟩
      obtain ⟨row, hrow, hat, hat'⟩ := row_at ⟨n0, n1⟩
      have ok := hrows row hrow
      refine ws_mid (fun ρ S' => ∃ (spot : Option Int), ρ = [some (.loc r), some (.lst (ws.map D.str)), some (.lst (rows.map rowD)), some (.int many), some (.loc S.length), some (.loc (S.length + 1)), some d, some (.int num), some (oD spot), w, none] ∧ RS (S0 ++ [dctC ws val, .lst (ms.map mvD)]) r (n + 4 * i + 3) S') ?_ ?_
      · simp -implicitDefEqProofs only [WR_ok, WS_ok, WR_bind, w_c, w_bin, boolP_b, notP_b, w_not, w_and, w_or, w_if, w_chain, w_evs0, w_evs, w_call, w_callK, w_tup, w_lst, w_cell, cellP_lst, cellP_dct, negP_i, w_neg, w_fld, w_methC, w_make, w_makeZ, ws_next, ws_brk, ws_ct, ws_seq, ws_asg, ws_ret, ws_drop, ws_if, ws_par, ws_unp, ws_sto, ws_stoF, ws_for, wi_seq, wi_rng1, wi_enum, seqP_lst, seqP_klst, seqP_tup, seqP_ktup, rngP_i, enumP_lst, goP_nx, goP_ret, goP_ct, goP_brk, goP_er, bodyP_nx, bodyP_ret, bodyP_er, turnP_nx, turnP_ct, turnP_brk, turnP_ret, turnP_er, w_run, startD, List.map_cons, List.map_nil, List.length_cons, List.length_nil, List.replicate, List.cons_append, List.nil_append, List.append_nil, List.getElem?_cons_zero, List.getElem?_cons_succ, List.set_cons_zero, List.set_cons_succ, w_v, slotP_s, w_addI, w_subI, w_mulI, w_divI, w_modI, w_powI, w_ltI, w_leI, w_gtI, w_geI, w_isN, w_notN, isNon_n, isNon_i, isNon_t, isNon_s, w_intI, w_intB, w_absI, w_maxI, w_minI, decide_eq_true_eq, Bool.not_eq_true, if_true, if_false, ite_true, ite_false, reduceCtorEq, Bool.false_eq_true, Bool.not_true, Bool.not_false, eq_self_iff_true, true_and, and_true, w_eqI, w_neI, w_ixT, w_ixL, ixP_s, at2_0, at2_1, at2_m1, at4_0, at4_1, at4_2, at4_3, at4_m1, at7_0, at7_1, at7_2, at7_3, at7_4, at7_5, at7_6, at7_m1, oD_none, oD_some, tgP_2, w_appLoc, w_lenLoc, w_lenLst, w_meth, List.length_map, goM_nx, goM_ret, goM_ct, goM_brk, goM_er, wi_str, strP_s, hat', row_0]
        rw [w_eqS kind_ok okS_set]
        simp -implicitDefEqProofs only [WR_ok, WS_ok, WR_bind, w_c, w_bin, boolP_b, notP_b, w_not, w_and, w_or, w_if, w_chain, w_evs0, w_evs, w_call, w_callK, w_tup, w_lst, w_cell, cellP_lst, cellP_dct, negP_i, w_neg, w_fld, w_methC, w_make, w_makeZ, ws_next, ws_brk, ws_ct, ws_seq, ws_asg, ws_ret, ws_drop, ws_if, ws_par, ws_unp, ws_sto, ws_stoF, ws_for, wi_seq, wi_rng1, wi_enum, seqP_lst, seqP_klst, seqP_tup, seqP_ktup, rngP_i, enumP_lst, goP_nx, goP_ret, goP_ct, goP_brk, goP_er, bodyP_nx, bodyP_ret, bodyP_er, turnP_nx, turnP_ct, turnP_brk, turnP_ret, turnP_er, w_run, startD, List.map_cons, List.map_nil, List.length_cons, List.length_nil, List.replicate, List.cons_append, List.nil_append, List.append_nil, List.getElem?_cons_zero, List.getElem?_cons_succ, List.set_cons_zero, List.set_cons_succ, w_v, slotP_s, w_addI, w_subI, w_mulI, w_divI, w_modI, w_powI, w_ltI, w_leI, w_gtI, w_geI, w_isN, w_notN, isNon_n, isNon_i, isNon_t, isNon_s, w_intI, w_intB, w_absI, w_maxI, w_minI, decide_eq_true_eq, Bool.not_eq_true, if_true, if_false, ite_true, ite_false, reduceCtorEq, Bool.false_eq_true, Bool.not_true, Bool.not_false, eq_self_iff_true, true_and, and_true, w_eqI, w_neI, w_ixT, w_ixL, ixP_s, at2_0, at2_1, at2_m1, at4_0, at4_1, at4_2, at4_3, at4_m1, at7_0, at7_1, at7_2, at7_3, at7_4, at7_5, at7_6, at7_m1, oD_none, oD_some, tgP_2, w_appLoc, w_lenLoc, w_lenLst, w_meth, List.length_map, goM_nx, goM_ret, goM_ct, goM_brk, goM_er, wi_str, strP_s]
        cases row with
        | set nm g cs =>
          rw [if_pos (show (Row.set nm g cs).kind = ("set" : Str) from rfl)]
          unfold rowD
          simp -implicitDefEqProofs only [WR_ok, WS_ok, WR_bind, w_c, w_bin, boolP_b, notP_b, w_not, w_and, w_or, w_if, w_chain, w_evs0, w_evs, w_call, w_callK, w_tup, w_lst, w_cell, cellP_lst, cellP_dct, negP_i, w_neg, w_fld, w_methC, w_make, w_makeZ, ws_next, ws_brk, ws_ct, ws_seq, ws_asg, ws_ret, ws_drop, ws_if, ws_par, ws_unp, ws_sto, ws_stoF, ws_for, wi_seq, wi_rng1, wi_enum, seqP_lst, seqP_klst, seqP_tup, seqP_ktup, rngP_i, enumP_lst, goP_nx, goP_ret, goP_ct, goP_brk, goP_er, bodyP_nx, bodyP_ret, bodyP_er, turnP_nx, turnP_ct, turnP_brk, turnP_ret, turnP_er, w_run, startD, List.map_cons, List.map_nil, List.length_cons, List.length_nil, List.replicate, List.cons_append, List.nil_append, List.append_nil, List.getElem?_cons_zero, List.getElem?_cons_succ, List.set_cons_zero, List.set_cons_succ, w_v, slotP_s, w_addI, w_subI, w_mulI, w_divI, w_modI, w_powI, w_ltI, w_leI, w_gtI, w_geI, w_isN, w_notN, isNon_n, isNon_i, isNon_t, isNon_s, w_intI, w_intB, w_absI, w_maxI, w_minI, decide_eq_true_eq, Bool.not_eq_true, if_true, if_false, ite_true, ite_false, reduceCtorEq, Bool.false_eq_true, Bool.not_true, Bool.not_false, eq_self_iff_true, true_and, and_true, w_eqI, w_neI, w_ixT, w_ixL, ixP_s, at2_0, at2_1, at2_m1, at4_0, at4_1, at4_2, at4_3, at4_m1, at7_0, at7_1, at7_2, at7_3, at7_4, at7_5, at7_6, at7_m1, oD_none, oD_some, tgP_2, w_appLoc, w_lenLoc, w_lenLst, w_meth, List.length_map, goM_nx, goM_ret, goM_ct, goM_brk, goM_er, wi_str, strP_s]
          refine (spec_spot (hr2 _ _) R3 (by omega) ok.rg.2).call ?_
          rintro _ S4 ⟨R4, o, rfl, _⟩
          exact ⟨o, rfl, R4.mono (by omega)⟩
        | step nm src f a g cs =>
          rw [if_neg (show ¬ (Row.step nm src f a g cs).kind = ("set" : Str) from set_step)]
          exact ⟨none, rfl, R3.mono (by omega)⟩
      rintro ρ S4 ⟨spot, rfl, R4⟩
      refine ws_mid (fun ρ S' => ρ = [some (.loc r), some (.lst (ws.map D.str)), some (.lst (rows.map rowD)), some (.int many), some (.loc S.length), some (.loc (S.length + 1)), some d, some (.int num), some (oD spot), some (oD (nextV rows val num spot)), none] ∧ S' = S4) ?_ ?_
      · simp -implicitDefEqProofs only [WR_ok, WS_ok, WR_bind, w_c, w_bin, boolP_b, notP_b, w_not, w_and, w_or, w_if, w_chain, w_evs0, w_evs, w_call, w_callK, w_tup, w_lst, w_cell, cellP_lst, cellP_dct, negP_i, w_neg, w_fld, w_methC, w_make, w_makeZ, ws_next, ws_brk, ws_ct, ws_seq, ws_asg, ws_ret, ws_drop, ws_if, ws_par, ws_unp, ws_sto, ws_stoF, ws_for, wi_seq, wi_rng1, wi_enum, seqP_lst, seqP_klst, seqP_tup, seqP_ktup, rngP_i, enumP_lst, goP_nx, goP_ret, goP_ct, goP_brk, goP_er, bodyP_nx, bodyP_ret, bodyP_er, turnP_nx, turnP_ct, turnP_brk, turnP_ret, turnP_er, w_run, startD, List.map_cons, List.map_nil, List.length_cons, List.length_nil, List.replicate, List.cons_append, List.nil_append, List.append_nil, List.getElem?_cons_zero, List.getElem?_cons_succ, List.set_cons_zero, List.set_cons_succ, w_v, slotP_s, w_addI, w_subI, w_mulI, w_divI, w_modI, w_powI, w_ltI, w_leI, w_gtI, w_geI, w_isN, w_notN, isNon_n, isNon_i, isNon_t, isNon_s, w_intI, w_intB, w_absI, w_maxI, w_minI, decide_eq_true_eq, Bool.not_eq_true, if_true, if_false, ite_true, ite_false, reduceCtorEq, Bool.false_eq_true, Bool.not_true, Bool.not_false, eq_self_iff_true, true_and, and_true, w_eqI, w_neI, w_ixT, w_ixL, ixP_s, at2_0, at2_1, at2_m1, at4_0, at4_1, at4_2, at4_3, at4_m1, at7_0, at7_1, at7_2, at7_3, at7_4, at7_5, at7_6, at7_m1, oD_none, oD_some, tgP_2, w_appLoc, w_lenLoc, w_lenLst, w_meth, List.length_map, goM_nx, goM_ret, goM_ct, goM_brk, goM_er, wi_str, strP_s]
        refine (spec_next (ks := ws) (ws := ws) ⟨hA R4, hvb⟩ hrows (fun w hw => hw) hok).call ?_
        rintro _ S5 ⟨rfl, rfl⟩
        exact ⟨rfl, rfl⟩
      rintro ρ S5 ⟨rfl, rfl⟩
      have skip : ∃ (x y z w : Option D) (ms' : List (Int × Option Int)) (val' : Str → Option Int), [some (.loc r), some (.lst (ws.map D.str)), some (.lst (rows.map rowD)), some (.int many), some (.loc S.length), some (.loc (S.length + 1)), some d, some (.int num), some (oD spot), some (oD (nextV rows val num spot)), none] = [some (.loc r), some (.lst (ws.map D.str)), some (.lst (rows.map rowD)), some (.int many), some (.loc S.length), some (.loc (S.length + 1)), x, y, z, w, none] ∧ RS (S0 ++ [dctC ws val', .lst (ms'.map mvD)]) r (n + 4 * (i + 1)) S5 ∧ runV rows vals0 ms' = some val' ∧ valBnd (10 ^ 31) val' ∧ ms'.length ≤ i + 1 ∧ (∀ k v, runV rows vals0 (ms'.take k) = some v → valBnd (10 ^ 31) v) :=
        ⟨_, _, _, _, ms, val, rfl, R4.mono (by omega), hrun, hvb, by omega, hpre⟩
      cases hnx : nextV rows val num spot with
      | none =>
        rw [hnx] at skip
        simp -implicitDefEqProofs only [WR_ok, WS_ok, WR_bind, w_c, w_bin, boolP_b, notP_b, w_not, w_and, w_or, w_if, w_chain, w_evs0, w_evs, w_call, w_callK, w_tup, w_lst, w_cell, cellP_lst, cellP_dct, negP_i, w_neg, w_fld, w_methC, w_make, w_makeZ, ws_next, ws_brk, ws_ct, ws_seq, ws_asg, ws_ret, ws_drop, ws_if, ws_par, ws_unp, ws_sto, ws_stoF, ws_for, wi_seq, wi_rng1, wi_enum, seqP_lst, seqP_klst, seqP_tup, seqP_ktup, rngP_i, enumP_lst, goP_nx, goP_ret, goP_ct, goP_brk, goP_er, bodyP_nx, bodyP_ret, bodyP_er, turnP_nx, turnP_ct, turnP_brk, turnP_ret, turnP_er, w_run, startD, List.map_cons, List.map_nil, List.length_cons, List.length_nil, List.replicate, List.cons_append, List.nil_append, List.append_nil, List.getElem?_cons_zero, List.getElem?_cons_succ, List.set_cons_zero, List.set_cons_succ, w_v, slotP_s, w_addI, w_subI, w_mulI, w_divI, w_modI, w_powI, w_ltI, w_leI, w_gtI, w_geI, w_isN, w_notN, isNon_n, isNon_i, isNon_t, isNon_s, w_intI, w_intB, w_absI, w_maxI, w_minI, decide_eq_true_eq, Bool.not_eq_true, if_true, if_false, ite_true, ite_false, reduceCtorEq, Bool.false_eq_true, Bool.not_true, Bool.not_false, eq_self_iff_true, true_and, and_true, w_eqI, w_neI, w_ixT, w_ixL, ixP_s, at2_0, at2_1, at2_m1, at4_0, at4_1, at4_2, at4_3, at4_m1, at7_0, at7_1, at7_2, at7_3, at7_4, at7_5, at7_6, at7_m1, oD_none, oD_some, tgP_2, w_appLoc, w_lenLoc, w_lenLst, w_meth, List.length_map, goM_nx, goM_ret, goM_ct, goM_brk, goM_er, wi_str, strP_s]
        exact skip
      | some v =>
        simp -implicitDefEqProofs only [WR_ok, WS_ok, WR_bind, w_c, w_bin, boolP_b, notP_b, w_not, w_and, w_or, w_if, w_chain, w_evs0, w_evs, w_call, w_callK, w_tup, w_lst, w_cell, cellP_lst, cellP_dct, negP_i, w_neg, w_fld, w_methC, w_make, w_makeZ, ws_next, ws_brk, ws_ct, ws_seq, ws_asg, ws_ret, ws_drop, ws_if, ws_par, ws_unp, ws_sto, ws_stoF, ws_for, wi_seq, wi_rng1, wi_enum, seqP_lst, seqP_klst, seqP_tup, seqP_ktup, rngP_i, enumP_lst, goP_nx, goP_ret, goP_ct, goP_brk, goP_er, bodyP_nx, bodyP_ret, bodyP_er, turnP_nx, turnP_ct, turnP_brk, turnP_ret, turnP_er, w_run, startD, List.map_cons, List.map_nil, List.length_cons, List.length_nil, List.replicate, List.cons_append, List.nil_append, List.append_nil, List.getElem?_cons_zero, List.getElem?_cons_succ, List.set_cons_zero, List.set_cons_succ, w_v, slotP_s, w_addI, w_subI, w_mulI, w_divI, w_modI, w_powI, w_ltI, w_leI, w_gtI, w_geI, w_isN, w_notN, isNon_n, isNon_i, isNon_t, isNon_s, w_intI, w_intB, w_absI, w_maxI, w_minI, decide_eq_true_eq, Bool.not_eq_true, if_true, if_false, ite_true, ite_false, reduceCtorEq, Bool.false_eq_true, Bool.not_true, Bool.not_false, eq_self_iff_true, true_and, and_true, w_eqI, w_neI, w_ixT, w_ixL, ixP_s, at2_0, at2_1, at2_m1, at4_0, at4_1, at4_2, at4_3, at4_m1, at7_0, at7_1, at7_2, at7_3, at7_4, at7_5, at7_6, at7_m1, oD_none, oD_some, tgP_2, w_appLoc, w_lenLoc, w_lenLst, w_meth, List.length_map, goM_nx, goM_ret, goM_ct, goM_brk, goM_er, wi_str, strP_s]
        refine ⟨cPow_of (i := 10) (by decide) (by decide) (by decide) (by decide), ?_⟩
        by_cases hv : (if v < 0 then -v else v) < 10 ^ (31 : Int).toNat - 99
        · rw [if_pos hv]
          refine ⟨ty_loc (hB R4), ?_⟩
          rw [w_appLoc (hB R4)]
          refine ⟨by simp [big]; omega, ?_⟩
          have hnw : row.name ∈ ws := ok.nm _ (by cases row <;> simp [Row.name, Row.names])
          have R6 : RS (S0 ++ [dctC ws val, .lst ((ms ++ [(num, spot)]).map mvD)]) r (n + 4 * i + 3) (S5.set (S.length + 1) (.lst (ms.map mvD ++ [.tup [.int num, oD spot]]))) := by
            have := R4.put (k := S.length + 1) (by omega) (.lst (ms.map mvD ++ [.tup [.int num, oD spot]]))
            rw [hl, set_two'] at this
            rw [hl]
            simpa [mvD] using this
          simp -implicitDefEqProofs only [WR_ok, WS_ok, WR_bind, w_c, w_bin, boolP_b, notP_b, w_not, w_and, w_or, w_if, w_chain, w_evs0, w_evs, w_call, w_callK, w_tup, w_lst, w_cell, cellP_lst, cellP_dct, negP_i, w_neg, w_fld, w_methC, w_make, w_makeZ, ws_next, ws_brk, ws_ct, ws_seq, ws_asg, ws_ret, ws_drop, ws_if, ws_par, ws_unp, ws_sto, ws_stoF, ws_for, wi_seq, wi_rng1, wi_enum, seqP_lst, seqP_klst, seqP_tup, seqP_ktup, rngP_i, enumP_lst, goP_nx, goP_ret, goP_ct, goP_brk, goP_er, bodyP_nx, bodyP_ret, bodyP_er, turnP_nx, turnP_ct, turnP_brk, turnP_ret, turnP_er, w_run, startD, List.map_cons, List.map_nil, List.length_cons, List.length_nil, List.replicate, List.cons_append, List.nil_append, List.append_nil, List.getElem?_cons_zero, List.getElem?_cons_succ, List.set_cons_zero, List.set_cons_succ, w_v, slotP_s, w_addI, w_subI, w_mulI, w_divI, w_modI, w_powI, w_ltI, w_leI, w_gtI, w_geI, w_isN, w_notN, isNon_n, isNon_i, isNon_t, isNon_s, w_intI, w_intB, w_absI, w_maxI, w_minI, decide_eq_true_eq, Bool.not_eq_true, if_true, if_false, ite_true, ite_false, reduceCtorEq, Bool.false_eq_true, Bool.not_true, Bool.not_false, eq_self_iff_true, true_and, and_true, w_eqI, w_neI, w_ixT, w_ixL, ixP_s, at2_0, at2_1, at2_m1, at4_0, at4_1, at4_2, at4_3, at4_m1, at7_0, at7_1, at7_2, at7_3, at7_4, at7_5, at7_6, at7_m1, oD_none, oD_some, tgP_2, w_appLoc, w_lenLoc, w_lenLst, w_meth, List.length_map, goM_nx, goM_ret, goM_ct, goM_brk, goM_er, wi_str, strP_s, hat', row_1]
          have e31 : (10 : Int) ^ (31 : Int).toNat = 10 ^ 31 := rfl
          rw [e31] at hv
          rw [← oD_some, setP_dct (hA R6) hnw hnd (by unfold big; omega)]
          simp -implicitDefEqProofs only [WR_ok, WS_ok, WR_bind, w_c, w_bin, boolP_b, notP_b, w_not, w_and, w_or, w_if, w_chain, w_evs0, w_evs, w_call, w_callK, w_tup, w_lst, w_cell, cellP_lst, cellP_dct, negP_i, w_neg, w_fld, w_methC, w_make, w_makeZ, ws_next, ws_brk, ws_ct, ws_seq, ws_asg, ws_ret, ws_drop, ws_if, ws_par, ws_unp, ws_sto, ws_stoF, ws_for, wi_seq, wi_rng1, wi_enum, seqP_lst, seqP_klst, seqP_tup, seqP_ktup, rngP_i, enumP_lst, goP_nx, goP_ret, goP_ct, goP_brk, goP_er, bodyP_nx, bodyP_ret, bodyP_er, turnP_nx, turnP_ct, turnP_brk, turnP_ret, turnP_er, w_run, startD, List.map_cons, List.map_nil, List.length_cons, List.length_nil, List.replicate, List.cons_append, List.nil_append, List.append_nil, List.getElem?_cons_zero, List.getElem?_cons_succ, List.set_cons_zero, List.set_cons_succ, w_v, slotP_s, w_addI, w_subI, w_mulI, w_divI, w_modI, w_powI, w_ltI, w_leI, w_gtI, w_geI, w_isN, w_notN, isNon_n, isNon_i, isNon_t, isNon_s, w_intI, w_intB, w_absI, w_maxI, w_minI, decide_eq_true_eq, Bool.not_eq_true, if_true, if_false, ite_true, ite_false, reduceCtorEq, Bool.false_eq_true, Bool.not_true, Bool.not_false, eq_self_iff_true, true_and, and_true, w_eqI, w_neI, w_ixT, w_ixL, ixP_s, at2_0, at2_1, at2_m1, at4_0, at4_1, at4_2, at4_3, at4_m1, at7_0, at7_1, at7_2, at7_3, at7_4, at7_5, at7_6, at7_m1, oD_none, oD_some, tgP_2, w_appLoc, w_lenLoc, w_lenLst, w_meth, List.length_map, goM_nx, goM_ret, goM_ct, goM_brk, goM_er, wi_str, strP_s]
          refine ⟨_, _, _, _, ms ++ [(num, spot)], upV val row.name (some v), rfl, ?_, ?_, valBnd_up hvb (by unfold Bnd; split at hv <;> omega), by simp; omega, ?_⟩
          · have := R6.put (k := S.length) (by omega) (dctC ws (upV val row.name (some v)))
            rw [hl, set_two] at this
            rw [hl]
            exact this.mono (by omega)
          · rw [runV_app hrun]
            unfold runV
            rw [hat, hnx]
            rfl
          · intro k v' hk
            by_cases hkl : k ≤ ms.length
            · rw [List.take_append_of_le_length hkl] at hk
              exact hpre k v' hk
            · rw [List.take_of_length_le (by simp; omega), runV_app hrun] at hk
              unfold runV at hk
              rw [hat, hnx] at hk
              cases hk
              exact valBnd_up hvb (by unfold Bnd; split at hv <;> omega)
        · rw [if_neg hv]
          rw [hnx] at skip
          exact skip
    · rintro ρ S2 ⟨x, y, z, w, ms, val, rfl, R2, hrun, hvb, hml, hpre⟩
      simp -implicitDefEqProofs only [WR_ok, WS_ok, WR_bind, w_c, w_bin, boolP_b, notP_b, w_not, w_and, w_or, w_if, w_chain, w_evs0, w_evs, w_call, w_callK, w_tup, w_lst, w_cell, cellP_lst, cellP_dct, negP_i, w_neg, w_fld, w_methC, w_make, w_makeZ, ws_next, ws_brk, ws_ct, ws_seq, ws_asg, ws_ret, ws_drop, ws_if, ws_par, ws_unp, ws_sto, ws_stoF, ws_for, wi_seq, wi_rng1, wi_enum, seqP_lst, seqP_klst, seqP_tup, seqP_ktup, rngP_i, enumP_lst, goP_nx, goP_ret, goP_ct, goP_brk, goP_er, bodyP_nx, bodyP_ret, bodyP_er, turnP_nx, turnP_ct, turnP_brk, turnP_ret, turnP_er, w_run, startD, List.map_cons, List.map_nil, List.length_cons, List.length_nil, List.replicate, List.cons_append, List.nil_append, List.append_nil, List.getElem?_cons_zero, List.getElem?_cons_succ, List.set_cons_zero, List.set_cons_succ, w_v, slotP_s, w_addI, w_subI, w_mulI, w_divI, w_modI, w_powI, w_ltI, w_leI, w_gtI, w_geI, w_isN, w_notN, isNon_n, isNon_i, isNon_t, isNon_s, w_intI, w_intB, w_absI, w_maxI, w_minI, decide_eq_true_eq, Bool.not_eq_true, if_true, if_false, ite_true, ite_false, reduceCtorEq, Bool.false_eq_true, Bool.not_true, Bool.not_false, eq_self_iff_true, true_and, and_true, w_eqI, w_neI, w_ixT, w_ixL, ixP_s, at2_0, at2_1, at2_m1, at4_0, at4_1, at4_2, at4_3, at4_m1, at7_0, at7_1, at7_2, at7_3, at7_4, at7_5, at7_6, at7_m1, oD_none, oD_some, tgP_2, w_appLoc, w_lenLoc, w_lenLst, w_meth, List.length_map, goM_nx, goM_ret, goM_ct, goM_brk, goM_er, wi_str, strP_s]
      rw [hclen] at hml R2
      exact ⟨_, _, _, _, ms, val, rfl, R2.mono (by omega), hrun, hvb, by omega, hpre⟩
  rintro ρ S2 ⟨x, y, z, w, ms, val, rfl, R2, hrun, hvb, hml, hpre⟩
  simp -implicitDefEqProofs only [WR_ok, WS_ok, WR_bind, w_c, w_bin, boolP_b, notP_b, w_not, w_and, w_or, w_if, w_chain, w_evs0, w_evs, w_call, w_callK, w_tup, w_lst, w_cell, cellP_lst, cellP_dct, negP_i, w_neg, w_fld, w_methC, w_make, w_makeZ, ws_next, ws_brk, ws_ct, ws_seq, ws_asg, ws_ret, ws_drop, ws_if, ws_par, ws_unp, ws_sto, ws_stoF, ws_for, wi_seq, wi_rng1, wi_enum, seqP_lst, seqP_klst, seqP_tup, seqP_ktup, rngP_i, enumP_lst, goP_nx, goP_ret, goP_ct, goP_brk, goP_er, bodyP_nx, bodyP_ret, bodyP_er, turnP_nx, turnP_ct, turnP_brk, turnP_ret, turnP_er, w_run, startD, List.map_cons, List.map_nil, List.length_cons, List.length_nil, List.replicate, List.cons_append, List.nil_append, List.append_nil, List.getElem?_cons_zero, List.getElem?_cons_succ, List.set_cons_zero, List.set_cons_succ, w_v, slotP_s, w_addI, w_subI, w_mulI, w_divI, w_modI, w_powI, w_ltI, w_leI, w_gtI, w_geI, w_isN, w_notN, isNon_n, isNon_i, isNon_t, isNon_s, w_intI, w_intB, w_absI, w_maxI, w_minI, decide_eq_true_eq, Bool.not_eq_true, if_true, if_false, ite_true, ite_false, reduceCtorEq, Bool.false_eq_true, Bool.not_true, Bool.not_false, eq_self_iff_true, true_and, and_true, w_eqI, w_neI, w_ixT, w_ixL, ixP_s, at2_0, at2_1, at2_m1, at4_0, at4_1, at4_2, at4_3, at4_m1, at7_0, at7_1, at7_2, at7_3, at7_4, at7_5, at7_6, at7_m1, oD_none, oD_some, tgP_2, w_appLoc, w_lenLoc, w_lenLst, w_meth, List.length_map, goM_nx, goM_ret, goM_ct, goM_brk, goM_er, wi_str, strP_s]
  have hA2 := hA R2
  have hB2 := hB R2
  refine ⟨.tup [.lst (ms.map mvD), .dct (ws.map Sum.inr) (ws.map fun w => oD (val w))], ?_, ?_, ?_, ms, val, rfl, hrun, hvb, hml, hpre⟩
  · show (optAll (fzD fl S2 S.length 59) [.loc (S.length + 1), .loc S.length]).map D.tup = _
    unfold optAll
    rw [fzD_locL (by omega) hB2 (pure_mvs ms) 59 (by decide)]
    unfold optAll
    rw [fzD_locD (by omega) hA2 (pure_vals ws val) 59 (by decide)]
    rfl
  · rw [hl]; exact (R2.pop hr).pure hp
  · rw [hl]; exact (R2.pop hr).mono (by omega)


section
variable {P : D → List Cell → Prop} {E : Nat → D → List Cell → Prop} {S : List Cell}
theorem cutD_take {l : List D} {i : Nat} (h : i ≤ l.length) : cutD l none (some (i : Int)) = l.take i := by
  unfold cutD
  rw [HT.sIx_none, HT.sIx_nat, List.drop_zero, Nat.sub_zero, Nat.min_eq_left h]
theorem flats_strs (l : List Str) : flatsD (l.map D.str) = some (l.map V.str) := by
  induction l with
  | nil => rfl
  | cons a l ih =>
    show (match flatD (.str a), flatsD (l.map D.str) with | some v, some vs => some (v :: vs) | _, _ => none) = _
    rw [ih]; rfl
theorem inV_strs (w : Str) (l : List Str) : inV (.str w) (l.map V.str) = decide (w ∈ l) := by
  unfold inV
  rw [List.any_map]
  induction l with
  | nil => rfl
  | cons a l ih =>
    rw [List.any_cons, ih]
    show ((a == w) || decide (w ∈ l)) = _
    by_cases e : a = w
    · subst e; simp
    · have : (a == w) = false := by simpa using e
      rw [this]
      simp [List.mem_cons, fun z : w = a => e z.symm]
      intro z; exact absurd z.symm e
theorem inR_strs {w : Str} {l : List Str} : inR (.str w) (.lst (l.map D.str)) S = some (decide (w ∈ l)) := by
  show inQ (.str w) (.lst (l.map D.str)) S = _
  unfold inQ
  show (match some (l.map D.str) with | some l => (match flatD (.str w), flatsD l with | some v, some vs => some (inV v vs) | _, _ => none) | none => none) = _
  dsimp only
  rw [flats_strs]
  show some (inV (.str w) (l.map V.str)) = _
  rw [inV_strs]
theorem w_inStrs {w : Str} {l : List Str} : WR (opIn (.str w) (.lst (l.map D.str)) S) P E = P (.bl (decide (w ∈ l))) S := by
  unfold opIn; rw [inR_strs]; rfl
theorem w_inSign {c : Nat} {z : Str} : WR (opIn (.str ⟨#[c]⟩) (.str z) S) P E = P (.bl (decide (c ∈ z.cps.toList))) S := rfl
theorem blsD_true (l : List D) (h : ∀ d ∈ l, d = .bl true) : ∃ bs, blsD l = some bs ∧ bs.all id = true := by
  induction l with
  | nil => exact ⟨[], rfl, rfl⟩
  | cons d l ih =>
    obtain ⟨bs, h1, h2⟩ := ih fun x hx => h x (List.mem_cons_of_mem _ hx)
    have := h d List.mem_cons_self
    subst this
    exact ⟨true :: bs, by show (blsD l).map _ = _; rw [h1]; rfl, by simpa using h2⟩
theorem w_allTrue {l : List D} (h : ∀ d ∈ l, d = .bl true) : WR (bBls (fun l => l.all id) [.lst l] S) P E = P (.bl true) S := by
  obtain ⟨bs, h1, h2⟩ := blsD_true l h
  show WR (match blsD l with | some bs => Res.ok (.bl (bs.all id)) S | none => .bad) P E = _
  rw [h1]
  show P (.bl (bs.all id)) S = _
  rw [h2]
end
theorem letters_ok : ∀ w ∈ allW, ∀ c ∈ w.cps.toList, c ∈ ("abcdefghijklmnopqrstuvwxyz" : Str).cps.toList := by decide +kernel
theorem len_ok : ∀ w ∈ allW, w.length ≤ 8 ∧ 1 ≤ w.length ∧ w.cps.toList.length ≤ 8 := by decide +kernel
theorem w_lenS {P : D → List Cell → Prop} {E : Nat → D → List Cell → Prop} {S : List Cell} {z : Str} : WR (bLen [.str z] S) P E = (z.length ≤ big ∧ P (.int z.length) S) := wr_if
theorem spec_is_name {S : List Cell} {w : Str} (hw : w ∈ allW) : WR (G_is_name [.str w] S) (fun d S' => d = .bl true ∧ S' = S) E0 := by
  unfold G_is_name
  obtain ⟨l1, l2, l3⟩ := len_ok w hw
  simp -implicitDefEqProofs only [WR_ok, WS_ok, WR_bind, w_c, w_bin, boolP_b, notP_b, w_not, w_and, w_or, w_if, w_chain, w_evs0, w_evs, w_call, w_callK, w_tup, w_lst, w_cell, cellP_lst, cellP_dct, negP_i, w_neg, w_fld, w_methC, w_make, w_makeZ, ws_next, ws_brk, ws_ct, ws_seq, ws_asg, ws_ret, ws_drop, ws_if, ws_par, ws_unp, ws_sto, ws_stoF, ws_for, wi_seq, wi_rng1, wi_enum, seqP_lst, seqP_klst, seqP_tup, seqP_ktup, rngP_i, enumP_lst, goP_nx, goP_ret, goP_ct, goP_brk, goP_er, bodyP_nx, bodyP_ret, bodyP_er, turnP_nx, turnP_ct, turnP_brk, turnP_ret, turnP_er, w_run, startD, List.map_cons, List.map_nil, List.length_cons, List.length_nil, List.replicate, List.cons_append, List.nil_append, List.append_nil, List.getElem?_cons_zero, List.getElem?_cons_succ, List.set_cons_zero, List.set_cons_succ, w_v, slotP_s, w_addI, w_subI, w_mulI, w_divI, w_modI, w_powI, w_ltI, w_leI, w_gtI, w_geI, w_isN, w_notN, isNon_n, isNon_i, isNon_t, isNon_s, w_intI, w_intB, w_absI, w_maxI, w_minI, decide_eq_true_eq, Bool.not_eq_true, if_true, if_false, ite_true, ite_false, reduceCtorEq, Bool.false_eq_true, Bool.not_true, Bool.not_false, eq_self_iff_true, true_and, and_true, w_eqI, w_neI, w_ixT, w_ixL, ixP_s, at2_0, at2_1, at2_m1, at4_0, at4_1, at4_2, at4_3, at4_m1, at7_0, at7_1, at7_2, at7_3, at7_4, at7_5, at7_6, at7_m1, oD_none, oD_some, tgP_2, w_appLoc, w_lenLoc, w_lenLst, w_meth, List.length_map, goM_nx, goM_ret, goM_ct, goM_brk, goM_er, wi_str, strP_s, b_is_name, w_lenS, w_comp]
  refine ⟨by unfold big; omega, ?_⟩
  rw [if_pos (by omega), if_pos (by omega)]
  have hf : ((w.cps.toList.map fun _ => some (D.bl true)).filterMap id) = w.cps.toList.map fun _ => D.bl true := by
    have := filterMap_some (w.cps.toList.map fun _ => D.bl true)
    rw [List.map_map] at this
    exact this
  refine comp_pure (os := w.cps.toList.map fun _ => some (.bl true)) trivial (by simp [signsD]) ?_ ?_ ?_
  · intro i d o h1 h2
    unfold signsD at h1
    rw [List.getElem?_map] at h1 h2
    cases hc : w.cps.toList[i]? with
    | none => rw [hc] at h1; cases h1
    | some c =>
      rw [hc] at h1 h2
      cases h1
      cases h2
      unfold compT
      simp -implicitDefEqProofs only [WR_ok, WS_ok, WR_bind, w_c, w_bin, boolP_b, notP_b, w_not, w_and, w_or, w_if, w_chain, w_evs0, w_evs, w_call, w_callK, w_tup, w_lst, w_cell, cellP_lst, cellP_dct, negP_i, w_neg, w_fld, w_methC, w_make, w_makeZ, ws_next, ws_brk, ws_ct, ws_seq, ws_asg, ws_ret, ws_drop, ws_if, ws_par, ws_unp, ws_sto, ws_stoF, ws_for, wi_seq, wi_rng1, wi_enum, seqP_lst, seqP_klst, seqP_tup, seqP_ktup, rngP_i, enumP_lst, goP_nx, goP_ret, goP_ct, goP_brk, goP_er, bodyP_nx, bodyP_ret, bodyP_er, turnP_nx, turnP_ct, turnP_brk, turnP_ret, turnP_er, w_run, startD, List.map_cons, List.map_nil, List.length_cons, List.length_nil, List.replicate, List.cons_append, List.nil_append, List.append_nil, List.getElem?_cons_zero, List.getElem?_cons_succ, List.set_cons_zero, List.set_cons_succ, w_v, slotP_s, w_addI, w_subI, w_mulI, w_divI, w_modI, w_powI, w_ltI, w_leI, w_gtI, w_geI, w_isN, w_notN, isNon_n, isNon_i, isNon_t, isNon_s, w_intI, w_intB, w_absI, w_maxI, w_minI, decide_eq_true_eq, Bool.not_eq_true, if_true, if_false, ite_true, ite_false, reduceCtorEq, Bool.false_eq_true, Bool.not_true, Bool.not_false, eq_self_iff_true, true_and, and_true, w_eqI, w_neI, w_ixT, w_ixL, ixP_s, at2_0, at2_1, at2_m1, at4_0, at4_1, at4_2, at4_3, at4_m1, at7_0, at7_1, at7_2, at7_3, at7_4, at7_5, at7_6, at7_m1, oD_none, oD_some, tgP_2, w_appLoc, w_lenLoc, w_lenLst, w_meth, List.length_map, goM_nx, goM_ret, goM_ct, goM_brk, goM_er, wi_str, strP_s, tgT'_1, trueF, wipeD, w_inSign]
      exact ⟨_, rfl, by rw [decide_eq_true (letters_ok w hw c (List.mem_of_getElem? hc))]⟩
  · rw [hf, List.length_map]; unfold big; omega
  · rw [hf]
    rw [w_allTrue fun d hd => by obtain ⟨_, _, e⟩ := List.mem_map.mp hd; exact e.symm]
    exact ⟨rfl, rfl⟩
theorem spec_is_range {S : List Cell} {g : Rg} (hg : rgOk g) : WR (G_is_range [rgD g] S) (fun d S' => d = .bl true ∧ S' = S) E0 := by
  unfold G_is_range
  obtain ⟨a, b⟩ := g
  have inn : ∀ (P : D → List Cell → Prop) (E : Nat → D → List Cell → Prop), WR (opIn .non (.tup [oD a, oD b]) S) P E = P (.bl (decide (a = none ∨ b = none))) S := by
    intro P E
    cases a <;> cases b <;> rfl
  simp -implicitDefEqProofs only [WR_ok, WS_ok, WR_bind, w_c, w_bin, boolP_b, notP_b, w_not, w_and, w_or, w_if, w_chain, w_evs0, w_evs, w_call, w_callK, w_tup, w_lst, w_cell, cellP_lst, cellP_dct, negP_i, w_neg, w_fld, w_methC, w_make, w_makeZ, ws_next, ws_brk, ws_ct, ws_seq, ws_asg, ws_ret, ws_drop, ws_if, ws_par, ws_unp, ws_sto, ws_stoF, ws_for, wi_seq, wi_rng1, wi_enum, seqP_lst, seqP_klst, seqP_tup, seqP_ktup, rngP_i, enumP_lst, goP_nx, goP_ret, goP_ct, goP_brk, goP_er, bodyP_nx, bodyP_ret, bodyP_er, turnP_nx, turnP_ct, turnP_brk, turnP_ret, turnP_er, w_run, startD, List.map_cons, List.map_nil, List.length_cons, List.length_nil, List.replicate, List.cons_append, List.nil_append, List.append_nil, List.getElem?_cons_zero, List.getElem?_cons_succ, List.set_cons_zero, List.set_cons_succ, w_v, slotP_s, w_addI, w_subI, w_mulI, w_divI, w_modI, w_powI, w_ltI, w_leI, w_gtI, w_geI, w_isN, w_notN, isNon_n, isNon_i, isNon_t, isNon_s, w_intI, w_intB, w_absI, w_maxI, w_minI, decide_eq_true_eq, Bool.not_eq_true, if_true, if_false, ite_true, ite_false, reduceCtorEq, Bool.false_eq_true, Bool.not_true, Bool.not_false, eq_self_iff_true, true_and, and_true, w_eqI, w_neI, w_ixT, w_ixL, ixP_s, at2_0, at2_1, at2_m1, at4_0, at4_1, at4_2, at4_3, at4_m1, at7_0, at7_1, at7_2, at7_3, at7_4, at7_5, at7_6, at7_m1, oD_none, oD_some, tgP_2, w_appLoc, w_lenLoc, w_lenLst, w_meth, List.length_map, goM_nx, goM_ret, goM_ct, goM_brk, goM_er, wi_str, strP_s, b_is_range, rgD, inn]
  cases a with
  | none => simp
  | some l =>
    cases b with
    | none => simp
    | some h =>
      have : l ≤ h := hg
      simp -implicitDefEqProofs only [WR_ok, WS_ok, WR_bind, w_c, w_bin, boolP_b, notP_b, w_not, w_and, w_or, w_if, w_chain, w_evs0, w_evs, w_call, w_callK, w_tup, w_lst, w_cell, cellP_lst, cellP_dct, negP_i, w_neg, w_fld, w_methC, w_make, w_makeZ, ws_next, ws_brk, ws_ct, ws_seq, ws_asg, ws_ret, ws_drop, ws_if, ws_par, ws_unp, ws_sto, ws_stoF, ws_for, wi_seq, wi_rng1, wi_enum, seqP_lst, seqP_klst, seqP_tup, seqP_ktup, rngP_i, enumP_lst, goP_nx, goP_ret, goP_ct, goP_brk, goP_er, bodyP_nx, bodyP_ret, bodyP_er, turnP_nx, turnP_ct, turnP_brk, turnP_ret, turnP_er, w_run, startD, List.map_cons, List.map_nil, List.length_cons, List.length_nil, List.replicate, List.cons_append, List.nil_append, List.append_nil, List.getElem?_cons_zero, List.getElem?_cons_succ, List.set_cons_zero, List.set_cons_succ, w_v, slotP_s, w_addI, w_subI, w_mulI, w_divI, w_modI, w_powI, w_ltI, w_leI, w_gtI, w_geI, w_isN, w_notN, isNon_n, isNon_i, isNon_t, isNon_s, w_intI, w_intB, w_absI, w_maxI, w_minI, decide_eq_true_eq, Bool.not_eq_true, if_true, if_false, ite_true, ite_false, reduceCtorEq, Bool.false_eq_true, Bool.not_true, Bool.not_false, eq_self_iff_true, true_and, and_true, w_eqI, w_neI, w_ixT, w_ixL, ixP_s, at2_0, at2_1, at2_m1, at4_0, at4_1, at4_2, at4_3, at4_m1, at7_0, at7_1, at7_2, at7_3, at7_4, at7_5, at7_6, at7_m1, oD_none, oD_some, tgP_2, w_appLoc, w_lenLoc, w_lenLst, w_meth, List.length_map, goM_nx, goM_ret, goM_ct, goM_brk, goM_er, wi_str, strP_s, w_leI]
      simp [this]
theorem compStr {S : List Cell} {t : Tgt} {vs : List Nat} {e : Ev} {ρ : Slots} {P : D → List Cell → Prop} {E : Nat → D → List Cell → Prop} {α : Type} {xs : List α} {src tgt : α → D} {c : Option Nat} (hst : Stay c (xs.map src) S) (hb : xs.length ≤ big)
    (h : ∀ x ∈ xs, tgT' t (wipeD ρ vs) (fun ρ1 => WR (e ρ1 S) (fun d S' => d = tgt x ∧ S' = S) E0) (src x)) (hP : P (.lst (xs.map tgt)) S) :
    WR (compD (xs.map src) c t vs trueF e ρ (xs.map src) S fun r S2 => if r.length ≤ big then .ok (.lst r) S2 else .bad) P E := by
  have hf : (xs.map fun x => some (tgt x)).filterMap id = xs.map tgt := by
    have := filterMap_some (xs.map tgt)
    rw [List.map_map] at this
    exact this
  refine comp_pure (os := xs.map fun x => some (tgt x)) hst (by simp) ?_ ?_ ?_
  · intro i d o h1 h2
    rw [List.getElem?_map] at h1 h2
    cases hc : xs[i]? with
    | none => rw [hc] at h1; cases h1
    | some x =>
      rw [hc] at h1 h2
      cases h1
      cases h2
      have := h x (List.mem_of_getElem? hc)
      unfold compT
      unfold tgT' at this ⊢
      cases ht : t (src x) (wipeD ρ vs) with
      | none => rw [ht] at this; exact this
      | some ρ1 =>
        rw [ht] at this
        dsimp only at this ⊢
        show S = S ∧ ∃ y, some (tgt x) = some y ∧ _
        exact ⟨rfl, _, rfl, this⟩
  · rw [hf, List.length_map]; exact hb
  · rw [hf]; exact hP
theorem spec_names_in {S : List Cell} {row : Row} (hf : row.cs.length ≤ 2) : WR (G_names_in [rowD row] S) (fun d S' => d = .lst (row.names.map D.str) ∧ S' = S) E0 := by
  unfold G_names_in
  cases row with
  | set nm g cs =>
    have hf : cs.length ≤ 2 := hf
    simp -implicitDefEqProofs only [WR_ok, WS_ok, WR_bind, w_c, w_bin, boolP_b, notP_b, w_not, w_and, w_or, w_if, w_chain, w_evs0, w_evs, w_call, w_callK, w_tup, w_lst, w_cell, cellP_lst, cellP_dct, negP_i, w_neg, w_fld, w_methC, w_make, w_makeZ, ws_next, ws_brk, ws_ct, ws_seq, ws_asg, ws_ret, ws_drop, ws_if, ws_par, ws_unp, ws_sto, ws_stoF, ws_for, wi_seq, wi_rng1, wi_enum, seqP_lst, seqP_klst, seqP_tup, seqP_ktup, rngP_i, enumP_lst, goP_nx, goP_ret, goP_ct, goP_brk, goP_er, bodyP_nx, bodyP_ret, bodyP_er, turnP_nx, turnP_ct, turnP_brk, turnP_ret, turnP_er, w_run, startD, List.map_cons, List.map_nil, List.length_cons, List.length_nil, List.replicate, List.cons_append, List.nil_append, List.append_nil, List.getElem?_cons_zero, List.getElem?_cons_succ, List.set_cons_zero, List.set_cons_succ, w_v, slotP_s, w_addI, w_subI, w_mulI, w_divI, w_modI, w_powI, w_ltI, w_leI, w_gtI, w_geI, w_isN, w_notN, isNon_n, isNon_i, isNon_t, isNon_s, w_intI, w_intB, w_absI, w_maxI, w_minI, decide_eq_true_eq, Bool.not_eq_true, if_true, if_false, ite_true, ite_false, reduceCtorEq, Bool.false_eq_true, Bool.not_true, Bool.not_false, eq_self_iff_true, true_and, and_true, w_eqI, w_neI, w_ixT, w_ixL, ixP_s, at2_0, at2_1, at2_m1, at4_0, at4_1, at4_2, at4_3, at4_m1, at7_0, at7_1, at7_2, at7_3, at7_4, at7_5, at7_6, at7_m1, oD_none, oD_some, tgP_2, w_appLoc, w_lenLoc, w_lenLst, w_meth, List.length_map, goM_nx, goM_ret, goM_ct, goM_brk, goM_er, wi_str, strP_s, b_names_in, row_0]
    rw [w_eqS kind_ok okS_set]
    unfold Row.kind rowD
    simp -implicitDefEqProofs only [WR_ok, WS_ok, WR_bind, w_c, w_bin, boolP_b, notP_b, w_not, w_and, w_or, w_if, w_chain, w_evs0, w_evs, w_call, w_callK, w_tup, w_lst, w_cell, cellP_lst, cellP_dct, negP_i, w_neg, w_fld, w_methC, w_make, w_makeZ, ws_next, ws_brk, ws_ct, ws_seq, ws_asg, ws_ret, ws_drop, ws_if, ws_par, ws_unp, ws_sto, ws_stoF, ws_for, wi_seq, wi_rng1, wi_enum, seqP_lst, seqP_klst, seqP_tup, seqP_ktup, rngP_i, enumP_lst, goP_nx, goP_ret, goP_ct, goP_brk, goP_er, bodyP_nx, bodyP_ret, bodyP_er, turnP_nx, turnP_ct, turnP_brk, turnP_ret, turnP_er, w_run, startD, List.map_cons, List.map_nil, List.length_cons, List.length_nil, List.replicate, List.cons_append, List.nil_append, List.append_nil, List.getElem?_cons_zero, List.getElem?_cons_succ, List.set_cons_zero, List.set_cons_succ, w_v, slotP_s, w_addI, w_subI, w_mulI, w_divI, w_modI, w_powI, w_ltI, w_leI, w_gtI, w_geI, w_isN, w_notN, isNon_n, isNon_i, isNon_t, isNon_s, w_intI, w_intB, w_absI, w_maxI, w_minI, decide_eq_true_eq, Bool.not_eq_true, if_true, if_false, ite_true, ite_false, reduceCtorEq, Bool.false_eq_true, Bool.not_true, Bool.not_false, eq_self_iff_true, true_and, and_true, w_eqI, w_neI, w_ixT, w_ixL, ixP_s, at2_0, at2_1, at2_m1, at4_0, at4_1, at4_2, at4_3, at4_m1, at7_0, at7_1, at7_2, at7_3, at7_4, at7_5, at7_6, at7_m1, oD_none, oD_some, tgP_2, w_appLoc, w_lenLoc, w_lenLst, w_meth, List.length_map, goM_nx, goM_ret, goM_ct, goM_brk, goM_er, wi_str, strP_s, w_comp]
    refine compStr (src := cdD) (tgt := fun c => .str c.1) (xs := cs) trivial (by unfold big; omega) (fun c _ => ?_) ?_
    · show tgT' _ _ _ (.tup [.str c.1, rgD c.2])
      simp -implicitDefEqProofs only [WR_ok, WS_ok, WR_bind, w_c, w_bin, boolP_b, notP_b, w_not, w_and, w_or, w_if, w_chain, w_evs0, w_evs, w_call, w_callK, w_tup, w_lst, w_cell, cellP_lst, cellP_dct, negP_i, w_neg, w_fld, w_methC, w_make, w_makeZ, ws_next, ws_brk, ws_ct, ws_seq, ws_asg, ws_ret, ws_drop, ws_if, ws_par, ws_unp, ws_sto, ws_stoF, ws_for, wi_seq, wi_rng1, wi_enum, seqP_lst, seqP_klst, seqP_tup, seqP_ktup, rngP_i, enumP_lst, goP_nx, goP_ret, goP_ct, goP_brk, goP_er, bodyP_nx, bodyP_ret, bodyP_er, turnP_nx, turnP_ct, turnP_brk, turnP_ret, turnP_er, w_run, startD, List.map_cons, List.map_nil, List.length_cons, List.length_nil, List.replicate, List.cons_append, List.nil_append, List.append_nil, List.getElem?_cons_zero, List.getElem?_cons_succ, List.set_cons_zero, List.set_cons_succ, w_v, slotP_s, w_addI, w_subI, w_mulI, w_divI, w_modI, w_powI, w_ltI, w_leI, w_gtI, w_geI, w_isN, w_notN, isNon_n, isNon_i, isNon_t, isNon_s, w_intI, w_intB, w_absI, w_maxI, w_minI, decide_eq_true_eq, Bool.not_eq_true, if_true, if_false, ite_true, ite_false, reduceCtorEq, Bool.false_eq_true, Bool.not_true, Bool.not_false, eq_self_iff_true, true_and, and_true, w_eqI, w_neI, w_ixT, w_ixL, ixP_s, at2_0, at2_1, at2_m1, at4_0, at4_1, at4_2, at4_3, at4_m1, at7_0, at7_1, at7_2, at7_3, at7_4, at7_5, at7_6, at7_m1, oD_none, oD_some, tgP_2, w_appLoc, w_lenLoc, w_lenLst, w_meth, List.length_map, goM_nx, goM_ret, goM_ct, goM_brk, goM_er, wi_str, strP_s, tgT'_2, wipeD]
    · simp -implicitDefEqProofs only [WR_ok, WS_ok, WR_bind, w_c, w_bin, boolP_b, notP_b, w_not, w_and, w_or, w_if, w_chain, w_evs0, w_evs, w_call, w_callK, w_tup, w_lst, w_cell, cellP_lst, cellP_dct, negP_i, w_neg, w_fld, w_methC, w_make, w_makeZ, ws_next, ws_brk, ws_ct, ws_seq, ws_asg, ws_ret, ws_drop, ws_if, ws_par, ws_unp, ws_sto, ws_stoF, ws_for, wi_seq, wi_rng1, wi_enum, seqP_lst, seqP_klst, seqP_tup, seqP_ktup, rngP_i, enumP_lst, goP_nx, goP_ret, goP_ct, goP_brk, goP_er, bodyP_nx, bodyP_ret, bodyP_er, turnP_nx, turnP_ct, turnP_brk, turnP_ret, turnP_er, w_run, startD, List.map_cons, List.map_nil, List.length_cons, List.length_nil, List.replicate, List.cons_append, List.nil_append, List.append_nil, List.getElem?_cons_zero, List.getElem?_cons_succ, List.set_cons_zero, List.set_cons_succ, w_v, slotP_s, w_addI, w_subI, w_mulI, w_divI, w_modI, w_powI, w_ltI, w_leI, w_gtI, w_geI, w_isN, w_notN, isNon_n, isNon_i, isNon_t, isNon_s, w_intI, w_intB, w_absI, w_maxI, w_minI, decide_eq_true_eq, Bool.not_eq_true, if_true, if_false, ite_true, ite_false, reduceCtorEq, Bool.false_eq_true, Bool.not_true, Bool.not_false, eq_self_iff_true, true_and, and_true, w_eqI, w_neI, w_ixT, w_ixL, ixP_s, at2_0, at2_1, at2_m1, at4_0, at4_1, at4_2, at4_3, at4_m1, at7_0, at7_1, at7_2, at7_3, at7_4, at7_5, at7_6, at7_m1, oD_none, oD_some, tgP_2, w_appLoc, w_lenLoc, w_lenLst, w_meth, List.length_map, goM_nx, goM_ret, goM_ct, goM_brk, goM_er, wi_str, strP_s, w_addL]
      refine ⟨by unfold big; omega, by simp [Row.names]⟩
  | step nm src f a g cs =>
    have hf : cs.length ≤ 2 := hf
    simp -implicitDefEqProofs only [WR_ok, WS_ok, WR_bind, w_c, w_bin, boolP_b, notP_b, w_not, w_and, w_or, w_if, w_chain, w_evs0, w_evs, w_call, w_callK, w_tup, w_lst, w_cell, cellP_lst, cellP_dct, negP_i, w_neg, w_fld, w_methC, w_make, w_makeZ, ws_next, ws_brk, ws_ct, ws_seq, ws_asg, ws_ret, ws_drop, ws_if, ws_par, ws_unp, ws_sto, ws_stoF, ws_for, wi_seq, wi_rng1, wi_enum, seqP_lst, seqP_klst, seqP_tup, seqP_ktup, rngP_i, enumP_lst, goP_nx, goP_ret, goP_ct, goP_brk, goP_er, bodyP_nx, bodyP_ret, bodyP_er, turnP_nx, turnP_ct, turnP_brk, turnP_ret, turnP_er, w_run, startD, List.map_cons, List.map_nil, List.length_cons, List.length_nil, List.replicate, List.cons_append, List.nil_append, List.append_nil, List.getElem?_cons_zero, List.getElem?_cons_succ, List.set_cons_zero, List.set_cons_succ, w_v, slotP_s, w_addI, w_subI, w_mulI, w_divI, w_modI, w_powI, w_ltI, w_leI, w_gtI, w_geI, w_isN, w_notN, isNon_n, isNon_i, isNon_t, isNon_s, w_intI, w_intB, w_absI, w_maxI, w_minI, decide_eq_true_eq, Bool.not_eq_true, if_true, if_false, ite_true, ite_false, reduceCtorEq, Bool.false_eq_true, Bool.not_true, Bool.not_false, eq_self_iff_true, true_and, and_true, w_eqI, w_neI, w_ixT, w_ixL, ixP_s, at2_0, at2_1, at2_m1, at4_0, at4_1, at4_2, at4_3, at4_m1, at7_0, at7_1, at7_2, at7_3, at7_4, at7_5, at7_6, at7_m1, oD_none, oD_some, tgP_2, w_appLoc, w_lenLoc, w_lenLst, w_meth, List.length_map, goM_nx, goM_ret, goM_ct, goM_brk, goM_er, wi_str, strP_s, b_names_in, row_0]
    rw [w_eqS kind_ok okS_set]
    unfold Row.kind rowD
    simp -implicitDefEqProofs only [WR_ok, WS_ok, WR_bind, w_c, w_bin, boolP_b, notP_b, w_not, w_and, w_or, w_if, w_chain, w_evs0, w_evs, w_call, w_callK, w_tup, w_lst, w_cell, cellP_lst, cellP_dct, negP_i, w_neg, w_fld, w_methC, w_make, w_makeZ, ws_next, ws_brk, ws_ct, ws_seq, ws_asg, ws_ret, ws_drop, ws_if, ws_par, ws_unp, ws_sto, ws_stoF, ws_for, wi_seq, wi_rng1, wi_enum, seqP_lst, seqP_klst, seqP_tup, seqP_ktup, rngP_i, enumP_lst, goP_nx, goP_ret, goP_ct, goP_brk, goP_er, bodyP_nx, bodyP_ret, bodyP_er, turnP_nx, turnP_ct, turnP_brk, turnP_ret, turnP_er, w_run, startD, List.map_cons, List.map_nil, List.length_cons, List.length_nil, List.replicate, List.cons_append, List.nil_append, List.append_nil, List.getElem?_cons_zero, List.getElem?_cons_succ, List.set_cons_zero, List.set_cons_succ, w_v, slotP_s, w_addI, w_subI, w_mulI, w_divI, w_modI, w_powI, w_ltI, w_leI, w_gtI, w_geI, w_isN, w_notN, isNon_n, isNon_i, isNon_t, isNon_s, w_intI, w_intB, w_absI, w_maxI, w_minI, decide_eq_true_eq, Bool.not_eq_true, if_true, if_false, ite_true, ite_false, reduceCtorEq, Bool.false_eq_true, Bool.not_true, Bool.not_false, eq_self_iff_true, true_and, and_true, w_eqI, w_neI, w_ixT, w_ixL, ixP_s, at2_0, at2_1, at2_m1, at4_0, at4_1, at4_2, at4_3, at4_m1, at7_0, at7_1, at7_2, at7_3, at7_4, at7_5, at7_6, at7_m1, oD_none, oD_some, tgP_2, w_appLoc, w_lenLoc, w_lenLst, w_meth, List.length_map, goM_nx, goM_ret, goM_ct, goM_brk, goM_er, wi_str, strP_s, w_comp]
    rw [if_neg set_step]
    refine compStr (src := cdD) (tgt := fun c => .str c.1) (xs := cs) trivial (by unfold big; omega) (fun c _ => ?_) ?_
    · show tgT' _ _ _ (.tup [.str c.1, rgD c.2])
      simp -implicitDefEqProofs only [WR_ok, WS_ok, WR_bind, w_c, w_bin, boolP_b, notP_b, w_not, w_and, w_or, w_if, w_chain, w_evs0, w_evs, w_call, w_callK, w_tup, w_lst, w_cell, cellP_lst, cellP_dct, negP_i, w_neg, w_fld, w_methC, w_make, w_makeZ, ws_next, ws_brk, ws_ct, ws_seq, ws_asg, ws_ret, ws_drop, ws_if, ws_par, ws_unp, ws_sto, ws_stoF, ws_for, wi_seq, wi_rng1, wi_enum, seqP_lst, seqP_klst, seqP_tup, seqP_ktup, rngP_i, enumP_lst, goP_nx, goP_ret, goP_ct, goP_brk, goP_er, bodyP_nx, bodyP_ret, bodyP_er, turnP_nx, turnP_ct, turnP_brk, turnP_ret, turnP_er, w_run, startD, List.map_cons, List.map_nil, List.length_cons, List.length_nil, List.replicate, List.cons_append, List.nil_append, List.append_nil, List.getElem?_cons_zero, List.getElem?_cons_succ, List.set_cons_zero, List.set_cons_succ, w_v, slotP_s, w_addI, w_subI, w_mulI, w_divI, w_modI, w_powI, w_ltI, w_leI, w_gtI, w_geI, w_isN, w_notN, isNon_n, isNon_i, isNon_t, isNon_s, w_intI, w_intB, w_absI, w_maxI, w_minI, decide_eq_true_eq, Bool.not_eq_true, if_true, if_false, ite_true, ite_false, reduceCtorEq, Bool.false_eq_true, Bool.not_true, Bool.not_false, eq_self_iff_true, true_and, and_true, w_eqI, w_neI, w_ixT, w_ixL, ixP_s, at2_0, at2_1, at2_m1, at4_0, at4_1, at4_2, at4_3, at4_m1, at7_0, at7_1, at7_2, at7_3, at7_4, at7_5, at7_6, at7_m1, oD_none, oD_some, tgP_2, w_appLoc, w_lenLoc, w_lenLst, w_meth, List.length_map, goM_nx, goM_ret, goM_ct, goM_brk, goM_er, wi_str, strP_s, tgT'_2, wipeD]
    · simp -implicitDefEqProofs only [WR_ok, WS_ok, WR_bind, w_c, w_bin, boolP_b, notP_b, w_not, w_and, w_or, w_if, w_chain, w_evs0, w_evs, w_call, w_callK, w_tup, w_lst, w_cell, cellP_lst, cellP_dct, negP_i, w_neg, w_fld, w_methC, w_make, w_makeZ, ws_next, ws_brk, ws_ct, ws_seq, ws_asg, ws_ret, ws_drop, ws_if, ws_par, ws_unp, ws_sto, ws_stoF, ws_for, wi_seq, wi_rng1, wi_enum, seqP_lst, seqP_klst, seqP_tup, seqP_ktup, rngP_i, enumP_lst, goP_nx, goP_ret, goP_ct, goP_brk, goP_er, bodyP_nx, bodyP_ret, bodyP_er, turnP_nx, turnP_ct, turnP_brk, turnP_ret, turnP_er, w_run, startD, List.map_cons, List.map_nil, List.length_cons, List.length_nil, List.replicate, List.cons_append, List.nil_append, List.append_nil, List.getElem?_cons_zero, List.getElem?_cons_succ, List.set_cons_zero, List.set_cons_succ, w_v, slotP_s, w_addI, w_subI, w_mulI, w_divI, w_modI, w_powI, w_ltI, w_leI, w_gtI, w_geI, w_isN, w_notN, isNon_n, isNon_i, isNon_t, isNon_s, w_intI, w_intB, w_absI, w_maxI, w_minI, decide_eq_true_eq, Bool.not_eq_true, if_true, if_false, ite_true, ite_false, reduceCtorEq, Bool.false_eq_true, Bool.not_true, Bool.not_false, eq_self_iff_true, true_and, and_true, w_eqI, w_neI, w_ixT, w_ixL, ixP_s, at2_0, at2_1, at2_m1, at4_0, at4_1, at4_2, at4_3, at4_m1, at7_0, at7_1, at7_2, at7_3, at7_4, at7_5, at7_6, at7_m1, oD_none, oD_some, tgP_2, w_appLoc, w_lenLoc, w_lenLst, w_meth, List.length_map, goM_nx, goM_ret, goM_ct, goM_brk, goM_er, wi_str, strP_s, w_addL]
      refine ⟨by unfold big; omega, by simp [Row.names]⟩
def Row.rg : Row → Rg
  | .set _ g _ => g
  | .step _ _ _ _ g _ => g
theorem spec_ranges_in {S : List Cell} {row : Row} (hf : row.cs.length ≤ 2) : WR (G_ranges_in [rowD row] S) (fun d S' => d = .lst ((row.rg :: row.cs.map (·.2)).map rgD) ∧ S' = S) E0 := by
  unfold G_ranges_in
  cases row with
  | set nm g cs =>
    have hf : cs.length ≤ 2 := hf
    simp -implicitDefEqProofs only [WR_ok, WS_ok, WR_bind, w_c, w_bin, boolP_b, notP_b, w_not, w_and, w_or, w_if, w_chain, w_evs0, w_evs, w_call, w_callK, w_tup, w_lst, w_cell, cellP_lst, cellP_dct, negP_i, w_neg, w_fld, w_methC, w_make, w_makeZ, ws_next, ws_brk, ws_ct, ws_seq, ws_asg, ws_ret, ws_drop, ws_if, ws_par, ws_unp, ws_sto, ws_stoF, ws_for, wi_seq, wi_rng1, wi_enum, seqP_lst, seqP_klst, seqP_tup, seqP_ktup, rngP_i, enumP_lst, goP_nx, goP_ret, goP_ct, goP_brk, goP_er, bodyP_nx, bodyP_ret, bodyP_er, turnP_nx, turnP_ct, turnP_brk, turnP_ret, turnP_er, w_run, startD, List.map_cons, List.map_nil, List.length_cons, List.length_nil, List.replicate, List.cons_append, List.nil_append, List.append_nil, List.getElem?_cons_zero, List.getElem?_cons_succ, List.set_cons_zero, List.set_cons_succ, w_v, slotP_s, w_addI, w_subI, w_mulI, w_divI, w_modI, w_powI, w_ltI, w_leI, w_gtI, w_geI, w_isN, w_notN, isNon_n, isNon_i, isNon_t, isNon_s, w_intI, w_intB, w_absI, w_maxI, w_minI, decide_eq_true_eq, Bool.not_eq_true, if_true, if_false, ite_true, ite_false, reduceCtorEq, Bool.false_eq_true, Bool.not_true, Bool.not_false, eq_self_iff_true, true_and, and_true, w_eqI, w_neI, w_ixT, w_ixL, ixP_s, at2_0, at2_1, at2_m1, at4_0, at4_1, at4_2, at4_3, at4_m1, at7_0, at7_1, at7_2, at7_3, at7_4, at7_5, at7_6, at7_m1, oD_none, oD_some, tgP_2, w_appLoc, w_lenLoc, w_lenLst, w_meth, List.length_map, goM_nx, goM_ret, goM_ct, goM_brk, goM_er, wi_str, strP_s, b_ranges_in, row_0]
    rw [w_eqS kind_ok okS_set]
    unfold Row.kind rowD
    simp -implicitDefEqProofs only [WR_ok, WS_ok, WR_bind, w_c, w_bin, boolP_b, notP_b, w_not, w_and, w_or, w_if, w_chain, w_evs0, w_evs, w_call, w_callK, w_tup, w_lst, w_cell, cellP_lst, cellP_dct, negP_i, w_neg, w_fld, w_methC, w_make, w_makeZ, ws_next, ws_brk, ws_ct, ws_seq, ws_asg, ws_ret, ws_drop, ws_if, ws_par, ws_unp, ws_sto, ws_stoF, ws_for, wi_seq, wi_rng1, wi_enum, seqP_lst, seqP_klst, seqP_tup, seqP_ktup, rngP_i, enumP_lst, goP_nx, goP_ret, goP_ct, goP_brk, goP_er, bodyP_nx, bodyP_ret, bodyP_er, turnP_nx, turnP_ct, turnP_brk, turnP_ret, turnP_er, w_run, startD, List.map_cons, List.map_nil, List.length_cons, List.length_nil, List.replicate, List.cons_append, List.nil_append, List.append_nil, List.getElem?_cons_zero, List.getElem?_cons_succ, List.set_cons_zero, List.set_cons_succ, w_v, slotP_s, w_addI, w_subI, w_mulI, w_divI, w_modI, w_powI, w_ltI, w_leI, w_gtI, w_geI, w_isN, w_notN, isNon_n, isNon_i, isNon_t, isNon_s, w_intI, w_intB, w_absI, w_maxI, w_minI, decide_eq_true_eq, Bool.not_eq_true, if_true, if_false, ite_true, ite_false, reduceCtorEq, Bool.false_eq_true, Bool.not_true, Bool.not_false, eq_self_iff_true, true_and, and_true, w_eqI, w_neI, w_ixT, w_ixL, ixP_s, at2_0, at2_1, at2_m1, at4_0, at4_1, at4_2, at4_3, at4_m1, at7_0, at7_1, at7_2, at7_3, at7_4, at7_5, at7_6, at7_m1, oD_none, oD_some, tgP_2, w_appLoc, w_lenLoc, w_lenLst, w_meth, List.length_map, goM_nx, goM_ret, goM_ct, goM_brk, goM_er, wi_str, strP_s, w_comp]
    refine compStr (src := cdD) (tgt := fun c => rgD c.2) (xs := cs) trivial (by unfold big; omega) (fun c _ => ?_) ?_
    · show tgT' _ _ _ (.tup [.str c.1, rgD c.2])
      simp -implicitDefEqProofs only [WR_ok, WS_ok, WR_bind, w_c, w_bin, boolP_b, notP_b, w_not, w_and, w_or, w_if, w_chain, w_evs0, w_evs, w_call, w_callK, w_tup, w_lst, w_cell, cellP_lst, cellP_dct, negP_i, w_neg, w_fld, w_methC, w_make, w_makeZ, ws_next, ws_brk, ws_ct, ws_seq, ws_asg, ws_ret, ws_drop, ws_if, ws_par, ws_unp, ws_sto, ws_stoF, ws_for, wi_seq, wi_rng1, wi_enum, seqP_lst, seqP_klst, seqP_tup, seqP_ktup, rngP_i, enumP_lst, goP_nx, goP_ret, goP_ct, goP_brk, goP_er, bodyP_nx, bodyP_ret, bodyP_er, turnP_nx, turnP_ct, turnP_brk, turnP_ret, turnP_er, w_run, startD, List.map_cons, List.map_nil, List.length_cons, List.length_nil, List.replicate, List.cons_append, List.nil_append, List.append_nil, List.getElem?_cons_zero, List.getElem?_cons_succ, List.set_cons_zero, List.set_cons_succ, w_v, slotP_s, w_addI, w_subI, w_mulI, w_divI, w_modI, w_powI, w_ltI, w_leI, w_gtI, w_geI, w_isN, w_notN, isNon_n, isNon_i, isNon_t, isNon_s, w_intI, w_intB, w_absI, w_maxI, w_minI, decide_eq_true_eq, Bool.not_eq_true, if_true, if_false, ite_true, ite_false, reduceCtorEq, Bool.false_eq_true, Bool.not_true, Bool.not_false, eq_self_iff_true, true_and, and_true, w_eqI, w_neI, w_ixT, w_ixL, ixP_s, at2_0, at2_1, at2_m1, at4_0, at4_1, at4_2, at4_3, at4_m1, at7_0, at7_1, at7_2, at7_3, at7_4, at7_5, at7_6, at7_m1, oD_none, oD_some, tgP_2, w_appLoc, w_lenLoc, w_lenLst, w_meth, List.length_map, goM_nx, goM_ret, goM_ct, goM_brk, goM_er, wi_str, strP_s, tgT'_2, wipeD]
    · simp -implicitDefEqProofs only [WR_ok, WS_ok, WR_bind, w_c, w_bin, boolP_b, notP_b, w_not, w_and, w_or, w_if, w_chain, w_evs0, w_evs, w_call, w_callK, w_tup, w_lst, w_cell, cellP_lst, cellP_dct, negP_i, w_neg, w_fld, w_methC, w_make, w_makeZ, ws_next, ws_brk, ws_ct, ws_seq, ws_asg, ws_ret, ws_drop, ws_if, ws_par, ws_unp, ws_sto, ws_stoF, ws_for, wi_seq, wi_rng1, wi_enum, seqP_lst, seqP_klst, seqP_tup, seqP_ktup, rngP_i, enumP_lst, goP_nx, goP_ret, goP_ct, goP_brk, goP_er, bodyP_nx, bodyP_ret, bodyP_er, turnP_nx, turnP_ct, turnP_brk, turnP_ret, turnP_er, w_run, startD, List.map_cons, List.map_nil, List.length_cons, List.length_nil, List.replicate, List.cons_append, List.nil_append, List.append_nil, List.getElem?_cons_zero, List.getElem?_cons_succ, List.set_cons_zero, List.set_cons_succ, w_v, slotP_s, w_addI, w_subI, w_mulI, w_divI, w_modI, w_powI, w_ltI, w_leI, w_gtI, w_geI, w_isN, w_notN, isNon_n, isNon_i, isNon_t, isNon_s, w_intI, w_intB, w_absI, w_maxI, w_minI, decide_eq_true_eq, Bool.not_eq_true, if_true, if_false, ite_true, ite_false, reduceCtorEq, Bool.false_eq_true, Bool.not_true, Bool.not_false, eq_self_iff_true, true_and, and_true, w_eqI, w_neI, w_ixT, w_ixL, ixP_s, at2_0, at2_1, at2_m1, at4_0, at4_1, at4_2, at4_3, at4_m1, at7_0, at7_1, at7_2, at7_3, at7_4, at7_5, at7_6, at7_m1, oD_none, oD_some, tgP_2, w_appLoc, w_lenLoc, w_lenLst, w_meth, List.length_map, goM_nx, goM_ret, goM_ct, goM_brk, goM_er, wi_str, strP_s, w_addL]
      refine ⟨by unfold big; omega, by simp [Row.rg, Row.cs]⟩
  | step nm src f a g cs =>
    have hf : cs.length ≤ 2 := hf
    simp -implicitDefEqProofs only [WR_ok, WS_ok, WR_bind, w_c, w_bin, boolP_b, notP_b, w_not, w_and, w_or, w_if, w_chain, w_evs0, w_evs, w_call, w_callK, w_tup, w_lst, w_cell, cellP_lst, cellP_dct, negP_i, w_neg, w_fld, w_methC, w_make, w_makeZ, ws_next, ws_brk, ws_ct, ws_seq, ws_asg, ws_ret, ws_drop, ws_if, ws_par, ws_unp, ws_sto, ws_stoF, ws_for, wi_seq, wi_rng1, wi_enum, seqP_lst, seqP_klst, seqP_tup, seqP_ktup, rngP_i, enumP_lst, goP_nx, goP_ret, goP_ct, goP_brk, goP_er, bodyP_nx, bodyP_ret, bodyP_er, turnP_nx, turnP_ct, turnP_brk, turnP_ret, turnP_er, w_run, startD, List.map_cons, List.map_nil, List.length_cons, List.length_nil, List.replicate, List.cons_append, List.nil_append, List.append_nil, List.getElem?_cons_zero, List.getElem?_cons_succ, List.set_cons_zero, List.set_cons_succ, w_v, slotP_s, w_addI, w_subI, w_mulI, w_divI, w_modI, w_powI, w_ltI, w_leI, w_gtI, w_geI, w_isN, w_notN, isNon_n, isNon_i, isNon_t, isNon_s, w_intI, w_intB, w_absI, w_maxI, w_minI, decide_eq_true_eq, Bool.not_eq_true, if_true, if_false, ite_true, ite_false, reduceCtorEq, Bool.false_eq_true, Bool.not_true, Bool.not_false, eq_self_iff_true, true_and, and_true, w_eqI, w_neI, w_ixT, w_ixL, ixP_s, at2_0, at2_1, at2_m1, at4_0, at4_1, at4_2, at4_3, at4_m1, at7_0, at7_1, at7_2, at7_3, at7_4, at7_5, at7_6, at7_m1, oD_none, oD_some, tgP_2, w_appLoc, w_lenLoc, w_lenLst, w_meth, List.length_map, goM_nx, goM_ret, goM_ct, goM_brk, goM_er, wi_str, strP_s, b_ranges_in, row_0]
    rw [w_eqS kind_ok okS_set]
    unfold Row.kind rowD
    simp -implicitDefEqProofs only [WR_ok, WS_ok, WR_bind, w_c, w_bin, boolP_b, notP_b, w_not, w_and, w_or, w_if, w_chain, w_evs0, w_evs, w_call, w_callK, w_tup, w_lst, w_cell, cellP_lst, cellP_dct, negP_i, w_neg, w_fld, w_methC, w_make, w_makeZ, ws_next, ws_brk, ws_ct, ws_seq, ws_asg, ws_ret, ws_drop, ws_if, ws_par, ws_unp, ws_sto, ws_stoF, ws_for, wi_seq, wi_rng1, wi_enum, seqP_lst, seqP_klst, seqP_tup, seqP_ktup, rngP_i, enumP_lst, goP_nx, goP_ret, goP_ct, goP_brk, goP_er, bodyP_nx, bodyP_ret, bodyP_er, turnP_nx, turnP_ct, turnP_brk, turnP_ret, turnP_er, w_run, startD, List.map_cons, List.map_nil, List.length_cons, List.length_nil, List.replicate, List.cons_append, List.nil_append, List.append_nil, List.getElem?_cons_zero, List.getElem?_cons_succ, List.set_cons_zero, List.set_cons_succ, w_v, slotP_s, w_addI, w_subI, w_mulI, w_divI, w_modI, w_powI, w_ltI, w_leI, w_gtI, w_geI, w_isN, w_notN, isNon_n, isNon_i, isNon_t, isNon_s, w_intI, w_intB, w_absI, w_maxI, w_minI, decide_eq_true_eq, Bool.not_eq_true, if_true, if_false, ite_true, ite_false, reduceCtorEq, Bool.false_eq_true, Bool.not_true, Bool.not_false, eq_self_iff_true, true_and, and_true, w_eqI, w_neI, w_ixT, w_ixL, ixP_s, at2_0, at2_1, at2_m1, at4_0, at4_1, at4_2, at4_3, at4_m1, at7_0, at7_1, at7_2, at7_3, at7_4, at7_5, at7_6, at7_m1, oD_none, oD_some, tgP_2, w_appLoc, w_lenLoc, w_lenLst, w_meth, List.length_map, goM_nx, goM_ret, goM_ct, goM_brk, goM_er, wi_str, strP_s, w_comp]
    rw [if_neg set_step]
    refine compStr (src := cdD) (tgt := fun c => rgD c.2) (xs := cs) trivial (by unfold big; omega) (fun c _ => ?_) ?_
    · show tgT' _ _ _ (.tup [.str c.1, rgD c.2])
      simp -implicitDefEqProofs only [WR_ok, WS_ok, WR_bind, w_c, w_bin, boolP_b, notP_b, w_not, w_and, w_or, w_if, w_chain, w_evs0, w_evs, w_call, w_callK, w_tup, w_lst, w_cell, cellP_lst, cellP_dct, negP_i, w_neg, w_fld, w_methC, w_make, w_makeZ, ws_next, ws_brk, ws_ct, ws_seq, ws_asg, ws_ret, ws_drop, ws_if, ws_par, ws_unp, ws_sto, ws_stoF, ws_for, wi_seq, wi_rng1, wi_enum, seqP_lst, seqP_klst, seqP_tup, seqP_ktup, rngP_i, enumP_lst, goP_nx, goP_ret, goP_ct, goP_brk, goP_er, bodyP_nx, bodyP_ret, bodyP_er, turnP_nx, turnP_ct, turnP_brk, turnP_ret, turnP_er, w_run, startD, List.map_cons, List.map_nil, List.length_cons, List.length_nil, List.replicate, List.cons_append, List.nil_append, List.append_nil, List.getElem?_cons_zero, List.getElem?_cons_succ, List.set_cons_zero, List.set_cons_succ, w_v, slotP_s, w_addI, w_subI, w_mulI, w_divI, w_modI, w_powI, w_ltI, w_leI, w_gtI, w_geI, w_isN, w_notN, isNon_n, isNon_i, isNon_t, isNon_s, w_intI, w_intB, w_absI, w_maxI, w_minI, decide_eq_true_eq, Bool.not_eq_true, if_true, if_false, ite_true, ite_false, reduceCtorEq, Bool.false_eq_true, Bool.not_true, Bool.not_false, eq_self_iff_true, true_and, and_true, w_eqI, w_neI, w_ixT, w_ixL, ixP_s, at2_0, at2_1, at2_m1, at4_0, at4_1, at4_2, at4_3, at4_m1, at7_0, at7_1, at7_2, at7_3, at7_4, at7_5, at7_6, at7_m1, oD_none, oD_some, tgP_2, w_appLoc, w_lenLoc, w_lenLst, w_meth, List.length_map, goM_nx, goM_ret, goM_ct, goM_brk, goM_er, wi_str, strP_s, tgT'_2, wipeD]
    · simp -implicitDefEqProofs only [WR_ok, WS_ok, WR_bind, w_c, w_bin, boolP_b, notP_b, w_not, w_and, w_or, w_if, w_chain, w_evs0, w_evs, w_call, w_callK, w_tup, w_lst, w_cell, cellP_lst, cellP_dct, negP_i, w_neg, w_fld, w_methC, w_make, w_makeZ, ws_next, ws_brk, ws_ct, ws_seq, ws_asg, ws_ret, ws_drop, ws_if, ws_par, ws_unp, ws_sto, ws_stoF, ws_for, wi_seq, wi_rng1, wi_enum, seqP_lst, seqP_klst, seqP_tup, seqP_ktup, rngP_i, enumP_lst, goP_nx, goP_ret, goP_ct, goP_brk, goP_er, bodyP_nx, bodyP_ret, bodyP_er, turnP_nx, turnP_ct, turnP_brk, turnP_ret, turnP_er, w_run, startD, List.map_cons, List.map_nil, List.length_cons, List.length_nil, List.replicate, List.cons_append, List.nil_append, List.append_nil, List.getElem?_cons_zero, List.getElem?_cons_succ, List.set_cons_zero, List.set_cons_succ, w_v, slotP_s, w_addI, w_subI, w_mulI, w_divI, w_modI, w_powI, w_ltI, w_leI, w_gtI, w_geI, w_isN, w_notN, isNon_n, isNon_i, isNon_t, isNon_s, w_intI, w_intB, w_absI, w_maxI, w_minI, decide_eq_true_eq, Bool.not_eq_true, if_true, if_false, ite_true, ite_false, reduceCtorEq, Bool.false_eq_true, Bool.not_true, Bool.not_false, eq_self_iff_true, true_and, and_true, w_eqI, w_neI, w_ixT, w_ixL, ixP_s, at2_0, at2_1, at2_m1, at4_0, at4_1, at4_2, at4_3, at4_m1, at7_0, at7_1, at7_2, at7_3, at7_4, at7_5, at7_6, at7_m1, oD_none, oD_some, tgP_2, w_appLoc, w_lenLoc, w_lenLst, w_meth, List.length_map, goM_nx, goM_ret, goM_ct, goM_brk, goM_er, wi_str, strP_s, w_addL]
      refine ⟨by unfold big; omega, by simp [Row.rg, Row.cs]⟩
theorem RowOk.rgs {B : Int} {ws : List Str} {row : Row} (h : RowOk B ws row) : ∀ g ∈ row.rg :: row.cs.map (·.2), rgOk g := by
  intro g hg
  rcases List.mem_cons.mp hg with e | e
  · subst e
    have := h.rg
    cases row with
    | set _ _ _ => exact this.1
    | step _ _ _ _ _ _ => exact this.2.2.2.1
  · obtain ⟨c, hc, rfl⟩ := List.mem_map.mp e
    exact (h.cs c hc).1
theorem spec_is_rule {S : List Cell} {row : Row} {ws : List Str} {B : Int} (ok : RowOk B ws row) : WR (G_is_rule [rowD row, .lst (ws.map D.str)] S) (fun d S' => d = .bl true ∧ S' = S) E0 := by
  unfold G_is_rule
  rw [w_run]
  unfold b_is_rule
  have hnl : row.names.length ≤ 4 := by
    have := ok.few
    cases row <;> simp [Row.names, Row.cs] at this ⊢ <;> omega
  refine ws_mid (fun ρ S' => ρ = [some (rowD row), some (.lst (ws.map D.str)), none, none] ∧ S' = S) ?_ ?_
  · simp -implicitDefEqProofs only [WR_ok, WS_ok, WR_bind, w_c, w_bin, boolP_b, notP_b, w_not, w_and, w_or, w_if, w_chain, w_evs0, w_evs, w_call, w_callK, w_tup, w_lst, w_cell, cellP_lst, cellP_dct, negP_i, w_neg, w_fld, w_methC, w_make, w_makeZ, ws_next, ws_brk, ws_ct, ws_seq, ws_asg, ws_ret, ws_drop, ws_if, ws_par, ws_unp, ws_sto, ws_stoF, ws_for, wi_seq, wi_rng1, wi_enum, seqP_lst, seqP_klst, seqP_tup, seqP_ktup, rngP_i, enumP_lst, goP_nx, goP_ret, goP_ct, goP_brk, goP_er, bodyP_nx, bodyP_ret, bodyP_er, turnP_nx, turnP_ct, turnP_brk, turnP_ret, turnP_er, w_run, startD, List.map_cons, List.map_nil, List.length_cons, List.length_nil, List.replicate, List.cons_append, List.nil_append, List.append_nil, List.getElem?_cons_zero, List.getElem?_cons_succ, List.set_cons_zero, List.set_cons_succ, w_v, slotP_s, w_addI, w_subI, w_mulI, w_divI, w_modI, w_powI, w_ltI, w_leI, w_gtI, w_geI, w_isN, w_notN, isNon_n, isNon_i, isNon_t, isNon_s, w_intI, w_intB, w_absI, w_maxI, w_minI, decide_eq_true_eq, Bool.not_eq_true, if_true, if_false, ite_true, ite_false, reduceCtorEq, Bool.false_eq_true, Bool.not_true, Bool.not_false, eq_self_iff_true, true_and, and_true, w_eqI, w_neI, w_ixT, w_ixL, ixP_s, at2_0, at2_1, at2_m1, at4_0, at4_1, at4_2, at4_3, at4_m1, at7_0, at7_1, at7_2, at7_3, at7_4, at7_5, at7_6, at7_m1, oD_none, oD_some, tgP_2, w_appLoc, w_lenLoc, w_lenLst, w_meth, List.length_map, goM_nx, goM_ret, goM_ct, goM_brk, goM_er, wi_str, strP_s, w_comp]
    refine (spec_names_in ok.few).call ?_
    rintro _ S1 ⟨rfl, rfl⟩
    simp -implicitDefEqProofs only [WR_ok, WS_ok, WR_bind, w_c, w_bin, boolP_b, notP_b, w_not, w_and, w_or, w_if, w_chain, w_evs0, w_evs, w_call, w_callK, w_tup, w_lst, w_cell, cellP_lst, cellP_dct, negP_i, w_neg, w_fld, w_methC, w_make, w_makeZ, ws_next, ws_brk, ws_ct, ws_seq, ws_asg, ws_ret, ws_drop, ws_if, ws_par, ws_unp, ws_sto, ws_stoF, ws_for, wi_seq, wi_rng1, wi_enum, seqP_lst, seqP_klst, seqP_tup, seqP_ktup, rngP_i, enumP_lst, goP_nx, goP_ret, goP_ct, goP_brk, goP_er, bodyP_nx, bodyP_ret, bodyP_er, turnP_nx, turnP_ct, turnP_brk, turnP_ret, turnP_er, w_run, startD, List.map_cons, List.map_nil, List.length_cons, List.length_nil, List.replicate, List.cons_append, List.nil_append, List.append_nil, List.getElem?_cons_zero, List.getElem?_cons_succ, List.set_cons_zero, List.set_cons_succ, w_v, slotP_s, w_addI, w_subI, w_mulI, w_divI, w_modI, w_powI, w_ltI, w_leI, w_gtI, w_geI, w_isN, w_notN, isNon_n, isNon_i, isNon_t, isNon_s, w_intI, w_intB, w_absI, w_maxI, w_minI, decide_eq_true_eq, Bool.not_eq_true, if_true, if_false, ite_true, ite_false, reduceCtorEq, Bool.false_eq_true, Bool.not_true, Bool.not_false, eq_self_iff_true, true_and, and_true, w_eqI, w_neI, w_ixT, w_ixL, ixP_s, at2_0, at2_1, at2_m1, at4_0, at4_1, at4_2, at4_3, at4_m1, at7_0, at7_1, at7_2, at7_3, at7_4, at7_5, at7_6, at7_m1, oD_none, oD_some, tgP_2, w_appLoc, w_lenLoc, w_lenLst, w_meth, List.length_map, goM_nx, goM_ret, goM_ct, goM_brk, goM_er, wi_str, strP_s]
    refine compStr (src := D.str) (tgt := fun _ => .bl true) (xs := row.names) trivial (by unfold big; omega) (fun x hx => ?_) ?_
    · simp -implicitDefEqProofs only [WR_ok, WS_ok, WR_bind, w_c, w_bin, boolP_b, notP_b, w_not, w_and, w_or, w_if, w_chain, w_evs0, w_evs, w_call, w_callK, w_tup, w_lst, w_cell, cellP_lst, cellP_dct, negP_i, w_neg, w_fld, w_methC, w_make, w_makeZ, ws_next, ws_brk, ws_ct, ws_seq, ws_asg, ws_ret, ws_drop, ws_if, ws_par, ws_unp, ws_sto, ws_stoF, ws_for, wi_seq, wi_rng1, wi_enum, seqP_lst, seqP_klst, seqP_tup, seqP_ktup, rngP_i, enumP_lst, goP_nx, goP_ret, goP_ct, goP_brk, goP_er, bodyP_nx, bodyP_ret, bodyP_er, turnP_nx, turnP_ct, turnP_brk, turnP_ret, turnP_er, w_run, startD, List.map_cons, List.map_nil, List.length_cons, List.length_nil, List.replicate, List.cons_append, List.nil_append, List.append_nil, List.getElem?_cons_zero, List.getElem?_cons_succ, List.set_cons_zero, List.set_cons_succ, w_v, slotP_s, w_addI, w_subI, w_mulI, w_divI, w_modI, w_powI, w_ltI, w_leI, w_gtI, w_geI, w_isN, w_notN, isNon_n, isNon_i, isNon_t, isNon_s, w_intI, w_intB, w_absI, w_maxI, w_minI, decide_eq_true_eq, Bool.not_eq_true, if_true, if_false, ite_true, ite_false, reduceCtorEq, Bool.false_eq_true, Bool.not_true, Bool.not_false, eq_self_iff_true, true_and, and_true, w_eqI, w_neI, w_ixT, w_ixL, ixP_s, at2_0, at2_1, at2_m1, at4_0, at4_1, at4_2, at4_3, at4_m1, at7_0, at7_1, at7_2, at7_3, at7_4, at7_5, at7_6, at7_m1, oD_none, oD_some, tgP_2, w_appLoc, w_lenLoc, w_lenLst, w_meth, List.length_map, goM_nx, goM_ret, goM_ct, goM_brk, goM_er, wi_str, strP_s, tgT'_1, wipeD, w_inStrs]
      rw [decide_eq_true (ok.nm x hx)]
    · rw [w_allTrue fun d hd => by obtain ⟨_, _, e⟩ := List.mem_map.mp hd; exact e.symm]
      simp -implicitDefEqProofs only [WR_ok, WS_ok, WR_bind, w_c, w_bin, boolP_b, notP_b, w_not, w_and, w_or, w_if, w_chain, w_evs0, w_evs, w_call, w_callK, w_tup, w_lst, w_cell, cellP_lst, cellP_dct, negP_i, w_neg, w_fld, w_methC, w_make, w_makeZ, ws_next, ws_brk, ws_ct, ws_seq, ws_asg, ws_ret, ws_drop, ws_if, ws_par, ws_unp, ws_sto, ws_stoF, ws_for, wi_seq, wi_rng1, wi_enum, seqP_lst, seqP_klst, seqP_tup, seqP_ktup, rngP_i, enumP_lst, goP_nx, goP_ret, goP_ct, goP_brk, goP_er, bodyP_nx, bodyP_ret, bodyP_er, turnP_nx, turnP_ct, turnP_brk, turnP_ret, turnP_er, w_run, startD, List.map_cons, List.map_nil, List.length_cons, List.length_nil, List.replicate, List.cons_append, List.nil_append, List.append_nil, List.getElem?_cons_zero, List.getElem?_cons_succ, List.set_cons_zero, List.set_cons_succ, w_v, slotP_s, w_addI, w_subI, w_mulI, w_divI, w_modI, w_powI, w_ltI, w_leI, w_gtI, w_geI, w_isN, w_notN, isNon_n, isNon_i, isNon_t, isNon_s, w_intI, w_intB, w_absI, w_maxI, w_minI, decide_eq_true_eq, Bool.not_eq_true, if_true, if_false, ite_true, ite_false, reduceCtorEq, Bool.false_eq_true, Bool.not_true, Bool.not_false, eq_self_iff_true, true_and, and_true, w_eqI, w_neI, w_ixT, w_ixL, ixP_s, at2_0, at2_1, at2_m1, at4_0, at4_1, at4_2, at4_3, at4_m1, at7_0, at7_1, at7_2, at7_3, at7_4, at7_5, at7_6, at7_m1, oD_none, oD_some, tgP_2, w_appLoc, w_lenLoc, w_lenLst, w_meth, List.length_map, goM_nx, goM_ret, goM_ct, goM_brk, goM_er, wi_str, strP_s]
      try simp
  rintro ρ S1 ⟨rfl, rfl⟩
  refine ws_mid (fun ρ S' => ρ = [some (rowD row), some (.lst (ws.map D.str)), none, none] ∧ S' = S1) ?_ ?_
  · simp -implicitDefEqProofs only [WR_ok, WS_ok, WR_bind, w_c, w_bin, boolP_b, notP_b, w_not, w_and, w_or, w_if, w_chain, w_evs0, w_evs, w_call, w_callK, w_tup, w_lst, w_cell, cellP_lst, cellP_dct, negP_i, w_neg, w_fld, w_methC, w_make, w_makeZ, ws_next, ws_brk, ws_ct, ws_seq, ws_asg, ws_ret, ws_drop, ws_if, ws_par, ws_unp, ws_sto, ws_stoF, ws_for, wi_seq, wi_rng1, wi_enum, seqP_lst, seqP_klst, seqP_tup, seqP_ktup, rngP_i, enumP_lst, goP_nx, goP_ret, goP_ct, goP_brk, goP_er, bodyP_nx, bodyP_ret, bodyP_er, turnP_nx, turnP_ct, turnP_brk, turnP_ret, turnP_er, w_run, startD, List.map_cons, List.map_nil, List.length_cons, List.length_nil, List.replicate, List.cons_append, List.nil_append, List.append_nil, List.getElem?_cons_zero, List.getElem?_cons_succ, List.set_cons_zero, List.set_cons_succ, w_v, slotP_s, w_addI, w_subI, w_mulI, w_divI, w_modI, w_powI, w_ltI, w_leI, w_gtI, w_geI, w_isN, w_notN, isNon_n, isNon_i, isNon_t, isNon_s, w_intI, w_intB, w_absI, w_maxI, w_minI, decide_eq_true_eq, Bool.not_eq_true, if_true, if_false, ite_true, ite_false, reduceCtorEq, Bool.false_eq_true, Bool.not_true, Bool.not_false, eq_self_iff_true, true_and, and_true, w_eqI, w_neI, w_ixT, w_ixL, ixP_s, at2_0, at2_1, at2_m1, at4_0, at4_1, at4_2, at4_3, at4_m1, at7_0, at7_1, at7_2, at7_3, at7_4, at7_5, at7_6, at7_m1, oD_none, oD_some, tgP_2, w_appLoc, w_lenLoc, w_lenLst, w_meth, List.length_map, goM_nx, goM_ret, goM_ct, goM_brk, goM_er, wi_str, strP_s, row_0]
    rw [w_neS kind_ok okS_set]
    simp -implicitDefEqProofs only [WR_ok, WS_ok, WR_bind, w_c, w_bin, boolP_b, notP_b, w_not, w_and, w_or, w_if, w_chain, w_evs0, w_evs, w_call, w_callK, w_tup, w_lst, w_cell, cellP_lst, cellP_dct, negP_i, w_neg, w_fld, w_methC, w_make, w_makeZ, ws_next, ws_brk, ws_ct, ws_seq, ws_asg, ws_ret, ws_drop, ws_if, ws_par, ws_unp, ws_sto, ws_stoF, ws_for, wi_seq, wi_rng1, wi_enum, seqP_lst, seqP_klst, seqP_tup, seqP_ktup, rngP_i, enumP_lst, goP_nx, goP_ret, goP_ct, goP_brk, goP_er, bodyP_nx, bodyP_ret, bodyP_er, turnP_nx, turnP_ct, turnP_brk, turnP_ret, turnP_er, w_run, startD, List.map_cons, List.map_nil, List.length_cons, List.length_nil, List.replicate, List.cons_append, List.nil_append, List.append_nil, List.getElem?_cons_zero, List.getElem?_cons_succ, List.set_cons_zero, List.set_cons_succ, w_v, slotP_s, w_addI, w_subI, w_mulI, w_divI, w_modI, w_powI, w_ltI, w_leI, w_gtI, w_geI, w_isN, w_notN, isNon_n, isNon_i, isNon_t, isNon_s, w_intI, w_intB, w_absI, w_maxI, w_minI, decide_eq_true_eq, Bool.not_eq_true, if_true, if_false, ite_true, ite_false, reduceCtorEq, Bool.false_eq_true, Bool.not_true, Bool.not_false, eq_self_iff_true, true_and, and_true, w_eqI, w_neI, w_ixT, w_ixL, ixP_s, at2_0, at2_1, at2_m1, at4_0, at4_1, at4_2, at4_3, at4_m1, at7_0, at7_1, at7_2, at7_3, at7_4, at7_5, at7_6, at7_m1, oD_none, oD_some, tgP_2, w_appLoc, w_lenLoc, w_lenLst, w_meth, List.length_map, goM_nx, goM_ret, goM_ct, goM_brk, goM_er, wi_str, strP_s]
    cases row with
    | set nm g cs => simp [Row.kind]
    | step nm src f a g cs =>
      rw [if_pos (by simp [Row.kind, set_step])]
      unfold rowD
      simp -implicitDefEqProofs only [WR_ok, WS_ok, WR_bind, w_c, w_bin, boolP_b, notP_b, w_not, w_and, w_or, w_if, w_chain, w_evs0, w_evs, w_call, w_callK, w_tup, w_lst, w_cell, cellP_lst, cellP_dct, negP_i, w_neg, w_fld, w_methC, w_make, w_makeZ, ws_next, ws_brk, ws_ct, ws_seq, ws_asg, ws_ret, ws_drop, ws_if, ws_par, ws_unp, ws_sto, ws_stoF, ws_for, wi_seq, wi_rng1, wi_enum, seqP_lst, seqP_klst, seqP_tup, seqP_ktup, rngP_i, enumP_lst, goP_nx, goP_ret, goP_ct, goP_brk, goP_er, bodyP_nx, bodyP_ret, bodyP_er, turnP_nx, turnP_ct, turnP_brk, turnP_ret, turnP_er, w_run, startD, List.map_cons, List.map_nil, List.length_cons, List.length_nil, List.replicate, List.cons_append, List.nil_append, List.append_nil, List.getElem?_cons_zero, List.getElem?_cons_succ, List.set_cons_zero, List.set_cons_succ, w_v, slotP_s, w_addI, w_subI, w_mulI, w_divI, w_modI, w_powI, w_ltI, w_leI, w_gtI, w_geI, w_isN, w_notN, isNon_n, isNon_i, isNon_t, isNon_s, w_intI, w_intB, w_absI, w_maxI, w_minI, decide_eq_true_eq, Bool.not_eq_true, if_true, if_false, ite_true, ite_false, reduceCtorEq, Bool.false_eq_true, Bool.not_true, Bool.not_false, eq_self_iff_true, true_and, and_true, w_eqI, w_neI, w_ixT, w_ixL, ixP_s, at2_0, at2_1, at2_m1, at4_0, at4_1, at4_2, at4_3, at4_m1, at7_0, at7_1, at7_2, at7_3, at7_4, at7_5, at7_6, at7_m1, oD_none, oD_some, tgP_2, w_appLoc, w_lenLoc, w_lenLst, w_meth, List.length_map, goM_nx, goM_ret, goM_ct, goM_brk, goM_er, wi_str, strP_s]
      rw [if_neg ok.rg.1]
      try simp
  rintro ρ S2 ⟨rfl, rfl⟩
  simp -implicitDefEqProofs only [WR_ok, WS_ok, WR_bind, w_c, w_bin, boolP_b, notP_b, w_not, w_and, w_or, w_if, w_chain, w_evs0, w_evs, w_call, w_callK, w_tup, w_lst, w_cell, cellP_lst, cellP_dct, negP_i, w_neg, w_fld, w_methC, w_make, w_makeZ, ws_next, ws_brk, ws_ct, ws_seq, ws_asg, ws_ret, ws_drop, ws_if, ws_par, ws_unp, ws_sto, ws_stoF, ws_for, wi_seq, wi_rng1, wi_enum, seqP_lst, seqP_klst, seqP_tup, seqP_ktup, rngP_i, enumP_lst, goP_nx, goP_ret, goP_ct, goP_brk, goP_er, bodyP_nx, bodyP_ret, bodyP_er, turnP_nx, turnP_ct, turnP_brk, turnP_ret, turnP_er, w_run, startD, List.map_cons, List.map_nil, List.length_cons, List.length_nil, List.replicate, List.cons_append, List.nil_append, List.append_nil, List.getElem?_cons_zero, List.getElem?_cons_succ, List.set_cons_zero, List.set_cons_succ, w_v, slotP_s, w_addI, w_subI, w_mulI, w_divI, w_modI, w_powI, w_ltI, w_leI, w_gtI, w_geI, w_isN, w_notN, isNon_n, isNon_i, isNon_t, isNon_s, w_intI, w_intB, w_absI, w_maxI, w_minI, decide_eq_true_eq, Bool.not_eq_true, if_true, if_false, ite_true, ite_false, reduceCtorEq, Bool.false_eq_true, Bool.not_true, Bool.not_false, eq_self_iff_true, true_and, and_true, w_eqI, w_neI, w_ixT, w_ixL, ixP_s, at2_0, at2_1, at2_m1, at4_0, at4_1, at4_2, at4_3, at4_m1, at7_0, at7_1, at7_2, at7_3, at7_4, at7_5, at7_6, at7_m1, oD_none, oD_some, tgP_2, w_appLoc, w_lenLoc, w_lenLst, w_meth, List.length_map, goM_nx, goM_ret, goM_ct, goM_brk, goM_er, wi_str, strP_s, w_comp]
  refine (spec_ranges_in ok.few).call ?_
  rintro _ S3 ⟨rfl, rfl⟩
  simp -implicitDefEqProofs only [WR_ok, WS_ok, WR_bind, w_c, w_bin, boolP_b, notP_b, w_not, w_and, w_or, w_if, w_chain, w_evs0, w_evs, w_call, w_callK, w_tup, w_lst, w_cell, cellP_lst, cellP_dct, negP_i, w_neg, w_fld, w_methC, w_make, w_makeZ, ws_next, ws_brk, ws_ct, ws_seq, ws_asg, ws_ret, ws_drop, ws_if, ws_par, ws_unp, ws_sto, ws_stoF, ws_for, wi_seq, wi_rng1, wi_enum, seqP_lst, seqP_klst, seqP_tup, seqP_ktup, rngP_i, enumP_lst, goP_nx, goP_ret, goP_ct, goP_brk, goP_er, bodyP_nx, bodyP_ret, bodyP_er, turnP_nx, turnP_ct, turnP_brk, turnP_ret, turnP_er, w_run, startD, List.map_cons, List.map_nil, List.length_cons, List.length_nil, List.replicate, List.cons_append, List.nil_append, List.append_nil, List.getElem?_cons_zero, List.getElem?_cons_succ, List.set_cons_zero, List.set_cons_succ, w_v, slotP_s, w_addI, w_subI, w_mulI, w_divI, w_modI, w_powI, w_ltI, w_leI, w_gtI, w_geI, w_isN, w_notN, isNon_n, isNon_i, isNon_t, isNon_s, w_intI, w_intB, w_absI, w_maxI, w_minI, decide_eq_true_eq, Bool.not_eq_true, if_true, if_false, ite_true, ite_false, reduceCtorEq, Bool.false_eq_true, Bool.not_true, Bool.not_false, eq_self_iff_true, true_and, and_true, w_eqI, w_neI, w_ixT, w_ixL, ixP_s, at2_0, at2_1, at2_m1, at4_0, at4_1, at4_2, at4_3, at4_m1, at7_0, at7_1, at7_2, at7_3, at7_4, at7_5, at7_6, at7_m1, oD_none, oD_some, tgP_2, w_appLoc, w_lenLoc, w_lenLst, w_meth, List.length_map, goM_nx, goM_ret, goM_ct, goM_brk, goM_er, wi_str, strP_s]
  refine compStr (src := rgD) (tgt := fun _ => .bl true) (xs := row.rg :: row.cs.map (·.2)) (c := none) trivial (by have := ok.few; simp [big]; omega) (fun g hg => ?_) ?_
  · have hn : isNon (rgD g) = false := rfl
    simp -implicitDefEqProofs only [WR_ok, WS_ok, WR_bind, w_c, w_bin, boolP_b, notP_b, w_not, w_and, w_or, w_if, w_chain, w_evs0, w_evs, w_call, w_callK, w_tup, w_lst, w_cell, cellP_lst, cellP_dct, negP_i, w_neg, w_fld, w_methC, w_make, w_makeZ, ws_next, ws_brk, ws_ct, ws_seq, ws_asg, ws_ret, ws_drop, ws_if, ws_par, ws_unp, ws_sto, ws_stoF, ws_for, wi_seq, wi_rng1, wi_enum, seqP_lst, seqP_klst, seqP_tup, seqP_ktup, rngP_i, enumP_lst, goP_nx, goP_ret, goP_ct, goP_brk, goP_er, bodyP_nx, bodyP_ret, bodyP_er, turnP_nx, turnP_ct, turnP_brk, turnP_ret, turnP_er, w_run, startD, List.map_cons, List.map_nil, List.length_cons, List.length_nil, List.replicate, List.cons_append, List.nil_append, List.append_nil, List.getElem?_cons_zero, List.getElem?_cons_succ, List.set_cons_zero, List.set_cons_succ, w_v, slotP_s, w_addI, w_subI, w_mulI, w_divI, w_modI, w_powI, w_ltI, w_leI, w_gtI, w_geI, w_isN, w_notN, isNon_n, isNon_i, isNon_t, isNon_s, w_intI, w_intB, w_absI, w_maxI, w_minI, decide_eq_true_eq, Bool.not_eq_true, if_true, if_false, ite_true, ite_false, reduceCtorEq, Bool.false_eq_true, Bool.not_true, Bool.not_false, eq_self_iff_true, true_and, and_true, w_eqI, w_neI, w_ixT, w_ixL, ixP_s, at2_0, at2_1, at2_m1, at4_0, at4_1, at4_2, at4_3, at4_m1, at7_0, at7_1, at7_2, at7_3, at7_4, at7_5, at7_6, at7_m1, oD_none, oD_some, tgP_2, w_appLoc, w_lenLoc, w_lenLst, w_meth, List.length_map, goM_nx, goM_ret, goM_ct, goM_brk, goM_er, wi_str, strP_s, tgT'_1, wipeD, hn]
    refine (spec_is_range (ok.rgs g hg)).call ?_
    rintro _ S4 ⟨rfl, rfl⟩
    try simp -implicitDefEqProofs only [WR_ok, WS_ok, WR_bind, w_c, w_bin, boolP_b, notP_b, w_not, w_and, w_or, w_if, w_chain, w_evs0, w_evs, w_call, w_callK, w_tup, w_lst, w_cell, cellP_lst, cellP_dct, negP_i, w_neg, w_fld, w_methC, w_make, w_makeZ, ws_next, ws_brk, ws_ct, ws_seq, ws_asg, ws_ret, ws_drop, ws_if, ws_par, ws_unp, ws_sto, ws_stoF, ws_for, wi_seq, wi_rng1, wi_enum, seqP_lst, seqP_klst, seqP_tup, seqP_ktup, rngP_i, enumP_lst, goP_nx, goP_ret, goP_ct, goP_brk, goP_er, bodyP_nx, bodyP_ret, bodyP_er, turnP_nx, turnP_ct, turnP_brk, turnP_ret, turnP_er, w_run, startD, List.map_cons, List.map_nil, List.length_cons, List.length_nil, List.replicate, List.cons_append, List.nil_append, List.append_nil, List.getElem?_cons_zero, List.getElem?_cons_succ, List.set_cons_zero, List.set_cons_succ, w_v, slotP_s, w_addI, w_subI, w_mulI, w_divI, w_modI, w_powI, w_ltI, w_leI, w_gtI, w_geI, w_isN, w_notN, isNon_n, isNon_i, isNon_t, isNon_s, w_intI, w_intB, w_absI, w_maxI, w_minI, decide_eq_true_eq, Bool.not_eq_true, if_true, if_false, ite_true, ite_false, reduceCtorEq, Bool.false_eq_true, Bool.not_true, Bool.not_false, eq_self_iff_true, true_and, and_true, w_eqI, w_neI, w_ixT, w_ixL, ixP_s, at2_0, at2_1, at2_m1, at4_0, at4_1, at4_2, at4_3, at4_m1, at7_0, at7_1, at7_2, at7_3, at7_4, at7_5, at7_6, at7_m1, oD_none, oD_some, tgP_2, w_appLoc, w_lenLoc, w_lenLst, w_meth, List.length_map, goM_nx, goM_ret, goM_ct, goM_brk, goM_er, wi_str, strP_s]
    all_goals exact ⟨rfl, rfl⟩
  · rw [w_allTrue fun d hd => by obtain ⟨_, _, e⟩ := List.mem_map.mp hd; exact e.symm]
    exact ⟨rfl, rfl⟩
theorem spec_check {S : List Cell} {ws : List Str} {rows : List Row} {B : Int} (hp : PureS S) (hw : ∀ w ∈ ws, w ∈ allW) (hnd : ws.Nodup) (hwl : ws.length ≤ 100) (hrows : ∀ row ∈ rows, RowOk B ws row) :
    WR (G_check_system [.lst (ws.map D.str), .lst (rows.map rowD)] S) (fun d S' => d = .non ∧ S' = S) E0 := by
  unfold G_check_system
  refine w_seal ?_
  rw [w_run]
  unfold b_check_system
  refine ws_mid (fun ρ S' => ∃ x y : Option D, ρ = [some (.lst (ws.map D.str)), some (.lst (rows.map rowD)), x, y, none, none] ∧ S' = S) ?_ ?_
  · simp -implicitDefEqProofs only [WR_ok, WS_ok, WR_bind, w_c, w_bin, boolP_b, notP_b, w_not, w_and, w_or, w_if, w_chain, w_evs0, w_evs, w_call, w_callK, w_tup, w_lst, w_cell, cellP_lst, cellP_dct, negP_i, w_neg, w_fld, w_methC, w_make, w_makeZ, ws_next, ws_brk, ws_ct, ws_seq, ws_asg, ws_ret, ws_drop, ws_if, ws_par, ws_unp, ws_sto, ws_stoF, ws_for, wi_seq, wi_rng1, wi_enum, seqP_lst, seqP_klst, seqP_tup, seqP_ktup, rngP_i, enumP_lst, goP_nx, goP_ret, goP_ct, goP_brk, goP_er, bodyP_nx, bodyP_ret, bodyP_er, turnP_nx, turnP_ct, turnP_brk, turnP_ret, turnP_er, w_run, startD, List.map_cons, List.map_nil, List.length_cons, List.length_nil, List.replicate, List.cons_append, List.nil_append, List.append_nil, List.getElem?_cons_zero, List.getElem?_cons_succ, List.set_cons_zero, List.set_cons_succ, w_v, slotP_s, w_addI, w_subI, w_mulI, w_divI, w_modI, w_powI, w_ltI, w_leI, w_gtI, w_geI, w_isN, w_notN, isNon_n, isNon_i, isNon_t, isNon_s, w_intI, w_intB, w_absI, w_maxI, w_minI, decide_eq_true_eq, Bool.not_eq_true, if_true, if_false, ite_true, ite_false, reduceCtorEq, Bool.false_eq_true, Bool.not_true, Bool.not_false, eq_self_iff_true, true_and, and_true, w_eqI, w_neI, w_ixT, w_ixL, ixP_s, at2_0, at2_1, at2_m1, at4_0, at4_1, at4_2, at4_3, at4_m1, at7_0, at7_1, at7_2, at7_3, at7_4, at7_5, at7_6, at7_m1, oD_none, oD_some, tgP_2, w_appLoc, w_lenLoc, w_lenLst, w_meth, List.length_map, goM_nx, goM_ret, goM_ct, goM_brk, goM_er, wi_str, strP_s]
    refine for_inv (fun i ρ S' => ∃ x y : Option D, ρ = [some (.lst (ws.map D.str)), some (.lst (rows.map rowD)), x, y, none, none] ∧ S' = S) ⟨none, none, rfl, rfl⟩ (fun _ _ _ _ => trivial) ?_ ?_
    · rintro i d ρ S1 hi ⟨x, y, rfl, rfl⟩
      rw [enumD_get, List.getElem?_map] at hi
      cases hwi : ws[i]? with
      | none => rw [hwi] at hi; cases hi
      | some w =>
        rw [hwi] at hi
        cases hi
        rw [Nat.zero_add, tgT'_2]
        have hil : i < ws.length := (List.getElem?_eq_some_iff.mp hwi).1
        have hsl : ∀ (P : D → List Cell → Prop) (E : Nat → D → List Cell → Prop) (S : List Cell), WR (opSl (.lst (ws.map D.str)) none (some (i : Int)) S) P E = P (.lst ((ws.take i).map D.str)) S := by
          intro P E S
          show P (.lst (cutD (ws.map D.str) none (some (i : Int)))) S = _
          rw [cutD_take (by simp; omega), List.map_take]
        have hni : ¬ w ∈ ws.take i := by
          intro hm
          obtain ⟨j, hj⟩ := List.getElem?_of_mem hm
          rw [List.getElem?_take] at hj
          split at hj
          · rename_i hji
            have := (List.getElem?_inj (by omega : j < ws.length) hnd).mp (hj.trans hwi.symm)
            omega
          · cases hj
        simp -implicitDefEqProofs only [WR_ok, WS_ok, WR_bind, w_c, w_bin, boolP_b, notP_b, w_not, w_and, w_or, w_if, w_chain, w_evs0, w_evs, w_call, w_callK, w_tup, w_lst, w_cell, cellP_lst, cellP_dct, negP_i, w_neg, w_fld, w_methC, w_make, w_makeZ, ws_next, ws_brk, ws_ct, ws_seq, ws_asg, ws_ret, ws_drop, ws_if, ws_par, ws_unp, ws_sto, ws_stoF, ws_for, wi_seq, wi_rng1, wi_enum, seqP_lst, seqP_klst, seqP_tup, seqP_ktup, rngP_i, enumP_lst, goP_nx, goP_ret, goP_ct, goP_brk, goP_er, bodyP_nx, bodyP_ret, bodyP_er, turnP_nx, turnP_ct, turnP_brk, turnP_ret, turnP_er, w_run, startD, List.map_cons, List.map_nil, List.length_cons, List.length_nil, List.replicate, List.cons_append, List.nil_append, List.append_nil, List.getElem?_cons_zero, List.getElem?_cons_succ, List.set_cons_zero, List.set_cons_succ, w_v, slotP_s, w_addI, w_subI, w_mulI, w_divI, w_modI, w_powI, w_ltI, w_leI, w_gtI, w_geI, w_isN, w_notN, isNon_n, isNon_i, isNon_t, isNon_s, w_intI, w_intB, w_absI, w_maxI, w_minI, decide_eq_true_eq, Bool.not_eq_true, if_true, if_false, ite_true, ite_false, reduceCtorEq, Bool.false_eq_true, Bool.not_true, Bool.not_false, eq_self_iff_true, true_and, and_true, w_eqI, w_neI, w_ixT, w_ixL, ixP_s, at2_0, at2_1, at2_m1, at4_0, at4_1, at4_2, at4_3, at4_m1, at7_0, at7_1, at7_2, at7_3, at7_4, at7_5, at7_6, at7_m1, oD_none, oD_some, tgP_2, w_appLoc, w_lenLoc, w_lenLst, w_meth, List.length_map, goM_nx, goM_ret, goM_ct, goM_brk, goM_er, wi_str, strP_s]
        refine (spec_is_name (hw w (List.mem_of_getElem? hwi))).call ?_
        rintro _ S2 ⟨rfl, rfl⟩
        simp -implicitDefEqProofs only [WR_ok, WS_ok, WR_bind, w_c, w_bin, boolP_b, notP_b, w_not, w_and, w_or, w_if, w_chain, w_evs0, w_evs, w_call, w_callK, w_tup, w_lst, w_cell, cellP_lst, cellP_dct, negP_i, w_neg, w_fld, w_methC, w_make, w_makeZ, ws_next, ws_brk, ws_ct, ws_seq, ws_asg, ws_ret, ws_drop, ws_if, ws_par, ws_unp, ws_sto, ws_stoF, ws_for, wi_seq, wi_rng1, wi_enum, seqP_lst, seqP_klst, seqP_tup, seqP_ktup, rngP_i, enumP_lst, goP_nx, goP_ret, goP_ct, goP_brk, goP_er, bodyP_nx, bodyP_ret, bodyP_er, turnP_nx, turnP_ct, turnP_brk, turnP_ret, turnP_er, w_run, startD, List.map_cons, List.map_nil, List.length_cons, List.length_nil, List.replicate, List.cons_append, List.nil_append, List.append_nil, List.getElem?_cons_zero, List.getElem?_cons_succ, List.set_cons_zero, List.set_cons_succ, w_v, slotP_s, w_addI, w_subI, w_mulI, w_divI, w_modI, w_powI, w_ltI, w_leI, w_gtI, w_geI, w_isN, w_notN, isNon_n, isNon_i, isNon_t, isNon_s, w_intI, w_intB, w_absI, w_maxI, w_minI, decide_eq_true_eq, Bool.not_eq_true, if_true, if_false, ite_true, ite_false, reduceCtorEq, Bool.false_eq_true, Bool.not_true, Bool.not_false, eq_self_iff_true, true_and, and_true, w_eqI, w_neI, w_ixT, w_ixL, ixP_s, at2_0, at2_1, at2_m1, at4_0, at4_1, at4_2, at4_3, at4_m1, at7_0, at7_1, at7_2, at7_3, at7_4, at7_5, at7_6, at7_m1, oD_none, oD_some, tgP_2, w_appLoc, w_lenLoc, w_lenLst, w_meth, List.length_map, goM_nx, goM_ret, goM_ct, goM_brk, goM_er, wi_str, strP_s, w_sl, w_part0, w_part, partP_i, hsl, w_inStrs]
        try rw [if_neg hni]
        exact ⟨_, _, rfl⟩
    · rintro ρ S1 ⟨x, y, rfl, rfl⟩
      exact ⟨x, y, rfl, rfl⟩
  rintro ρ S1 ⟨x, y, rfl, rfl⟩
  simp -implicitDefEqProofs only [WR_ok, WS_ok, WR_bind, w_c, w_bin, boolP_b, notP_b, w_not, w_and, w_or, w_if, w_chain, w_evs0, w_evs, w_call, w_callK, w_tup, w_lst, w_cell, cellP_lst, cellP_dct, negP_i, w_neg, w_fld, w_methC, w_make, w_makeZ, ws_next, ws_brk, ws_ct, ws_seq, ws_asg, ws_ret, ws_drop, ws_if, ws_par, ws_unp, ws_sto, ws_stoF, ws_for, wi_seq, wi_rng1, wi_enum, seqP_lst, seqP_klst, seqP_tup, seqP_ktup, rngP_i, enumP_lst, goP_nx, goP_ret, goP_ct, goP_brk, goP_er, bodyP_nx, bodyP_ret, bodyP_er, turnP_nx, turnP_ct, turnP_brk, turnP_ret, turnP_er, w_run, startD, List.map_cons, List.map_nil, List.length_cons, List.length_nil, List.replicate, List.cons_append, List.nil_append, List.append_nil, List.getElem?_cons_zero, List.getElem?_cons_succ, List.set_cons_zero, List.set_cons_succ, w_v, slotP_s, w_addI, w_subI, w_mulI, w_divI, w_modI, w_powI, w_ltI, w_leI, w_gtI, w_geI, w_isN, w_notN, isNon_n, isNon_i, isNon_t, isNon_s, w_intI, w_intB, w_absI, w_maxI, w_minI, decide_eq_true_eq, Bool.not_eq_true, if_true, if_false, ite_true, ite_false, reduceCtorEq, Bool.false_eq_true, Bool.not_true, Bool.not_false, eq_self_iff_true, true_and, and_true, w_eqI, w_neI, w_ixT, w_ixL, ixP_s, at2_0, at2_1, at2_m1, at4_0, at4_1, at4_2, at4_3, at4_m1, at7_0, at7_1, at7_2, at7_3, at7_4, at7_5, at7_6, at7_m1, oD_none, oD_some, tgP_2, w_appLoc, w_lenLoc, w_lenLst, w_meth, List.length_map, goM_nx, goM_ret, goM_ct, goM_brk, goM_er, wi_str, strP_s]
  refine for_inv (fun i ρ S' => ∃ z w : Option D, ρ = [some (.lst (ws.map D.str)), some (.lst (rows.map rowD)), x, y, z, w] ∧ S' = S1) ⟨none, none, rfl, rfl⟩ (fun _ _ _ _ => trivial) ?_ ?_
  · rintro i d ρ S2 hi ⟨z, w, rfl, rfl⟩
    rw [enumD_get, List.getElem?_map] at hi
    cases hwi : rows[i]? with
    | none => rw [hwi] at hi; cases hi
    | some row =>
      rw [hwi] at hi
      cases hi
      rw [Nat.zero_add, tgT'_2]
      simp -implicitDefEqProofs only [WR_ok, WS_ok, WR_bind, w_c, w_bin, boolP_b, notP_b, w_not, w_and, w_or, w_if, w_chain, w_evs0, w_evs, w_call, w_callK, w_tup, w_lst, w_cell, cellP_lst, cellP_dct, negP_i, w_neg, w_fld, w_methC, w_make, w_makeZ, ws_next, ws_brk, ws_ct, ws_seq, ws_asg, ws_ret, ws_drop, ws_if, ws_par, ws_unp, ws_sto, ws_stoF, ws_for, wi_seq, wi_rng1, wi_enum, seqP_lst, seqP_klst, seqP_tup, seqP_ktup, rngP_i, enumP_lst, goP_nx, goP_ret, goP_ct, goP_brk, goP_er, bodyP_nx, bodyP_ret, bodyP_er, turnP_nx, turnP_ct, turnP_brk, turnP_ret, turnP_er, w_run, startD, List.map_cons, List.map_nil, List.length_cons, List.length_nil, List.replicate, List.cons_append, List.nil_append, List.append_nil, List.getElem?_cons_zero, List.getElem?_cons_succ, List.set_cons_zero, List.set_cons_succ, w_v, slotP_s, w_addI, w_subI, w_mulI, w_divI, w_modI, w_powI, w_ltI, w_leI, w_gtI, w_geI, w_isN, w_notN, isNon_n, isNon_i, isNon_t, isNon_s, w_intI, w_intB, w_absI, w_maxI, w_minI, decide_eq_true_eq, Bool.not_eq_true, if_true, if_false, ite_true, ite_false, reduceCtorEq, Bool.false_eq_true, Bool.not_true, Bool.not_false, eq_self_iff_true, true_and, and_true, w_eqI, w_neI, w_ixT, w_ixL, ixP_s, at2_0, at2_1, at2_m1, at4_0, at4_1, at4_2, at4_3, at4_m1, at7_0, at7_1, at7_2, at7_3, at7_4, at7_5, at7_6, at7_m1, oD_none, oD_some, tgP_2, w_appLoc, w_lenLoc, w_lenLst, w_meth, List.length_map, goM_nx, goM_ret, goM_ct, goM_brk, goM_er, wi_str, strP_s]
      refine (spec_is_rule (hrows row (List.mem_of_getElem? hwi))).call ?_
      rintro _ S3 ⟨rfl, rfl⟩
      simp -implicitDefEqProofs only [WR_ok, WS_ok, WR_bind, w_c, w_bin, boolP_b, notP_b, w_not, w_and, w_or, w_if, w_chain, w_evs0, w_evs, w_call, w_callK, w_tup, w_lst, w_cell, cellP_lst, cellP_dct, negP_i, w_neg, w_fld, w_methC, w_make, w_makeZ, ws_next, ws_brk, ws_ct, ws_seq, ws_asg, ws_ret, ws_drop, ws_if, ws_par, ws_unp, ws_sto, ws_stoF, ws_for, wi_seq, wi_rng1, wi_enum, seqP_lst, seqP_klst, seqP_tup, seqP_ktup, rngP_i, enumP_lst, goP_nx, goP_ret, goP_ct, goP_brk, goP_er, bodyP_nx, bodyP_ret, bodyP_er, turnP_nx, turnP_ct, turnP_brk, turnP_ret, turnP_er, w_run, startD, List.map_cons, List.map_nil, List.length_cons, List.length_nil, List.replicate, List.cons_append, List.nil_append, List.append_nil, List.getElem?_cons_zero, List.getElem?_cons_succ, List.set_cons_zero, List.set_cons_succ, w_v, slotP_s, w_addI, w_subI, w_mulI, w_divI, w_modI, w_powI, w_ltI, w_leI, w_gtI, w_geI, w_isN, w_notN, isNon_n, isNon_i, isNon_t, isNon_s, w_intI, w_intB, w_absI, w_maxI, w_minI, decide_eq_true_eq, Bool.not_eq_true, if_true, if_false, ite_true, ite_false, reduceCtorEq, Bool.false_eq_true, Bool.not_true, Bool.not_false, eq_self_iff_true, true_and, and_true, w_eqI, w_neI, w_ixT, w_ixL, ixP_s, at2_0, at2_1, at2_m1, at4_0, at4_1, at4_2, at4_3, at4_m1, at7_0, at7_1, at7_2, at7_3, at7_4, at7_5, at7_6, at7_m1, oD_none, oD_some, tgP_2, w_appLoc, w_lenLoc, w_lenLst, w_meth, List.length_map, goM_nx, goM_ret, goM_ct, goM_brk, goM_er, wi_str, strP_s]
      exact ⟨_, _, rfl⟩
  · rintro ρ S2 ⟨z, w, rfl, rfl⟩
    simp -implicitDefEqProofs only [WR_ok, WS_ok, WR_bind, w_c, w_bin, boolP_b, notP_b, w_not, w_and, w_or, w_if, w_chain, w_evs0, w_evs, w_call, w_callK, w_tup, w_lst, w_cell, cellP_lst, cellP_dct, negP_i, w_neg, w_fld, w_methC, w_make, w_makeZ, ws_next, ws_brk, ws_ct, ws_seq, ws_asg, ws_ret, ws_drop, ws_if, ws_par, ws_unp, ws_sto, ws_stoF, ws_for, wi_seq, wi_rng1, wi_enum, seqP_lst, seqP_klst, seqP_tup, seqP_ktup, rngP_i, enumP_lst, goP_nx, goP_ret, goP_ct, goP_brk, goP_er, bodyP_nx, bodyP_ret, bodyP_er, turnP_nx, turnP_ct, turnP_brk, turnP_ret, turnP_er, w_run, startD, List.map_cons, List.map_nil, List.length_cons, List.length_nil, List.replicate, List.cons_append, List.nil_append, List.append_nil, List.getElem?_cons_zero, List.getElem?_cons_succ, List.set_cons_zero, List.set_cons_succ, w_v, slotP_s, w_addI, w_subI, w_mulI, w_divI, w_modI, w_powI, w_ltI, w_leI, w_gtI, w_geI, w_isN, w_notN, isNon_n, isNon_i, isNon_t, isNon_s, w_intI, w_intB, w_absI, w_maxI, w_minI, decide_eq_true_eq, Bool.not_eq_true, if_true, if_false, ite_true, ite_false, reduceCtorEq, Bool.false_eq_true, Bool.not_true, Bool.not_false, eq_self_iff_true, true_and, and_true, w_eqI, w_neI, w_ixT, w_ixL, ixP_s, at2_0, at2_1, at2_m1, at4_0, at4_1, at4_2, at4_3, at4_m1, at7_0, at7_1, at7_2, at7_3, at7_4, at7_5, at7_6, at7_m1, oD_none, oD_some, tgP_2, w_appLoc, w_lenLoc, w_lenLst, w_meth, List.length_map, goM_nx, goM_ret, goM_ct, goM_brk, goM_er, wi_str, strP_s]
    exact ⟨.non, rfl, by rw [List.take_length]; exact hp, rfl, by rw [List.take_length]⟩
def sysD (ws : List Str) (rows : List Row) : D := .obj 0 [.tup ((sortS ws).map D.str), .tup (rows.map rowD)]
theorem strsD_map (l : List Str) : strsD (l.map D.str) = some l := by
  induction l with
  | nil => rfl
  | cons a l ih =>
    show (strsD (l.map D.str)).map _ = _
    rw [ih]; rfl


theorem kn_kr : ¬ (("kept_names" : Str) = "kept_rules") := by decide +kernel
section
variable {P : D → List Cell → Prop} {E : Nat → D → List Cell → Prop} {S : List Cell} {a b : D}
theorem look_kn : look (fl 0) [a, b] ("kept_names" : Str) = some a := by
  show (if ("kept_names" : Str) = "kept_names" then some a else _) = _
  rw [if_pos rfl]
theorem look_kr : look (fl 0) [a, b] ("kept_rules" : Str) = some b := by
  show (if ("kept_names" : Str) = "kept_rules" then some a else (if ("kept_rules" : Str) = "kept_rules" then some b else none)) = _
  rw [if_neg kn_kr, if_pos rfl]
theorem get_kn : WR (getF fl 0 ("kept_names" : Str) (.obj 0 [a, b]) S) P E = P a S := by
  show WR (if 0 = 0 then (match look (fl 0) [a, b] ("kept_names" : Str) with | some d => Res.ok d S | none => .bad) else .bad) P E = _
  rw [if_pos rfl, look_kn]; rfl
theorem get_kr : WR (getF fl 0 ("kept_rules" : Str) (.obj 0 [a, b]) S) P E = P b S := by
  show WR (if 0 = 0 then (match look (fl 0) [a, b] ("kept_rules" : Str) with | some d => Res.ok d S | none => .bad) else .bad) P E = _
  rw [if_pos rfl, look_kr]; rfl
theorem w_sorted {ws : List Str} (h : ws.length < 64) : WR (bSorted [.lst (ws.map D.str)] S) P E = P (.lst ((sortS ws).map D.str)) S := by
  show WR (match strsD (ws.map D.str) with | some ss => (if ss.length < 64 then Res.ok (.lst ((sortS ss).map .str)) S else .bad) | none => .bad) P E = _
  rw [strsD_map]
  dsimp only
  rw [if_pos h]; rfl
theorem w_tupL {l : List D} : WR (bTuple [.lst l] S) P E = P (.tup l) S := rfl
end
theorem last_at {S : List Cell} {c : Cell} : (S ++ [c])[S.length]? = some c := by simp
theorem last_set {S : List Cell} {c c' : Cell} : (S ++ [c]).set S.length c' = S ++ [c'] := by
  rw [List.set_append_right _ _ (Nat.le_refl _), Nat.sub_self]; rfl
theorem set_kn {S : List Cell} {d : D} {ρ : Slots} {Ps : Fl → List Cell → Prop} : setFP 0 ("kept_names" : Str) (.loc S.length) d ρ Ps (S ++ [.obj 0 [] []]) = Ps (.nx ρ) (S ++ [.obj 0 ["kept_names"] [d]]) := by
  unfold setFP setF
  dsimp only
  rw [last_at]
  dsimp only
  rw [if_pos ⟨rfl, by decide⟩, last_set, if_neg (by simp)]
  rfl
theorem set_kr {S : List Cell} {d e : D} {ρ : Slots} {Ps : Fl → List Cell → Prop} : setFP 0 ("kept_rules" : Str) (.loc S.length) e ρ Ps (S ++ [.obj 0 ["kept_names"] [d]]) = Ps (.nx ρ) (S ++ [.obj 0 ["kept_names", "kept_rules"] [d, e]]) := by
  unfold setFP setF
  dsimp only
  rw [last_at]
  dsimp only
  rw [if_pos ⟨rfl, by decide⟩, last_set, if_neg (by simp only [List.mem_cons, List.not_mem_nil, or_false]; exact fun z => kn_kr z.symm)]
  show Ps (.nx ρ) (S ++ [.obj 0 ([("kept_names" : Str)] ++ [("kept_rules" : Str)]) (if ("kept_names" : Str) = "kept_rules" then _ else d :: putDs [] [] ("kept_rules" : Str) e)]) = _
  rw [if_neg kn_kr]
  rfl
theorem spec_init {S : List Cell} {ws : List Str} {rows : List Row} {B : Int} (hp : PureS S) (hw : ∀ w ∈ ws, w ∈ allW) (hnd : ws.Nodup) (hwl : ws.length ≤ 60) (hrows : ∀ row ∈ rows, RowOk B ws row) :
    WR (G_System_init_ [.loc S.length, .lst (ws.map D.str), .lst (rows.map rowD)] (S ++ [.obj 0 [] []])) (fun d S' => d = .non ∧ S' = S ++ [.obj 0 ["kept_names", "kept_rules"] [.tup ((sortS ws).map D.str), .tup (rows.map rowD)]]) E0 := by
  unfold G_System_init_
  simp -implicitDefEqProofs only [WR_ok, WS_ok, WR_bind, w_c, w_bin, boolP_b, notP_b, w_not, w_and, w_or, w_if, w_chain, w_evs0, w_evs, w_call, w_callK, w_tup, w_lst, w_cell, cellP_lst, cellP_dct, negP_i, w_neg, w_fld, w_methC, w_make, w_makeZ, ws_next, ws_brk, ws_ct, ws_seq, ws_asg, ws_ret, ws_drop, ws_if, ws_par, ws_unp, ws_sto, ws_stoF, ws_for, wi_seq, wi_rng1, wi_enum, seqP_lst, seqP_klst, seqP_tup, seqP_ktup, rngP_i, enumP_lst, goP_nx, goP_ret, goP_ct, goP_brk, goP_er, bodyP_nx, bodyP_ret, bodyP_er, turnP_nx, turnP_ct, turnP_brk, turnP_ret, turnP_er, w_run, startD, List.map_cons, List.map_nil, List.length_cons, List.length_nil, List.replicate, List.cons_append, List.nil_append, List.append_nil, List.getElem?_cons_zero, List.getElem?_cons_succ, List.set_cons_zero, List.set_cons_succ, w_v, slotP_s, w_addI, w_subI, w_mulI, w_divI, w_modI, w_powI, w_ltI, w_leI, w_gtI, w_geI, w_isN, w_notN, isNon_n, isNon_i, isNon_t, isNon_s, w_intI, w_intB, w_absI, w_maxI, w_minI, decide_eq_true_eq, Bool.not_eq_true, if_true, if_false, ite_true, ite_false, reduceCtorEq, Bool.false_eq_true, Bool.not_true, Bool.not_false, eq_self_iff_true, true_and, and_true, w_eqI, w_neI, w_ixT, w_ixL, ixP_s, at2_0, at2_1, at2_m1, at4_0, at4_1, at4_2, at4_3, at4_m1, at7_0, at7_1, at7_2, at7_3, at7_4, at7_5, at7_6, at7_m1, oD_none, oD_some, tgP_2, w_appLoc, w_lenLoc, w_lenLst, w_meth, List.length_map, goM_nx, goM_ret, goM_ct, goM_brk, goM_er, wi_str, strP_s, b_System_init_]
  refine (spec_check (hp.app rfl) hw hnd (by omega) hrows).call ?_
  rintro _ S1 ⟨rfl, rfl⟩
  simp -implicitDefEqProofs only [WR_ok, WS_ok, WR_bind, w_c, w_bin, boolP_b, notP_b, w_not, w_and, w_or, w_if, w_chain, w_evs0, w_evs, w_call, w_callK, w_tup, w_lst, w_cell, cellP_lst, cellP_dct, negP_i, w_neg, w_fld, w_methC, w_make, w_makeZ, ws_next, ws_brk, ws_ct, ws_seq, ws_asg, ws_ret, ws_drop, ws_if, ws_par, ws_unp, ws_sto, ws_stoF, ws_for, wi_seq, wi_rng1, wi_enum, seqP_lst, seqP_klst, seqP_tup, seqP_ktup, rngP_i, enumP_lst, goP_nx, goP_ret, goP_ct, goP_brk, goP_er, bodyP_nx, bodyP_ret, bodyP_er, turnP_nx, turnP_ct, turnP_brk, turnP_ret, turnP_er, w_run, startD, List.map_cons, List.map_nil, List.length_cons, List.length_nil, List.replicate, List.cons_append, List.nil_append, List.append_nil, List.getElem?_cons_zero, List.getElem?_cons_succ, List.set_cons_zero, List.set_cons_succ, w_v, slotP_s, w_addI, w_subI, w_mulI, w_divI, w_modI, w_powI, w_ltI, w_leI, w_gtI, w_geI, w_isN, w_notN, isNon_n, isNon_i, isNon_t, isNon_s, w_intI, w_intB, w_absI, w_maxI, w_minI, decide_eq_true_eq, Bool.not_eq_true, if_true, if_false, ite_true, ite_false, reduceCtorEq, Bool.false_eq_true, Bool.not_true, Bool.not_false, eq_self_iff_true, true_and, and_true, w_eqI, w_neI, w_ixT, w_ixL, ixP_s, at2_0, at2_1, at2_m1, at4_0, at4_1, at4_2, at4_3, at4_m1, at7_0, at7_1, at7_2, at7_3, at7_4, at7_5, at7_6, at7_m1, oD_none, oD_some, tgP_2, w_appLoc, w_lenLoc, w_lenLst, w_meth, List.length_map, goM_nx, goM_ret, goM_ct, goM_brk, goM_er, wi_str, strP_s, w_sorted (show ws.length < 64 by omega), w_tupL, set_kn, set_kr]
theorem pure_strs' (l : List Str) {k : Nat} : pureD (k + 2) (.tup (l.map D.str)) = true := by
  show ((l.map D.str).all (pureD (k + 1))) = true
  rw [List.all_map, List.all_eq_true]
  exact fun r _ => rfl
theorem pure_sys (ws : List Str) (rows : List Row) : [D.tup (ws.map D.str), .tup (rows.map rowD)].all (pureD 50) = true := by
  rw [List.all_cons, pure_strs' (k := 48)]
  show (true && (((rows.map rowD).all (pureD 49)) && true)) = true
  rw [show (rows.map rowD).all (pureD 49) = true by rw [List.all_map, List.all_eq_true]; exact fun r _ => pure_row (k := 44) r]
  rfl
theorem w_mkSys {S : List Cell} {ws : List Str} {rows : List Row} {B : Int} {P : D → List Cell → Prop} {E : Nat → D → List Cell → Prop} (hp : PureS S) (hw : ∀ w ∈ ws, w ∈ allW) (hnd : ws.Nodup) (hwl : ws.length ≤ 60) (hrows : ∀ row ∈ rows, RowOk B ws row) (h : P (sysD ws rows) S) :
    WR (sealR fl S.length (mkR 0 G_System_init_ [.lst (ws.map D.str), .lst (rows.map rowD)] S)) P E := by
  obtain ⟨d, S', e, hd, hS⟩ := (spec_init hp hw hnd hwl hrows).ex
  subst hd
  subst hS
  unfold mkR
  rw [e]
  unfold sealR
  dsimp only
  have e1 : fzD fl (S ++ [.obj 0 ["kept_names", "kept_rules"] [.tup ((sortS ws).map D.str), .tup (rows.map rowD)]]) S.length 60 (.loc S.length) = some (sysD ws rows) := by
    show (if S.length < S.length then some (D.loc S.length) else fzCell fl (fzD fl _ S.length 59) (S ++ [_])[S.length]?) = _
    rw [if_neg (Nat.lt_irrefl _), last_at]
    show (if [("kept_names" : Str), ("kept_rules" : Str)] = fl 0 then (optAll (fzD fl _ S.length 59) _).map (D.obj 0) else none) = _
    rw [if_pos (show [("kept_names" : Str), ("kept_rules" : Str)] = fl 0 from rfl), optAll_id fun d hd => fzD_pure 59 d (pureD_le 50 59 d (by decide) (List.all_eq_true.mp (pure_sys (sortS ws) rows) d hd))]
    rfl
  rw [e1, List.take_left' rfl, fzCs_pure hp]
  exact h
theorem sort_mem {ws : List Str} {w : Str} : w ∈ sortS ws ↔ w ∈ ws := (List.mergeSort_perm ws leS).mem_iff
theorem sort_nodup {ws : List Str} (h : ws.Nodup) : (sortS ws).Nodup := (List.mergeSort_perm ws leS).nodup_iff.mpr h
theorem sort_len {ws : List Str} : (sortS ws).length = ws.length := (List.mergeSort_perm ws leS).length_eq
theorem w_isi {S : List Cell} {ρ : Slots} {f : Ev} {P : D → List Cell → Prop} {E : Nat → D → List Cell → Prop} : WR (isiF fl ans_System f ρ S) P E = WR (f ρ S) (fun x S1 => WR (match objV fl S1 x with | some (c, _, _) => (match ans_System c with | some b => Res.ok (.bl b) S1 | none => .bad) | none => .bad) P E) E := by
  unfold isiF; rw [WR_bind]; try rfl
theorem spec_eq {S : List Cell} {ws : List Str} {rows : List Row} {B : Int} (hok : ∀ w ∈ ws, okStr w = true) (hrows : ∀ row ∈ rows, RowOk B ws row) :
    WR (G_System_eq_ [sysD ws rows, sysD ws rows] S) (fun d S' => d = .bl true ∧ S' = S) E0 := by
  unfold G_System_eq_
  simp -implicitDefEqProofs only [WR_ok, WS_ok, WR_bind, w_c, w_bin, boolP_b, notP_b, w_not, w_and, w_or, w_if, w_chain, w_evs0, w_evs, w_call, w_callK, w_tup, w_lst, w_cell, cellP_lst, cellP_dct, negP_i, w_neg, w_fld, w_methC, w_make, w_makeZ, ws_next, ws_brk, ws_ct, ws_seq, ws_asg, ws_ret, ws_drop, ws_if, ws_par, ws_unp, ws_sto, ws_stoF, ws_for, wi_seq, wi_rng1, wi_enum, seqP_lst, seqP_klst, seqP_tup, seqP_ktup, rngP_i, enumP_lst, goP_nx, goP_ret, goP_ct, goP_brk, goP_er, bodyP_nx, bodyP_ret, bodyP_er, turnP_nx, turnP_ct, turnP_brk, turnP_ret, turnP_er, w_run, startD, List.map_cons, List.map_nil, List.length_cons, List.length_nil, List.replicate, List.cons_append, List.nil_append, List.append_nil, List.getElem?_cons_zero, List.getElem?_cons_succ, List.set_cons_zero, List.set_cons_succ, w_v, slotP_s, w_addI, w_subI, w_mulI, w_divI, w_modI, w_powI, w_ltI, w_leI, w_gtI, w_geI, w_isN, w_notN, isNon_n, isNon_i, isNon_t, isNon_s, w_intI, w_intB, w_absI, w_maxI, w_minI, decide_eq_true_eq, Bool.not_eq_true, if_true, if_false, ite_true, ite_false, reduceCtorEq, Bool.false_eq_true, Bool.not_true, Bool.not_false, eq_self_iff_true, true_and, and_true, w_eqI, w_neI, w_ixT, w_ixL, ixP_s, at2_0, at2_1, at2_m1, at4_0, at4_1, at4_2, at4_3, at4_m1, at7_0, at7_1, at7_2, at7_3, at7_4, at7_5, at7_6, at7_m1, oD_none, oD_some, tgP_2, w_appLoc, w_lenLoc, w_lenLst, w_meth, List.length_map, goM_nx, goM_ret, goM_ct, goM_brk, goM_er, wi_str, strP_s, b_System_eq_, w_isi]
  have e : (match objV fl S (sysD ws rows) with | some (c, _, _) => (match ans_System c with | some b => Res.ok (.bl b) S | none => .bad) | none => Res.bad) = Res.ok (.bl true) S := rfl
  rw [e]
  unfold sysD
  simp -implicitDefEqProofs only [WR_ok, WS_ok, WR_bind, w_c, w_bin, boolP_b, notP_b, w_not, w_and, w_or, w_if, w_chain, w_evs0, w_evs, w_call, w_callK, w_tup, w_lst, w_cell, cellP_lst, cellP_dct, negP_i, w_neg, w_fld, w_methC, w_make, w_makeZ, ws_next, ws_brk, ws_ct, ws_seq, ws_asg, ws_ret, ws_drop, ws_if, ws_par, ws_unp, ws_sto, ws_stoF, ws_for, wi_seq, wi_rng1, wi_enum, seqP_lst, seqP_klst, seqP_tup, seqP_ktup, rngP_i, enumP_lst, goP_nx, goP_ret, goP_ct, goP_brk, goP_er, bodyP_nx, bodyP_ret, bodyP_er, turnP_nx, turnP_ct, turnP_brk, turnP_ret, turnP_er, w_run, startD, List.map_cons, List.map_nil, List.length_cons, List.length_nil, List.replicate, List.cons_append, List.nil_append, List.append_nil, List.getElem?_cons_zero, List.getElem?_cons_succ, List.set_cons_zero, List.set_cons_succ, w_v, slotP_s, w_addI, w_subI, w_mulI, w_divI, w_modI, w_powI, w_ltI, w_leI, w_gtI, w_geI, w_isN, w_notN, isNon_n, isNon_i, isNon_t, isNon_s, w_intI, w_intB, w_absI, w_maxI, w_minI, decide_eq_true_eq, Bool.not_eq_true, if_true, if_false, ite_true, ite_false, reduceCtorEq, Bool.false_eq_true, Bool.not_true, Bool.not_false, eq_self_iff_true, true_and, and_true, w_eqI, w_neI, w_ixT, w_ixL, ixP_s, at2_0, at2_1, at2_m1, at4_0, at4_1, at4_2, at4_3, at4_m1, at7_0, at7_1, at7_2, at7_3, at7_4, at7_5, at7_6, at7_m1, oD_none, oD_some, tgP_2, w_appLoc, w_lenLoc, w_lenLst, w_meth, List.length_map, goM_nx, goM_ret, goM_ct, goM_brk, goM_er, wi_str, strP_s, get_kn, get_kr]
  have hd : okD 40 (.tup [.tup ((sortS ws).map D.str), .tup (rows.map rowD)]) = true := by
    show (((sortS ws).map D.str).all (okD 38) && (((rows.map rowD).all (okD 38)) && true)) = true
    have h1 : ((sortS ws).map D.str).all (okD 38) = true := by
      rw [List.all_map, List.all_eq_true]
      exact fun w hw => hok w (sort_mem.mp hw)
    have h2 : (rows.map rowD).all (okD 38) = true := by
      rw [List.all_map, List.all_eq_true]
      exact fun row hrow => okD_row (k := 33) fun m hm => hok m ((hrows row hrow).nm m hm)
    rw [h1, h2]; rfl
  rw [w_eqOf (eqD_same seen_tup seen_tup hd (by decide))]
  simp
theorem w_eqI' {S : List Cell} {ws : List Str} {rows : List Row} {B : Int} {P : D → List Cell → Prop} {E : Nat → D → List Cell → Prop} (hok : ∀ w ∈ ws, okStr w = true) (hrows : ∀ row ∈ rows, RowOk B ws row) : WR (opEqI fl 0 G_System_eq_ (sysD ws rows) (sysD ws rows) S) P E = P (.bl true) S := by
  obtain ⟨d, S', e, hd, hS⟩ := (spec_eq (S := S) hok hrows).ex
  subst hd
  subst hS
  show WR (if 0 = 0 ∧ 0 = 0 then (match G_System_eq_ [sysD ws rows, sysD ws rows] S' with | .ok (.bl b) S' => Res.ok (.bl b) S' | _ => .bad) else .bad) P E = _
  rw [if_pos ⟨rfl, rfl⟩, e]
  rfl


theorem blsD_map {α : Type} (p : α → Bool) : ∀ l : List α, blsD (l.map fun x => D.bl (p x)) = some (l.map p)
  | [] => rfl
  | a :: l => by
    show (blsD (l.map fun x => D.bl (p x))).map _ = _
    rw [blsD_map p l]; rfl
theorem w_allMap {α : Type} {p : α → Bool} {l : List α} {P : D → List Cell → Prop} {E : Nat → D → List Cell → Prop} {S : List Cell} : WR (bBls (fun l => l.all id) [.lst (l.map fun x => D.bl (p x))] S) P E = P (.bl (l.all p)) S := by
  show WR (match blsD (l.map fun x => D.bl (p x)) with | some bs => Res.ok (.bl (bs.all id)) S | none => .bad) P E = _
  rw [blsD_map]
  show P (.bl ((l.map p).all id)) S = _
  rw [List.all_map]; rfl
theorem spec_given {S : List Cell} {h : Nat} {row : Row} {ks ws : List Str} {val : Str → Option Int} {v : Option Int} (H : HeldOk S h ks val) (ok : RowOk (10 ^ 31) ws row) (hws : ∀ w ∈ ws, w ∈ ks) :
    WR (G_value_given [rowD row, .loc h, oD v] S) (fun d S' => d = oD (stepV row val v) ∧ S' = S) E0 := by
  unfold G_value_given
  rw [w_run]
  unfold b_value_given
  have hc : ∀ c ∈ row.cs, c.1 ∈ ks := fun c hc => hws _ (ok.nm c.1 (by
    cases row with
    | set n r cs => simp only [Row.names, List.mem_cons, List.mem_map]; exact .inr ⟨c, hc, rfl⟩
    | step n s f a r cs => simp only [Row.names, List.mem_cons, List.mem_map]; exact .inr (.inr ⟨c, hc, rfl⟩)))
  refine ws_mid (fun ρ S' => ρ = [some (rowD row), some (.loc h), some (oD v), none, none] ∧ S' = S ∧ row.cs.all (fun c => inB c.2 (val c.1)) = true) ?_ ?_
  · simp -implicitDefEqProofs only [WR_ok, WS_ok, WR_bind, w_c, w_bin, boolP_b, notP_b, w_not, w_and, w_or, w_if, w_chain, w_evs0, w_evs, w_call, w_callK, w_tup, w_lst, w_cell, cellP_lst, cellP_dct, negP_i, w_neg, w_fld, w_methC, w_make, w_makeZ, ws_next, ws_brk, ws_ct, ws_seq, ws_asg, ws_ret, ws_drop, ws_if, ws_par, ws_unp, ws_sto, ws_stoF, ws_for, wi_seq, wi_rng1, wi_enum, seqP_lst, seqP_klst, seqP_tup, seqP_ktup, rngP_i, enumP_lst, goP_nx, goP_ret, goP_ct, goP_brk, goP_er, bodyP_nx, bodyP_ret, bodyP_er, turnP_nx, turnP_ct, turnP_brk, turnP_ret, turnP_er, w_run, startD, List.map_cons, List.map_nil, List.length_cons, List.length_nil, List.replicate, List.cons_append, List.nil_append, List.append_nil, List.getElem?_cons_zero, List.getElem?_cons_succ, List.set_cons_zero, List.set_cons_succ, w_v, slotP_s, w_addI, w_subI, w_mulI, w_divI, w_modI, w_powI, w_ltI, w_leI, w_gtI, w_geI, w_isN, w_notN, isNon_n, isNon_i, isNon_t, isNon_s, w_intI, w_intB, w_absI, w_maxI, w_minI, decide_eq_true_eq, Bool.not_eq_true, if_true, if_false, ite_true, ite_false, reduceCtorEq, Bool.false_eq_true, Bool.not_true, Bool.not_false, eq_self_iff_true, true_and, and_true, w_eqI, w_neI, w_ixT, w_ixL, ixP_s, at2_0, at2_1, at2_m1, at4_0, at4_1, at4_2, at4_3, at4_m1, at7_0, at7_1, at7_2, at7_3, at7_4, at7_5, at7_6, at7_m1, oD_none, oD_some, tgP_2, w_appLoc, w_lenLoc, w_lenLst, w_meth, List.length_map, goM_nx, goM_ret, goM_ct, goM_brk, goM_er, wi_str, strP_s, w_comp, row_m1]
    refine compStr (c := none) (src := cdD) (tgt := fun c => .bl (inB c.2 (val c.1))) (xs := row.cs) trivial (by have := ok.few; unfold big; omega) (fun c hcm => ?_) ?_
    · show tgT' _ _ _ (.tup [.str c.1, rgD c.2])
      simp -implicitDefEqProofs only [WR_ok, WS_ok, WR_bind, w_c, w_bin, boolP_b, notP_b, w_not, w_and, w_or, w_if, w_chain, w_evs0, w_evs, w_call, w_callK, w_tup, w_lst, w_cell, cellP_lst, cellP_dct, negP_i, w_neg, w_fld, w_methC, w_make, w_makeZ, ws_next, ws_brk, ws_ct, ws_seq, ws_asg, ws_ret, ws_drop, ws_if, ws_par, ws_unp, ws_sto, ws_stoF, ws_for, wi_seq, wi_rng1, wi_enum, seqP_lst, seqP_klst, seqP_tup, seqP_ktup, rngP_i, enumP_lst, goP_nx, goP_ret, goP_ct, goP_brk, goP_er, bodyP_nx, bodyP_ret, bodyP_er, turnP_nx, turnP_ct, turnP_brk, turnP_ret, turnP_er, w_run, startD, List.map_cons, List.map_nil, List.length_cons, List.length_nil, List.replicate, List.cons_append, List.nil_append, List.append_nil, List.getElem?_cons_zero, List.getElem?_cons_succ, List.set_cons_zero, List.set_cons_succ, w_v, slotP_s, w_addI, w_subI, w_mulI, w_divI, w_modI, w_powI, w_ltI, w_leI, w_gtI, w_geI, w_isN, w_notN, isNon_n, isNon_i, isNon_t, isNon_s, w_intI, w_intB, w_absI, w_maxI, w_minI, decide_eq_true_eq, Bool.not_eq_true, if_true, if_false, ite_true, ite_false, reduceCtorEq, Bool.false_eq_true, Bool.not_true, Bool.not_false, eq_self_iff_true, true_and, and_true, w_eqI, w_neI, w_ixT, w_ixL, ixP_s, at2_0, at2_1, at2_m1, at4_0, at4_1, at4_2, at4_3, at4_m1, at7_0, at7_1, at7_2, at7_3, at7_4, at7_5, at7_6, at7_m1, oD_none, oD_some, tgP_2, w_appLoc, w_lenLoc, w_lenLst, w_meth, List.length_map, goM_nx, goM_ret, goM_ct, goM_brk, goM_er, wi_str, strP_s, tgT'_2, wipeD, w_ixDct H.at_ (hc c hcm)]
      refine (spec_is_in c.2 (val c.1)).call ?_
      rintro _ S4 ⟨rfl, rfl⟩
      exact ⟨rfl, rfl⟩
    · rw [w_allMap]
      simp -implicitDefEqProofs only [WR_ok, WS_ok, WR_bind, w_c, w_bin, boolP_b, notP_b, w_not, w_and, w_or, w_if, w_chain, w_evs0, w_evs, w_call, w_callK, w_tup, w_lst, w_cell, cellP_lst, cellP_dct, negP_i, w_neg, w_fld, w_methC, w_make, w_makeZ, ws_next, ws_brk, ws_ct, ws_seq, ws_asg, ws_ret, ws_drop, ws_if, ws_par, ws_unp, ws_sto, ws_stoF, ws_for, wi_seq, wi_rng1, wi_enum, seqP_lst, seqP_klst, seqP_tup, seqP_ktup, rngP_i, enumP_lst, goP_nx, goP_ret, goP_ct, goP_brk, goP_er, bodyP_nx, bodyP_ret, bodyP_er, turnP_nx, turnP_ct, turnP_brk, turnP_ret, turnP_er, w_run, startD, List.map_cons, List.map_nil, List.length_cons, List.length_nil, List.replicate, List.cons_append, List.nil_append, List.append_nil, List.getElem?_cons_zero, List.getElem?_cons_succ, List.set_cons_zero, List.set_cons_succ, w_v, slotP_s, w_addI, w_subI, w_mulI, w_divI, w_modI, w_powI, w_ltI, w_leI, w_gtI, w_geI, w_isN, w_notN, isNon_n, isNon_i, isNon_t, isNon_s, w_intI, w_intB, w_absI, w_maxI, w_minI, decide_eq_true_eq, Bool.not_eq_true, if_true, if_false, ite_true, ite_false, reduceCtorEq, Bool.false_eq_true, Bool.not_true, Bool.not_false, eq_self_iff_true, true_and, and_true, w_eqI, w_neI, w_ixT, w_ixL, ixP_s, at2_0, at2_1, at2_m1, at4_0, at4_1, at4_2, at4_3, at4_m1, at7_0, at7_1, at7_2, at7_3, at7_4, at7_5, at7_6, at7_m1, oD_none, oD_some, tgP_2, w_appLoc, w_lenLoc, w_lenLst, w_meth, List.length_map, goM_nx, goM_ret, goM_ct, goM_brk, goM_er, wi_str, strP_s]
      cases hall : row.cs.all (fun c => inB c.2 (val c.1)) with
      | true => simp
      | false =>
        have hs : stepV row val v = none := if_neg (by rw [hall]; decide)
        simp [hs, oD]
  rintro ρ S4 ⟨rfl, rfl, hall⟩
  cases row with
  | set nm r cs =>
    have hs : stepV (.set nm r cs) val v = (if inB r v = true then v else none) := if_pos hall
    rw [hs]
    simp -implicitDefEqProofs only [WR_ok, WS_ok, WR_bind, w_c, w_bin, boolP_b, notP_b, w_not, w_and, w_or, w_if, w_chain, w_evs0, w_evs, w_call, w_callK, w_tup, w_lst, w_cell, cellP_lst, cellP_dct, negP_i, w_neg, w_fld, w_methC, w_make, w_makeZ, ws_next, ws_brk, ws_ct, ws_seq, ws_asg, ws_ret, ws_drop, ws_if, ws_par, ws_unp, ws_sto, ws_stoF, ws_for, wi_seq, wi_rng1, wi_enum, seqP_lst, seqP_klst, seqP_tup, seqP_ktup, rngP_i, enumP_lst, goP_nx, goP_ret, goP_ct, goP_brk, goP_er, bodyP_nx, bodyP_ret, bodyP_er, turnP_nx, turnP_ct, turnP_brk, turnP_ret, turnP_er, w_run, startD, List.map_cons, List.map_nil, List.length_cons, List.length_nil, List.replicate, List.cons_append, List.nil_append, List.append_nil, List.getElem?_cons_zero, List.getElem?_cons_succ, List.set_cons_zero, List.set_cons_succ, w_v, slotP_s, w_addI, w_subI, w_mulI, w_divI, w_modI, w_powI, w_ltI, w_leI, w_gtI, w_geI, w_isN, w_notN, isNon_n, isNon_i, isNon_t, isNon_s, w_intI, w_intB, w_absI, w_maxI, w_minI, decide_eq_true_eq, Bool.not_eq_true, if_true, if_false, ite_true, ite_false, reduceCtorEq, Bool.false_eq_true, Bool.not_true, Bool.not_false, eq_self_iff_true, true_and, and_true, w_eqI, w_neI, w_ixT, w_ixL, ixP_s, at2_0, at2_1, at2_m1, at4_0, at4_1, at4_2, at4_3, at4_m1, at7_0, at7_1, at7_2, at7_3, at7_4, at7_5, at7_6, at7_m1, oD_none, oD_some, tgP_2, w_appLoc, w_lenLoc, w_lenLst, w_meth, List.length_map, goM_nx, goM_ret, goM_ct, goM_brk, goM_er, wi_str, strP_s, row_0]
    rw [w_eqS kind_ok okS_set]
    unfold Row.kind rowD
    simp -implicitDefEqProofs only [WR_ok, WS_ok, WR_bind, w_c, w_bin, boolP_b, notP_b, w_not, w_and, w_or, w_if, w_chain, w_evs0, w_evs, w_call, w_callK, w_tup, w_lst, w_cell, cellP_lst, cellP_dct, negP_i, w_neg, w_fld, w_methC, w_make, w_makeZ, ws_next, ws_brk, ws_ct, ws_seq, ws_asg, ws_ret, ws_drop, ws_if, ws_par, ws_unp, ws_sto, ws_stoF, ws_for, wi_seq, wi_rng1, wi_enum, seqP_lst, seqP_klst, seqP_tup, seqP_ktup, rngP_i, enumP_lst, goP_nx, goP_ret, goP_ct, goP_brk, goP_er, bodyP_nx, bodyP_ret, bodyP_er, turnP_nx, turnP_ct, turnP_brk, turnP_ret, turnP_er, w_run, startD, List.map_cons, List.map_nil, List.length_cons, List.length_nil, List.replicate, List.cons_append, List.nil_append, List.append_nil, List.getElem?_cons_zero, List.getElem?_cons_succ, List.set_cons_zero, List.set_cons_succ, w_v, slotP_s, w_addI, w_subI, w_mulI, w_divI, w_modI, w_powI, w_ltI, w_leI, w_gtI, w_geI, w_isN, w_notN, isNon_n, isNon_i, isNon_t, isNon_s, w_intI, w_intB, w_absI, w_maxI, w_minI, decide_eq_true_eq, Bool.not_eq_true, if_true, if_false, ite_true, ite_false, reduceCtorEq, Bool.false_eq_true, Bool.not_true, Bool.not_false, eq_self_iff_true, true_and, and_true, w_eqI, w_neI, w_ixT, w_ixL, ixP_s, at2_0, at2_1, at2_m1, at4_0, at4_1, at4_2, at4_3, at4_m1, at7_0, at7_1, at7_2, at7_3, at7_4, at7_5, at7_6, at7_m1, oD_none, oD_some, tgP_2, w_appLoc, w_lenLoc, w_lenLst, w_meth, List.length_map, goM_nx, goM_ret, goM_ct, goM_brk, goM_er, wi_str, strP_s]
    refine (spec_is_in r v).call ?_
    rintro _ S5 ⟨rfl, rfl⟩
    simp -implicitDefEqProofs only [WR_ok, WS_ok, WR_bind, w_c, w_bin, boolP_b, notP_b, w_not, w_and, w_or, w_if, w_chain, w_evs0, w_evs, w_call, w_callK, w_tup, w_lst, w_cell, cellP_lst, cellP_dct, negP_i, w_neg, w_fld, w_methC, w_make, w_makeZ, ws_next, ws_brk, ws_ct, ws_seq, ws_asg, ws_ret, ws_drop, ws_if, ws_par, ws_unp, ws_sto, ws_stoF, ws_for, wi_seq, wi_rng1, wi_enum, seqP_lst, seqP_klst, seqP_tup, seqP_ktup, rngP_i, enumP_lst, goP_nx, goP_ret, goP_ct, goP_brk, goP_er, bodyP_nx, bodyP_ret, bodyP_er, turnP_nx, turnP_ct, turnP_brk, turnP_ret, turnP_er, w_run, startD, List.map_cons, List.map_nil, List.length_cons, List.length_nil, List.replicate, List.cons_append, List.nil_append, List.append_nil, List.getElem?_cons_zero, List.getElem?_cons_succ, List.set_cons_zero, List.set_cons_succ, w_v, slotP_s, w_addI, w_subI, w_mulI, w_divI, w_modI, w_powI, w_ltI, w_leI, w_gtI, w_geI, w_isN, w_notN, isNon_n, isNon_i, isNon_t, isNon_s, w_intI, w_intB, w_absI, w_maxI, w_minI, decide_eq_true_eq, Bool.not_eq_true, if_true, if_false, ite_true, ite_false, reduceCtorEq, Bool.false_eq_true, Bool.not_true, Bool.not_false, eq_self_iff_true, true_and, and_true, w_eqI, w_neI, w_ixT, w_ixL, ixP_s, at2_0, at2_1, at2_m1, at4_0, at4_1, at4_2, at4_3, at4_m1, at7_0, at7_1, at7_2, at7_3, at7_4, at7_5, at7_6, at7_m1, oD_none, oD_some, tgP_2, w_appLoc, w_lenLoc, w_lenLst, w_meth, List.length_map, goM_nx, goM_ret, goM_ct, goM_brk, goM_er, wi_str, strP_s]
    cases hb : inB r v <;> simp [hb, oD]
  | step nm src f a r cs =>
    have hs : stepV (.step nm src f a r cs) val v = (if v.isSome = true ∨ inB r (val src) = false then none else (val src).map fun x => f * x + a) := if_pos hall
    rw [hs]
    have hsrc : src ∈ ks := hws _ (ok.nm src (by simp [Row.names]))
    simp -implicitDefEqProofs only [WR_ok, WS_ok, WR_bind, w_c, w_bin, boolP_b, notP_b, w_not, w_and, w_or, w_if, w_chain, w_evs0, w_evs, w_call, w_callK, w_tup, w_lst, w_cell, cellP_lst, cellP_dct, negP_i, w_neg, w_fld, w_methC, w_make, w_makeZ, ws_next, ws_brk, ws_ct, ws_seq, ws_asg, ws_ret, ws_drop, ws_if, ws_par, ws_unp, ws_sto, ws_stoF, ws_for, wi_seq, wi_rng1, wi_enum, seqP_lst, seqP_klst, seqP_tup, seqP_ktup, rngP_i, enumP_lst, goP_nx, goP_ret, goP_ct, goP_brk, goP_er, bodyP_nx, bodyP_ret, bodyP_er, turnP_nx, turnP_ct, turnP_brk, turnP_ret, turnP_er, w_run, startD, List.map_cons, List.map_nil, List.length_cons, List.length_nil, List.replicate, List.cons_append, List.nil_append, List.append_nil, List.getElem?_cons_zero, List.getElem?_cons_succ, List.set_cons_zero, List.set_cons_succ, w_v, slotP_s, w_addI, w_subI, w_mulI, w_divI, w_modI, w_powI, w_ltI, w_leI, w_gtI, w_geI, w_isN, w_notN, isNon_n, isNon_i, isNon_t, isNon_s, w_intI, w_intB, w_absI, w_maxI, w_minI, decide_eq_true_eq, Bool.not_eq_true, if_true, if_false, ite_true, ite_false, reduceCtorEq, Bool.false_eq_true, Bool.not_true, Bool.not_false, eq_self_iff_true, true_and, and_true, w_eqI, w_neI, w_ixT, w_ixL, ixP_s, at2_0, at2_1, at2_m1, at4_0, at4_1, at4_2, at4_3, at4_m1, at7_0, at7_1, at7_2, at7_3, at7_4, at7_5, at7_6, at7_m1, oD_none, oD_some, tgP_2, w_appLoc, w_lenLoc, w_lenLst, w_meth, List.length_map, goM_nx, goM_ret, goM_ct, goM_brk, goM_er, wi_str, strP_s, row_0]
    rw [w_eqS kind_ok okS_set]
    unfold Row.kind rowD
    simp -implicitDefEqProofs only [WR_ok, WS_ok, WR_bind, w_c, w_bin, boolP_b, notP_b, w_not, w_and, w_or, w_if, w_chain, w_evs0, w_evs, w_call, w_callK, w_tup, w_lst, w_cell, cellP_lst, cellP_dct, negP_i, w_neg, w_fld, w_methC, w_make, w_makeZ, ws_next, ws_brk, ws_ct, ws_seq, ws_asg, ws_ret, ws_drop, ws_if, ws_par, ws_unp, ws_sto, ws_stoF, ws_for, wi_seq, wi_rng1, wi_enum, seqP_lst, seqP_klst, seqP_tup, seqP_ktup, rngP_i, enumP_lst, goP_nx, goP_ret, goP_ct, goP_brk, goP_er, bodyP_nx, bodyP_ret, bodyP_er, turnP_nx, turnP_ct, turnP_brk, turnP_ret, turnP_er, w_run, startD, List.map_cons, List.map_nil, List.length_cons, List.length_nil, List.replicate, List.cons_append, List.nil_append, List.append_nil, List.getElem?_cons_zero, List.getElem?_cons_succ, List.set_cons_zero, List.set_cons_succ, w_v, slotP_s, w_addI, w_subI, w_mulI, w_divI, w_modI, w_powI, w_ltI, w_leI, w_gtI, w_geI, w_isN, w_notN, isNon_n, isNon_i, isNon_t, isNon_s, w_intI, w_intB, w_absI, w_maxI, w_minI, decide_eq_true_eq, Bool.not_eq_true, if_true, if_false, ite_true, ite_false, reduceCtorEq, Bool.false_eq_true, Bool.not_true, Bool.not_false, eq_self_iff_true, true_and, and_true, w_eqI, w_neI, w_ixT, w_ixL, ixP_s, at2_0, at2_1, at2_m1, at4_0, at4_1, at4_2, at4_3, at4_m1, at7_0, at7_1, at7_2, at7_3, at7_4, at7_5, at7_6, at7_m1, oD_none, oD_some, tgP_2, w_appLoc, w_lenLoc, w_lenLst, w_meth, List.length_map, goM_nx, goM_ret, goM_ct, goM_brk, goM_er, wi_str, strP_s, isNon_o]
    have : ¬ ((("step" : Str)) = "set") := set_step
    rw [if_neg this]
    try simp -implicitDefEqProofs only [WR_ok, WS_ok, WR_bind, w_c, w_bin, boolP_b, notP_b, w_not, w_and, w_or, w_if, w_chain, w_evs0, w_evs, w_call, w_callK, w_tup, w_lst, w_cell, cellP_lst, cellP_dct, negP_i, w_neg, w_fld, w_methC, w_make, w_makeZ, ws_next, ws_brk, ws_ct, ws_seq, ws_asg, ws_ret, ws_drop, ws_if, ws_par, ws_unp, ws_sto, ws_stoF, ws_for, wi_seq, wi_rng1, wi_enum, seqP_lst, seqP_klst, seqP_tup, seqP_ktup, rngP_i, enumP_lst, goP_nx, goP_ret, goP_ct, goP_brk, goP_er, bodyP_nx, bodyP_ret, bodyP_er, turnP_nx, turnP_ct, turnP_brk, turnP_ret, turnP_er, w_run, startD, List.map_cons, List.map_nil, List.length_cons, List.length_nil, List.replicate, List.cons_append, List.nil_append, List.append_nil, List.getElem?_cons_zero, List.getElem?_cons_succ, List.set_cons_zero, List.set_cons_succ, w_v, slotP_s, w_addI, w_subI, w_mulI, w_divI, w_modI, w_powI, w_ltI, w_leI, w_gtI, w_geI, w_isN, w_notN, isNon_n, isNon_i, isNon_t, isNon_s, w_intI, w_intB, w_absI, w_maxI, w_minI, decide_eq_true_eq, Bool.not_eq_true, if_true, if_false, ite_true, ite_false, reduceCtorEq, Bool.false_eq_true, Bool.not_true, Bool.not_false, eq_self_iff_true, true_and, and_true, w_eqI, w_neI, w_ixT, w_ixL, ixP_s, at2_0, at2_1, at2_m1, at4_0, at4_1, at4_2, at4_3, at4_m1, at7_0, at7_1, at7_2, at7_3, at7_4, at7_5, at7_6, at7_m1, oD_none, oD_some, tgP_2, w_appLoc, w_lenLoc, w_lenLst, w_meth, List.length_map, goM_nx, goM_ret, goM_ct, goM_brk, goM_er, wi_str, strP_s]
    cases v with
    | some x => simp [oD]
    | none =>
      simp -implicitDefEqProofs only [WR_ok, WS_ok, WR_bind, w_c, w_bin, boolP_b, notP_b, w_not, w_and, w_or, w_if, w_chain, w_evs0, w_evs, w_call, w_callK, w_tup, w_lst, w_cell, cellP_lst, cellP_dct, negP_i, w_neg, w_fld, w_methC, w_make, w_makeZ, ws_next, ws_brk, ws_ct, ws_seq, ws_asg, ws_ret, ws_drop, ws_if, ws_par, ws_unp, ws_sto, ws_stoF, ws_for, wi_seq, wi_rng1, wi_enum, seqP_lst, seqP_klst, seqP_tup, seqP_ktup, rngP_i, enumP_lst, goP_nx, goP_ret, goP_ct, goP_brk, goP_er, bodyP_nx, bodyP_ret, bodyP_er, turnP_nx, turnP_ct, turnP_brk, turnP_ret, turnP_er, w_run, startD, List.map_cons, List.map_nil, List.length_cons, List.length_nil, List.replicate, List.cons_append, List.nil_append, List.append_nil, List.getElem?_cons_zero, List.getElem?_cons_succ, List.set_cons_zero, List.set_cons_succ, w_v, slotP_s, w_addI, w_subI, w_mulI, w_divI, w_modI, w_powI, w_ltI, w_leI, w_gtI, w_geI, w_isN, w_notN, isNon_n, isNon_i, isNon_t, isNon_s, w_intI, w_intB, w_absI, w_maxI, w_minI, decide_eq_true_eq, Bool.not_eq_true, if_true, if_false, ite_true, ite_false, reduceCtorEq, Bool.false_eq_true, Bool.not_true, Bool.not_false, eq_self_iff_true, true_and, and_true, w_eqI, w_neI, w_ixT, w_ixL, ixP_s, at2_0, at2_1, at2_m1, at4_0, at4_1, at4_2, at4_3, at4_m1, at7_0, at7_1, at7_2, at7_3, at7_4, at7_5, at7_6, at7_m1, oD_none, oD_some, tgP_2, w_appLoc, w_lenLoc, w_lenLst, w_meth, List.length_map, goM_nx, goM_ret, goM_ct, goM_brk, goM_er, wi_str, strP_s, w_ixDct H.at_ hsrc, Option.isSome_none]
      refine (spec_is_in r (val src)).call ?_
      rintro _ S5 ⟨rfl, rfl⟩
      simp -implicitDefEqProofs only [WR_ok, WS_ok, WR_bind, w_c, w_bin, boolP_b, notP_b, w_not, w_and, w_or, w_if, w_chain, w_evs0, w_evs, w_call, w_callK, w_tup, w_lst, w_cell, cellP_lst, cellP_dct, negP_i, w_neg, w_fld, w_methC, w_make, w_makeZ, ws_next, ws_brk, ws_ct, ws_seq, ws_asg, ws_ret, ws_drop, ws_if, ws_par, ws_unp, ws_sto, ws_stoF, ws_for, wi_seq, wi_rng1, wi_enum, seqP_lst, seqP_klst, seqP_tup, seqP_ktup, rngP_i, enumP_lst, goP_nx, goP_ret, goP_ct, goP_brk, goP_er, bodyP_nx, bodyP_ret, bodyP_er, turnP_nx, turnP_ct, turnP_brk, turnP_ret, turnP_er, w_run, startD, List.map_cons, List.map_nil, List.length_cons, List.length_nil, List.replicate, List.cons_append, List.nil_append, List.append_nil, List.getElem?_cons_zero, List.getElem?_cons_succ, List.set_cons_zero, List.set_cons_succ, w_v, slotP_s, w_addI, w_subI, w_mulI, w_divI, w_modI, w_powI, w_ltI, w_leI, w_gtI, w_geI, w_isN, w_notN, isNon_n, isNon_i, isNon_t, isNon_s, w_intI, w_intB, w_absI, w_maxI, w_minI, decide_eq_true_eq, Bool.not_eq_true, if_true, if_false, ite_true, ite_false, reduceCtorEq, Bool.false_eq_true, Bool.not_true, Bool.not_false, eq_self_iff_true, true_and, and_true, w_eqI, w_neI, w_ixT, w_ixL, ixP_s, at2_0, at2_1, at2_m1, at4_0, at4_1, at4_2, at4_3, at4_m1, at7_0, at7_1, at7_2, at7_3, at7_4, at7_5, at7_6, at7_m1, oD_none, oD_some, tgP_2, w_appLoc, w_lenLoc, w_lenLst, w_meth, List.length_map, goM_nx, goM_ret, goM_ct, goM_brk, goM_er, wi_str, strP_s]
      cases hb : inB r (val src) with
      | false => simp [oD]
      | true =>
        obtain ⟨x, hx⟩ := inB_some hb
        have hbx := H.bd src
        rw [hx] at hbx
        simp -implicitDefEqProofs only [WR_ok, WS_ok, WR_bind, w_c, w_bin, boolP_b, notP_b, w_not, w_and, w_or, w_if, w_chain, w_evs0, w_evs, w_call, w_callK, w_tup, w_lst, w_cell, cellP_lst, cellP_dct, negP_i, w_neg, w_fld, w_methC, w_make, w_makeZ, ws_next, ws_brk, ws_ct, ws_seq, ws_asg, ws_ret, ws_drop, ws_if, ws_par, ws_unp, ws_sto, ws_stoF, ws_for, wi_seq, wi_rng1, wi_enum, seqP_lst, seqP_klst, seqP_tup, seqP_ktup, rngP_i, enumP_lst, goP_nx, goP_ret, goP_ct, goP_brk, goP_er, bodyP_nx, bodyP_ret, bodyP_er, turnP_nx, turnP_ct, turnP_brk, turnP_ret, turnP_er, w_run, startD, List.map_cons, List.map_nil, List.length_cons, List.length_nil, List.replicate, List.cons_append, List.nil_append, List.append_nil, List.getElem?_cons_zero, List.getElem?_cons_succ, List.set_cons_zero, List.set_cons_succ, w_v, slotP_s, w_addI, w_subI, w_mulI, w_divI, w_modI, w_powI, w_ltI, w_leI, w_gtI, w_geI, w_isN, w_notN, isNon_n, isNon_i, isNon_t, isNon_s, w_intI, w_intB, w_absI, w_maxI, w_minI, decide_eq_true_eq, Bool.not_eq_true, if_true, if_false, ite_true, ite_false, reduceCtorEq, Bool.false_eq_true, Bool.not_true, Bool.not_false, eq_self_iff_true, true_and, and_true, w_eqI, w_neI, w_ixT, w_ixL, ixP_s, at2_0, at2_1, at2_m1, at4_0, at4_1, at4_2, at4_3, at4_m1, at7_0, at7_1, at7_2, at7_3, at7_4, at7_5, at7_6, at7_m1, oD_none, oD_some, tgP_2, w_appLoc, w_lenLoc, w_lenLst, w_meth, List.length_map, goM_nx, goM_ret, goM_ct, goM_brk, goM_er, wi_str, strP_s, hx]
        have hm := mul_ok ok.rg.2.1 hbx
        simp [hm, oD, w_ixDct H.at_ hsrc, hx, w_mulI, w_addI]
theorem w_dc {P : D → List Cell → Prop} {E : Nat → D → List Cell → Prop} {ρ : Slots} {S : List Cell} {s : Src} {t : Tgt} {vs : List Nat} {p k e : Ev} : WR (dcF s t vs p k e ρ S) P E = WI (s ρ S) (fun l c S1 => WR (dcD l c t vs p k e ρ l [] [] S1) P E) E := by
  unfold dcF
  cases s ρ S <;> rfl
theorem dcD_nons {l : List D} {ρ : Slots} {S : List Cell} {i : Nat} (hi : i < ρ.length) : ∀ {js : List Str} {ks : List Key} {acc : List D}, (ks ++ js.map Sum.inr).Nodup → ks.length = acc.length → ks.length + js.length ≤ 1000 →
    dcD l none (tgN i) [i] trueF (vF i) (cF .non) ρ (js.map D.str) ks acc S = .ok (.dct (ks ++ js.map Sum.inr) (acc ++ js.map fun _ => D.non)) S
  | [], ks, acc, _, _, _ => by
    rw [List.map_nil]
    unfold dcD
    rw [if_pos (show Stay none l S from trivial)]
    simp
  | j :: js, ks, acc, nd, hl, hb => by
    have hj : (Sum.inr j : Key) ∉ ks := fun z => (List.nodup_append.mp nd).2.2 _ z _ (by simp) rfl
    have e1 : putKs ks (Sum.inr j) = ks ++ [Sum.inr j] := if_neg hj
    have e2 : putDs ks acc (Sum.inr j) D.non = acc ++ [D.non] := putDs_new hj hl
    have ht : dcTurn (tgN i) [i] trueF (vF i) (cF .non) ρ (.str j) S = some (some (Sum.inr j, .non), S) := by
      have hv : vF i ((wipeD ρ [i]).set i (some (.str j))) S = .ok (.str j) S := by
        unfold vF
        rw [List.getElem?_set_self (by rw [wipeD_length]; exact hi)]
      show dcK (cF .non) ((wipeD ρ [i]).set i (some (.str j))) (vF i ((wipeD ρ [i]).set i (some (.str j))) S) = _
      rw [hv]; rfl
    rw [List.map_cons]
    unfold dcD
    rw [if_pos ⟨trivial, by have : ks.length < 1000 := by simp at hb; omega
                            unfold big; omega⟩, ht]
    dsimp only
    rw [e1, e2, dcD_nons hi (by rw [List.append_assoc]; exact nd) (by simp [hl]) (by simp at hb ⊢; omega)]
    simp
def sysOf (ws : List Str) (rows : List Row) : D := sysD ws rows
theorem spec_played {S : List Cell} {ws : List Str} {rows : List Row} {ms : List (Int × Option Int)} {valF : Str → Option Int} (hwl : ws.length ≤ 60) (hnd : ws.Nodup) (hrows : ∀ row ∈ rows, RowOk (10 ^ 31) ws row) (hrun : runV rows vals0 ms = some valF) (hpre : ∀ k v, runV rows vals0 (ms.take k) = some v → valBnd (10 ^ 31) v) :
    WR (G_played [sysD ws rows, .lst (ms.map mvD)] S) (fun d S' => d = .tup [.loc S.length, .int (ms.length : Nat)] ∧ S' = S ++ [dctC (sortS ws) valF]) E0 := by
  unfold G_played
  rw [w_run]
  unfold b_played
  have hks : ∀ w ∈ ws, w ∈ sortS ws := fun w hw => sort_mem.mpr hw
  refine ws_mid (fun ρ S' => ρ = [some (sysD ws rows), some (.lst (ms.map mvD)), some (.loc S.length), none, none, none, none, none, none] ∧ S' = S ++ [dctC (sortS ws) vals0]) ?_ ?_
  · unfold sysD
    simp -implicitDefEqProofs only [WR_ok, WS_ok, WR_bind, w_c, w_bin, boolP_b, notP_b, w_not, w_and, w_or, w_if, w_chain, w_evs0, w_evs, w_call, w_callK, w_tup, w_lst, w_cell, cellP_lst, cellP_dct, negP_i, w_neg, w_fld, w_methC, w_make, w_makeZ, ws_next, ws_brk, ws_ct, ws_seq, ws_asg, ws_ret, ws_drop, ws_if, ws_par, ws_unp, ws_sto, ws_stoF, ws_for, wi_seq, wi_rng1, wi_enum, seqP_lst, seqP_klst, seqP_tup, seqP_ktup, rngP_i, enumP_lst, goP_nx, goP_ret, goP_ct, goP_brk, goP_er, bodyP_nx, bodyP_ret, bodyP_er, turnP_nx, turnP_ct, turnP_brk, turnP_ret, turnP_er, w_run, startD, List.map_cons, List.map_nil, List.length_cons, List.length_nil, List.replicate, List.cons_append, List.nil_append, List.append_nil, List.getElem?_cons_zero, List.getElem?_cons_succ, List.set_cons_zero, List.set_cons_succ, w_v, slotP_s, w_addI, w_subI, w_mulI, w_divI, w_modI, w_powI, w_ltI, w_leI, w_gtI, w_geI, w_isN, w_notN, isNon_n, isNon_i, isNon_t, isNon_s, w_intI, w_intB, w_absI, w_maxI, w_minI, decide_eq_true_eq, Bool.not_eq_true, if_true, if_false, ite_true, ite_false, reduceCtorEq, Bool.false_eq_true, Bool.not_true, Bool.not_false, eq_self_iff_true, true_and, and_true, w_eqI, w_neI, w_ixT, w_ixL, ixP_s, at2_0, at2_1, at2_m1, at4_0, at4_1, at4_2, at4_3, at4_m1, at7_0, at7_1, at7_2, at7_3, at7_4, at7_5, at7_6, at7_m1, oD_none, oD_some, tgP_2, w_appLoc, w_lenLoc, w_lenLst, w_meth, List.length_map, goM_nx, goM_ret, goM_ct, goM_brk, goM_er, wi_str, strP_s, w_dc, get_kn]
    rw [dcD_nons (by simp) (ks := []) (acc := []) (by simpa using nodup_inr (sort_nodup hnd)) rfl (by rw [sort_len]; simp; omega)]
    simp -implicitDefEqProofs only [WR_ok, WS_ok, WR_bind, w_c, w_bin, boolP_b, notP_b, w_not, w_and, w_or, w_if, w_chain, w_evs0, w_evs, w_call, w_callK, w_tup, w_lst, w_cell, cellP_lst, cellP_dct, negP_i, w_neg, w_fld, w_methC, w_make, w_makeZ, ws_next, ws_brk, ws_ct, ws_seq, ws_asg, ws_ret, ws_drop, ws_if, ws_par, ws_unp, ws_sto, ws_stoF, ws_for, wi_seq, wi_rng1, wi_enum, seqP_lst, seqP_klst, seqP_tup, seqP_ktup, rngP_i, enumP_lst, goP_nx, goP_ret, goP_ct, goP_brk, goP_er, bodyP_nx, bodyP_ret, bodyP_er, turnP_nx, turnP_ct, turnP_brk, turnP_ret, turnP_er, w_run, startD, List.map_cons, List.map_nil, List.length_cons, List.length_nil, List.replicate, List.cons_append, List.nil_append, List.append_nil, List.getElem?_cons_zero, List.getElem?_cons_succ, List.set_cons_zero, List.set_cons_succ, w_v, slotP_s, w_addI, w_subI, w_mulI, w_divI, w_modI, w_powI, w_ltI, w_leI, w_gtI, w_geI, w_isN, w_notN, isNon_n, isNon_i, isNon_t, isNon_s, w_intI, w_intB, w_absI, w_maxI, w_minI, decide_eq_true_eq, Bool.not_eq_true, if_true, if_false, ite_true, ite_false, reduceCtorEq, Bool.false_eq_true, Bool.not_true, Bool.not_false, eq_self_iff_true, true_and, and_true, w_eqI, w_neI, w_ixT, w_ixL, ixP_s, at2_0, at2_1, at2_m1, at4_0, at4_1, at4_2, at4_3, at4_m1, at7_0, at7_1, at7_2, at7_3, at7_4, at7_5, at7_6, at7_m1, oD_none, oD_some, tgP_2, w_appLoc, w_lenLoc, w_lenLst, w_meth, List.length_map, goM_nx, goM_ret, goM_ct, goM_brk, goM_er, wi_str, strP_s]
    unfold dctC vals0
    rfl
  rintro ρ S1 ⟨rfl, rfl⟩
  simp -implicitDefEqProofs only [WR_ok, WS_ok, WR_bind, w_c, w_bin, boolP_b, notP_b, w_not, w_and, w_or, w_if, w_chain, w_evs0, w_evs, w_call, w_callK, w_tup, w_lst, w_cell, cellP_lst, cellP_dct, negP_i, w_neg, w_fld, w_methC, w_make, w_makeZ, ws_next, ws_brk, ws_ct, ws_seq, ws_asg, ws_ret, ws_drop, ws_if, ws_par, ws_unp, ws_sto, ws_stoF, ws_for, wi_seq, wi_rng1, wi_enum, seqP_lst, seqP_klst, seqP_tup, seqP_ktup, rngP_i, enumP_lst, goP_nx, goP_ret, goP_ct, goP_brk, goP_er, bodyP_nx, bodyP_ret, bodyP_er, turnP_nx, turnP_ct, turnP_brk, turnP_ret, turnP_er, w_run, startD, List.map_cons, List.map_nil, List.length_cons, List.length_nil, List.replicate, List.cons_append, List.nil_append, List.append_nil, List.getElem?_cons_zero, List.getElem?_cons_succ, List.set_cons_zero, List.set_cons_succ, w_v, slotP_s, w_addI, w_subI, w_mulI, w_divI, w_modI, w_powI, w_ltI, w_leI, w_gtI, w_geI, w_isN, w_notN, isNon_n, isNon_i, isNon_t, isNon_s, w_intI, w_intB, w_absI, w_maxI, w_minI, decide_eq_true_eq, Bool.not_eq_true, if_true, if_false, ite_true, ite_false, reduceCtorEq, Bool.false_eq_true, Bool.not_true, Bool.not_false, eq_self_iff_true, true_and, and_true, w_eqI, w_neI, w_ixT, w_ixL, ixP_s, at2_0, at2_1, at2_m1, at4_0, at4_1, at4_2, at4_3, at4_m1, at7_0, at7_1, at7_2, at7_3, at7_4, at7_5, at7_6, at7_m1, oD_none, oD_some, tgP_2, w_appLoc, w_lenLoc, w_lenLst, w_meth, List.length_map, goM_nx, goM_ret, goM_ct, goM_brk, goM_er, wi_str, strP_s]
  refine for_inv (fun i ρ S' => ∃ (x y z u w : Option D) (val : Str → Option Int), ρ = [some (sysD ws rows), some (.lst (ms.map mvD)), some (.loc S.length), x, y, z, u, w, none] ∧ S' = S ++ [dctC (sortS ws) val] ∧ runV rows vals0 (ms.take i) = some val)
    ⟨none, none, none, none, none, vals0, rfl, rfl, by simp [runV]⟩ (fun _ _ _ _ => trivial) ?_ ?_
  · rintro i d ρ S2 hi ⟨x, y, z, u, w, val, rfl, rfl, hr⟩
    rw [enumD_get, List.getElem?_map] at hi
    cases hmi : ms[i]? with
    | none => rw [hmi] at hi; cases hi
    | some m =>
      rw [hmi] at hi
      cases hi
      have hil : i < ms.length := (List.getElem?_eq_some_iff.mp hmi).1
      -- one move more
      obtain ⟨v2, hv2⟩ := runV_take hrun (i + 1)
      have htk : ms.take (i + 1) = ms.take i ++ [m] := by
        rw [List.take_add_one, hmi]; rfl
      have hv3 := hv2
      rw [htk, runV_app hr] at hv3
      unfold runV at hv3
      split at hv3
      · rename_i row xv e1 e2
        have hv4 : v2 = upV val row.name (some xv) := by unfold runV at hv3; cases hv3; rfl
        have hn := nextV_ok e2
        obtain ⟨row', hrow, hat, hat'⟩ := row_at hn
        rw [e1] at hat
        cases hat
        have ok := hrows row hrow
        have hst : stepV row val m.2 = some xv := by
          unfold nextV at e2
          rw [if_pos hn, e1] at e2
          exact e2
        have H : HeldOk (S ++ [dctC (sortS ws) val]) S.length (sortS ws) val := ⟨by simp, hpre i val hr⟩
        have hnw : row.name ∈ sortS ws := hks _ (ok.nm _ (by cases row <;> simp [Row.name, Row.names]))
        show WS _ _
        rw [Nat.zero_add]
        unfold sysD mvD
        simp -implicitDefEqProofs only [WR_ok, WS_ok, WR_bind, w_c, w_bin, boolP_b, notP_b, w_not, w_and, w_or, w_if, w_chain, w_evs0, w_evs, w_call, w_callK, w_tup, w_lst, w_cell, cellP_lst, cellP_dct, negP_i, w_neg, w_fld, w_methC, w_make, w_makeZ, ws_next, ws_brk, ws_ct, ws_seq, ws_asg, ws_ret, ws_drop, ws_if, ws_par, ws_unp, ws_sto, ws_stoF, ws_for, wi_seq, wi_rng1, wi_enum, seqP_lst, seqP_klst, seqP_tup, seqP_ktup, rngP_i, enumP_lst, goP_nx, goP_ret, goP_ct, goP_brk, goP_er, bodyP_nx, bodyP_ret, bodyP_er, turnP_nx, turnP_ct, turnP_brk, turnP_ret, turnP_er, w_run, startD, List.map_cons, List.map_nil, List.length_cons, List.length_nil, List.replicate, List.cons_append, List.nil_append, List.append_nil, List.getElem?_cons_zero, List.getElem?_cons_succ, List.set_cons_zero, List.set_cons_succ, w_v, slotP_s, w_addI, w_subI, w_mulI, w_divI, w_modI, w_powI, w_ltI, w_leI, w_gtI, w_geI, w_isN, w_notN, isNon_n, isNon_i, isNon_t, isNon_s, w_intI, w_intB, w_absI, w_maxI, w_minI, decide_eq_true_eq, Bool.not_eq_true, if_true, if_false, ite_true, ite_false, reduceCtorEq, Bool.false_eq_true, Bool.not_true, Bool.not_false, eq_self_iff_true, true_and, and_true, w_eqI, w_neI, w_ixT, w_ixL, ixP_s, at2_0, at2_1, at2_m1, at4_0, at4_1, at4_2, at4_3, at4_m1, at7_0, at7_1, at7_2, at7_3, at7_4, at7_5, at7_6, at7_m1, oD_none, oD_some, tgP_2, w_appLoc, w_lenLoc, w_lenLst, w_meth, List.length_map, goM_nx, goM_ret, goM_ct, goM_brk, goM_er, wi_str, strP_s, get_kr, w_lenTup, Bool.not_eq_true', decide_eq_false_iff_not, ite_not]
        rw [if_pos hn.1, if_pos hn.2]
        have hix : ∀ (P : D → List Cell → Prop) (E : Nat → D → List Cell → Prop) (S : List Cell), WR (opIx (.tup (rows.map rowD)) (.int m.1) S) P E = P (rowD row) S := fun P E S => w_ixTup hat'
        simp -implicitDefEqProofs only [WR_ok, WS_ok, WR_bind, w_c, w_bin, boolP_b, notP_b, w_not, w_and, w_or, w_if, w_chain, w_evs0, w_evs, w_call, w_callK, w_tup, w_lst, w_cell, cellP_lst, cellP_dct, negP_i, w_neg, w_fld, w_methC, w_make, w_makeZ, ws_next, ws_brk, ws_ct, ws_seq, ws_asg, ws_ret, ws_drop, ws_if, ws_par, ws_unp, ws_sto, ws_stoF, ws_for, wi_seq, wi_rng1, wi_enum, seqP_lst, seqP_klst, seqP_tup, seqP_ktup, rngP_i, enumP_lst, goP_nx, goP_ret, goP_ct, goP_brk, goP_er, bodyP_nx, bodyP_ret, bodyP_er, turnP_nx, turnP_ct, turnP_brk, turnP_ret, turnP_er, w_run, startD, List.map_cons, List.map_nil, List.length_cons, List.length_nil, List.replicate, List.cons_append, List.nil_append, List.append_nil, List.getElem?_cons_zero, List.getElem?_cons_succ, List.set_cons_zero, List.set_cons_succ, w_v, slotP_s, w_addI, w_subI, w_mulI, w_divI, w_modI, w_powI, w_ltI, w_leI, w_gtI, w_geI, w_isN, w_notN, isNon_n, isNon_i, isNon_t, isNon_s, w_intI, w_intB, w_absI, w_maxI, w_minI, decide_eq_true_eq, Bool.not_eq_true, if_true, if_false, ite_true, ite_false, reduceCtorEq, Bool.false_eq_true, Bool.not_true, Bool.not_false, eq_self_iff_true, true_and, and_true, w_eqI, w_neI, w_ixT, w_ixL, ixP_s, at2_0, at2_1, at2_m1, at4_0, at4_1, at4_2, at4_3, at4_m1, at7_0, at7_1, at7_2, at7_3, at7_4, at7_5, at7_6, at7_m1, oD_none, oD_some, tgP_2, w_appLoc, w_lenLoc, w_lenLst, w_meth, List.length_map, goM_nx, goM_ret, goM_ct, goM_brk, goM_er, wi_str, strP_s, hat']
        refine (spec_given H ok hks).call ?_
        rintro _ S3 ⟨rfl, rfl⟩
        rw [hst]
        simp -implicitDefEqProofs only [WR_ok, WS_ok, WR_bind, w_c, w_bin, boolP_b, notP_b, w_not, w_and, w_or, w_if, w_chain, w_evs0, w_evs, w_call, w_callK, w_tup, w_lst, w_cell, cellP_lst, cellP_dct, negP_i, w_neg, w_fld, w_methC, w_make, w_makeZ, ws_next, ws_brk, ws_ct, ws_seq, ws_asg, ws_ret, ws_drop, ws_if, ws_par, ws_unp, ws_sto, ws_stoF, ws_for, wi_seq, wi_rng1, wi_enum, seqP_lst, seqP_klst, seqP_tup, seqP_ktup, rngP_i, enumP_lst, goP_nx, goP_ret, goP_ct, goP_brk, goP_er, bodyP_nx, bodyP_ret, bodyP_er, turnP_nx, turnP_ct, turnP_brk, turnP_ret, turnP_er, w_run, startD, List.map_cons, List.map_nil, List.length_cons, List.length_nil, List.replicate, List.cons_append, List.nil_append, List.append_nil, List.getElem?_cons_zero, List.getElem?_cons_succ, List.set_cons_zero, List.set_cons_succ, w_v, slotP_s, w_addI, w_subI, w_mulI, w_divI, w_modI, w_powI, w_ltI, w_leI, w_gtI, w_geI, w_isN, w_notN, isNon_n, isNon_i, isNon_t, isNon_s, w_intI, w_intB, w_absI, w_maxI, w_minI, decide_eq_true_eq, Bool.not_eq_true, if_true, if_false, ite_true, ite_false, reduceCtorEq, Bool.false_eq_true, Bool.not_true, Bool.not_false, eq_self_iff_true, true_and, and_true, w_eqI, w_neI, w_ixT, w_ixL, ixP_s, at2_0, at2_1, at2_m1, at4_0, at4_1, at4_2, at4_3, at4_m1, at7_0, at7_1, at7_2, at7_3, at7_4, at7_5, at7_6, at7_m1, oD_none, oD_some, tgP_2, w_appLoc, w_lenLoc, w_lenLst, w_meth, List.length_map, goM_nx, goM_ret, goM_ct, goM_brk, goM_er, wi_str, strP_s, row_1]
        rw [← oD_some, setP_dct H.at_ hnw (sort_nodup hnd) (by rw [sort_len]; unfold big; omega)]
        simp -implicitDefEqProofs only [WR_ok, WS_ok, WR_bind, w_c, w_bin, boolP_b, notP_b, w_not, w_and, w_or, w_if, w_chain, w_evs0, w_evs, w_call, w_callK, w_tup, w_lst, w_cell, cellP_lst, cellP_dct, negP_i, w_neg, w_fld, w_methC, w_make, w_makeZ, ws_next, ws_brk, ws_ct, ws_seq, ws_asg, ws_ret, ws_drop, ws_if, ws_par, ws_unp, ws_sto, ws_stoF, ws_for, wi_seq, wi_rng1, wi_enum, seqP_lst, seqP_klst, seqP_tup, seqP_ktup, rngP_i, enumP_lst, goP_nx, goP_ret, goP_ct, goP_brk, goP_er, bodyP_nx, bodyP_ret, bodyP_er, turnP_nx, turnP_ct, turnP_brk, turnP_ret, turnP_er, w_run, startD, List.map_cons, List.map_nil, List.length_cons, List.length_nil, List.replicate, List.cons_append, List.nil_append, List.append_nil, List.getElem?_cons_zero, List.getElem?_cons_succ, List.set_cons_zero, List.set_cons_succ, w_v, slotP_s, w_addI, w_subI, w_mulI, w_divI, w_modI, w_powI, w_ltI, w_leI, w_gtI, w_geI, w_isN, w_notN, isNon_n, isNon_i, isNon_t, isNon_s, w_intI, w_intB, w_absI, w_maxI, w_minI, decide_eq_true_eq, Bool.not_eq_true, if_true, if_false, ite_true, ite_false, reduceCtorEq, Bool.false_eq_true, Bool.not_true, Bool.not_false, eq_self_iff_true, true_and, and_true, w_eqI, w_neI, w_ixT, w_ixL, ixP_s, at2_0, at2_1, at2_m1, at4_0, at4_1, at4_2, at4_3, at4_m1, at7_0, at7_1, at7_2, at7_3, at7_4, at7_5, at7_6, at7_m1, oD_none, oD_some, tgP_2, w_appLoc, w_lenLoc, w_lenLst, w_meth, List.length_map, goM_nx, goM_ret, goM_ct, goM_brk, goM_er, wi_str, strP_s]
        refine ⟨_, _, _, _, _, v2, rfl, ?_, hv2⟩
        rw [last_set, hv4]
      · cases hv3
  · rintro ρ S2 ⟨x, y, z, u, w, val, rfl, rfl, hr⟩
    have hlen : (enumD 0 (ms.map mvD)).length = ms.length := by rw [enumD_len, List.length_map]
    rw [hlen, List.take_length, hrun] at hr
    cases hr
    simp -implicitDefEqProofs only [WR_ok, WS_ok, WR_bind, w_c, w_bin, boolP_b, notP_b, w_not, w_and, w_or, w_if, w_chain, w_evs0, w_evs, w_call, w_callK, w_tup, w_lst, w_cell, cellP_lst, cellP_dct, negP_i, w_neg, w_fld, w_methC, w_make, w_makeZ, ws_next, ws_brk, ws_ct, ws_seq, ws_asg, ws_ret, ws_drop, ws_if, ws_par, ws_unp, ws_sto, ws_stoF, ws_for, wi_seq, wi_rng1, wi_enum, seqP_lst, seqP_klst, seqP_tup, seqP_ktup, rngP_i, enumP_lst, goP_nx, goP_ret, goP_ct, goP_brk, goP_er, bodyP_nx, bodyP_ret, bodyP_er, turnP_nx, turnP_ct, turnP_brk, turnP_ret, turnP_er, w_run, startD, List.map_cons, List.map_nil, List.length_cons, List.length_nil, List.replicate, List.cons_append, List.nil_append, List.append_nil, List.getElem?_cons_zero, List.getElem?_cons_succ, List.set_cons_zero, List.set_cons_succ, w_v, slotP_s, w_addI, w_subI, w_mulI, w_divI, w_modI, w_powI, w_ltI, w_leI, w_gtI, w_geI, w_isN, w_notN, isNon_n, isNon_i, isNon_t, isNon_s, w_intI, w_intB, w_absI, w_maxI, w_minI, decide_eq_true_eq, Bool.not_eq_true, if_true, if_false, ite_true, ite_false, reduceCtorEq, Bool.false_eq_true, Bool.not_true, Bool.not_false, eq_self_iff_true, true_and, and_true, w_eqI, w_neI, w_ixT, w_ixL, ixP_s, at2_0, at2_1, at2_m1, at4_0, at4_1, at4_2, at4_3, at4_m1, at7_0, at7_1, at7_2, at7_3, at7_4, at7_5, at7_6, at7_m1, oD_none, oD_some, tgP_2, w_appLoc, w_lenLoc, w_lenLst, w_meth, List.length_map, goM_nx, goM_ret, goM_ct, goM_brk, goM_er, wi_str, strP_s]
    try simp
theorem spec_behind {S : List Cell} {ws : List Str} {rows : List Row} {ms : List (Int × Option Int)} {valF : Str → Option Int} (hwl : ws.length ≤ 60) (hnd : ws.Nodup) (hrows : ∀ row ∈ rows, RowOk (10 ^ 31) ws row) (hrun : runV rows vals0 ms = some valF) (hpre : ∀ k v, runV rows vals0 (ms.take k) = some v → valBnd (10 ^ 31) v) :
    WR (G_values_behind [sysD ws rows, .lst (ms.map mvD)] S) (fun d S' => d = .loc S.length ∧ S' = S ++ [dctC (sortS ws) valF]) E0 := by
  unfold G_values_behind
  simp -implicitDefEqProofs only [WR_ok, WS_ok, WR_bind, w_c, w_bin, boolP_b, notP_b, w_not, w_and, w_or, w_if, w_chain, w_evs0, w_evs, w_call, w_callK, w_tup, w_lst, w_cell, cellP_lst, cellP_dct, negP_i, w_neg, w_fld, w_methC, w_make, w_makeZ, ws_next, ws_brk, ws_ct, ws_seq, ws_asg, ws_ret, ws_drop, ws_if, ws_par, ws_unp, ws_sto, ws_stoF, ws_for, wi_seq, wi_rng1, wi_enum, seqP_lst, seqP_klst, seqP_tup, seqP_ktup, rngP_i, enumP_lst, goP_nx, goP_ret, goP_ct, goP_brk, goP_er, bodyP_nx, bodyP_ret, bodyP_er, turnP_nx, turnP_ct, turnP_brk, turnP_ret, turnP_er, w_run, startD, List.map_cons, List.map_nil, List.length_cons, List.length_nil, List.replicate, List.cons_append, List.nil_append, List.append_nil, List.getElem?_cons_zero, List.getElem?_cons_succ, List.set_cons_zero, List.set_cons_succ, w_v, slotP_s, w_addI, w_subI, w_mulI, w_divI, w_modI, w_powI, w_ltI, w_leI, w_gtI, w_geI, w_isN, w_notN, isNon_n, isNon_i, isNon_t, isNon_s, w_intI, w_intB, w_absI, w_maxI, w_minI, decide_eq_true_eq, Bool.not_eq_true, if_true, if_false, ite_true, ite_false, reduceCtorEq, Bool.false_eq_true, Bool.not_true, Bool.not_false, eq_self_iff_true, true_and, and_true, w_eqI, w_neI, w_ixT, w_ixL, ixP_s, at2_0, at2_1, at2_m1, at4_0, at4_1, at4_2, at4_3, at4_m1, at7_0, at7_1, at7_2, at7_3, at7_4, at7_5, at7_6, at7_m1, oD_none, oD_some, tgP_2, w_appLoc, w_lenLoc, w_lenLst, w_meth, List.length_map, goM_nx, goM_ret, goM_ct, goM_brk, goM_er, wi_str, strP_s, b_values_behind]
  refine (spec_played hwl hnd hrows hrun hpre).call ?_
  rintro _ S1 ⟨rfl, rfl⟩
  simp -implicitDefEqProofs only [WR_ok, WS_ok, WR_bind, w_c, w_bin, boolP_b, notP_b, w_not, w_and, w_or, w_if, w_chain, w_evs0, w_evs, w_call, w_callK, w_tup, w_lst, w_cell, cellP_lst, cellP_dct, negP_i, w_neg, w_fld, w_methC, w_make, w_makeZ, ws_next, ws_brk, ws_ct, ws_seq, ws_asg, ws_ret, ws_drop, ws_if, ws_par, ws_unp, ws_sto, ws_stoF, ws_for, wi_seq, wi_rng1, wi_enum, seqP_lst, seqP_klst, seqP_tup, seqP_ktup, rngP_i, enumP_lst, goP_nx, goP_ret, goP_ct, goP_brk, goP_er, bodyP_nx, bodyP_ret, bodyP_er, turnP_nx, turnP_ct, turnP_brk, turnP_ret, turnP_er, w_run, startD, List.map_cons, List.map_nil, List.length_cons, List.length_nil, List.replicate, List.cons_append, List.nil_append, List.append_nil, List.getElem?_cons_zero, List.getElem?_cons_succ, List.set_cons_zero, List.set_cons_succ, w_v, slotP_s, w_addI, w_subI, w_mulI, w_divI, w_modI, w_powI, w_ltI, w_leI, w_gtI, w_geI, w_isN, w_notN, isNon_n, isNon_i, isNon_t, isNon_s, w_intI, w_intB, w_absI, w_maxI, w_minI, decide_eq_true_eq, Bool.not_eq_true, if_true, if_false, ite_true, ite_false, reduceCtorEq, Bool.false_eq_true, Bool.not_true, Bool.not_false, eq_self_iff_true, true_and, and_true, w_eqI, w_neI, w_ixT, w_ixL, ixP_s, at2_0, at2_1, at2_m1, at4_0, at4_1, at4_2, at4_3, at4_m1, at7_0, at7_1, at7_2, at7_3, at7_4, at7_5, at7_6, at7_m1, oD_none, oD_some, tgP_2, w_appLoc, w_lenLoc, w_lenLst, w_meth, List.length_map, goM_nx, goM_ret, goM_ct, goM_brk, goM_er, wi_str, strP_s]
  rw [if_neg (by omega)]
  all_goals trivial


section
variable {P : D → List Cell → Prop} {E : Nat → D → List Cell → Prop} {S : List Cell} {Ps : Fl → List Cell → Prop} {l : List D} {t : Tgt} {b : Sv} {ρ : Slots} {d : D} {ds : List D}
theorem forD_nil0 : WS (forD l none t b [] ρ S) Ps = Ps (.nx ρ) S := by
  unfold forD
  rw [if_pos (show Stay none l S from trivial)]; rfl
theorem forD_cons0 : WS (forD l none t b (d :: ds) ρ S) Ps = tgT' t ρ (fun ρ1 => WS (b ρ1 S) (turnP (fun ρ2 S2 => WS (forD l none t b ds ρ2 S2) Ps) Ps)) d := by
  conv => lhs; unfold forD
  rw [if_pos (show Stay none l S from trivial)]
  unfold tgT'
  cases t d ρ with
  | none => rfl
  | some ρ1 =>
    dsimp only
    cases b ρ1 S with
    | bad => rfl
    | ok f S2 => cases f <;> rfl
theorem w_listL {l : List D} : WR (bList [.lst l] S) P E = P (.lst l) S := rfl
theorem pick_10 {a b : D} : pick [1, 0] [a, b] = [b, a] := rfl
theorem eqD_o {o : Option Int} : eqD S (oD o) (oD o) = some true := by
  cases o with
  | none => rfl
  | some i => show eqD S (.int i) (.int i) = _; rw [eqD_I]; simp
theorem eqKV_same {ws : List Str} {f : Str → Option Int} : ∀ {js : List Str}, (∀ j ∈ js, j ∈ ws) → eqKV S (ws.map Sum.inr) (ws.map fun k => oD (f k)) (js.map Sum.inr) (js.map fun k => oD (f k)) = some true
  | [], _ => rfl
  | j :: js, h => by
    rw [List.map_cons, List.map_cons]
    unfold eqKV
    rw [look_map (h j List.mem_cons_self)]
    dsimp only
    rw [eqD_o]
    dsimp only
    rw [eqKV_same fun x hx => h x (List.mem_cons_of_mem _ hx)]
    rfl
theorem eqDct_same {ws js : List Str} {f : Str → Option Int} (h : ∀ j ∈ js, j ∈ ws) (hl : js.length = ws.length) : eqDct S (js.map Sum.inr, js.map fun k => oD (f k)) (ws.map Sum.inr, ws.map fun k => oD (f k)) = some true := by
  unfold eqDct
  rw [if_pos (by simp [hl]), eqKV_same h]
theorem eqD_dct {x y : D} {p q : List Key × List D} (hx : dctV S x = some p) (hy : dctV S y = some q) : eqD S x y = none := by
  have : toPy S (seen S x) = none := by
    cases x with
    | dct ks l => rfl
    | loc n =>
      unfold dctV at hx
      dsimp only at hx
      split at hx
      · rename_i ks l e
        unfold seen
        dsimp only
        rw [e]
        rfl
      · cases hx
    | _ => cases hx
  unfold eqD
  rw [this]
theorem w_neDct {x y : D} {ws js : List Str} {f : Str → Option Int} (hx : dctV S x = some (js.map Sum.inr, js.map fun k => oD (f k))) (hy : dctV S y = some (ws.map Sum.inr, ws.map fun k => oD (f k))) (h : ∀ j ∈ js, j ∈ ws) (hl : js.length = ws.length) : WR (opNe2 x y S) P E = P (.bl false) S := by
  unfold opNe2
  rw [eqD_dct hx hy]
  dsimp only
  unfold eqDD
  rw [hx, hy]
  dsimp only
  rw [eqDct_same h hl]
  rfl
theorem dctV_loc {n : Nat} {ks : List Str} {val : Str → Option Int} (h : S[n]? = some (dctC ks val)) : dctV S (.loc n) = some (ks.map Sum.inr, ks.map fun k => oD (val k)) := by
  unfold dctV; dsimp only; rw [h]; rfl
theorem w_clear {n : Nat} {ks : List Key} {l : List D} (h : S[n]? = some (.dct ks l)) : WR (mDClear (.loc n) [] S) P E = P .non (S.set n (.dct [] [])) := by
  unfold mDClear; dsimp only; rw [h]; rfl
theorem ty_dct {n : Nat} {ks : List Key} {l : List D} (h : S[n]? = some (.dct ks l)) : tyD S .dct (.loc n) = true := by
  show (match S[n]? with | some (.dct _ _) => true | some (.dtt _ _) => true | _ => false) = true
  rw [h]
end
theorem okD_mvs (ms : List (Int × Option Int)) : okD 40 (.lst (ms.map mvD)) = true := by
  show ((ms.map mvD).all (okD 39)) = true
  rw [List.all_map, List.all_eq_true]
  intro m _
  show ([D.int m.1, oD m.2].all (okD 38)) = true
  simp only [List.all_cons, List.all_nil, okD_o, Bool.and_true]
  rfl
theorem pure_dct (ks : List Str) (val : Str → Option Int) : pureC (dctC ks val) = true := pure_vals ks val
/-- what one lap has drawn -/
structure Lap (ws : List Str) (rows : List Row) (ms : List (Int × Option Int)) (val : Str → Option Int) : Prop where
  hw : ∀ w ∈ ws, w ∈ allW
  nd : ws.Nodup
  wl : ws.length ≤ 60
  rk : ∀ row ∈ rows, RowOk (10 ^ 31) ws row
  run : runV rows vals0 ms = some val
  bd : valBnd (10 ^ 31) val
  pre : ∀ k v, runV rows vals0 (ms.take k) = some v → valBnd (10 ^ 31) v
theorem Lap.ok {ws : List Str} {rows : List Row} {ms : List (Int × Option Int)} {val : Str → Option Int} (L : Lap ws rows ms val) : ∀ w ∈ ws, okStr w = true := fun w hw => (all_ok w (L.hw w hw)).1


theorem put_mid {A G : List Cell} {x y : Cell} : (A ++ [x] ++ G).set A.length y = A ++ [y] ++ G := by
  rw [List.append_assoc, List.set_append_right _ _ (Nat.le_refl _), Nat.sub_self, List.append_assoc]; rfl
theorem RS.push2 {S0 : List Cell} {r n : Nat} {S : List Cell} (h : RS S0 r n S) (hr : r < S0.length) (x : Cell) : RS (S0 ++ [x]) r n (S ++ [x]) ∧ r < (S0 ++ [x]).length := ⟨h.push hr x, by simp; omega⟩
def wsF : List Str := ["x", "y"]
def rowsF : List Row := [.set "x" (some 0, some 1) [], .step "x" "x" 1 3 (none, some 100) [], .set "y" (some 5, some 5) [("x", (some 4, none))]]
theorem xy_ne : ¬ (("x" : Str) = "y") := by decide +kernel
theorem yx_ne : ¬ (("y" : Str) = "x") := by decide +kernel
theorem wsF_all : ∀ w ∈ wsF, w ∈ allW := by decide +kernel
theorem wsF_nd : wsF.Nodup := by decide +kernel
theorem wsF_sort : sortS wsF = wsF := (sorted_is (List.Perm.refl _) (by decide +kernel)).symm
theorem rowsF_ok : ∀ row ∈ rowsF, RowOk (10 ^ 31) wsF row := by
  intro row h
  simp only [rowsF, List.mem_cons, List.not_mem_nil, or_false] at h
  rcases h with rfl | rfl | rfl
  · exact ⟨by simp [Row.names, wsF], by simp [Row.cs], by simp [Row.cs], by simp [rgOk], by simp [rgBnd, Bnd]⟩
  · exact ⟨by simp [Row.names, wsF], by simp [Row.cs], by simp [Row.cs], by decide, by simp [Bnd], by simp [Bnd], by simp [rgOk], by simp [rgBnd, Bnd]⟩
  · exact ⟨by simp [Row.names, wsF], by simp [Row.cs, rgOk, rgBnd, Bnd], by simp [Row.cs], by simp [rgOk], by simp [rgBnd, Bnd]⟩
def va : Str → Option Int := upV vals0 "x" (some 1)
def vb : Str → Option Int := upV va "x" (some 4)
def vc : Str → Option Int := upV vb "y" (some 5)
def vd : Str → Option Int := upV vals0 "x" (some 0)
theorem stepA : nextV rowsF vals0 0 (some 1) = some 1 := by simp [nextV, rowsF, stepV, Row.cs, inB]
theorem stepD : nextV rowsF vals0 0 (some 0) = some 0 := by simp [nextV, rowsF, stepV, Row.cs, inB]
theorem stepB : nextV rowsF va 1 none = some 4 := by simp [nextV, rowsF, stepV, Row.cs, inB, va, upV]
theorem stepC : nextV rowsF vb 2 (some 5) = some 5 := by simp [nextV, rowsF, stepV, Row.cs, inB, vb, va, upV]
theorem runC {ms : List (Int × Option Int)} : runV rowsF vb ((2, some 5) :: ms) = runV rowsF vc ms := by
  conv => lhs; unfold runV
  rw [stepC]; rfl
theorem runB {ms : List (Int × Option Int)} : runV rowsF va ((1, none) :: ms) = runV rowsF vb ms := by
  conv => lhs; unfold runV
  rw [stepB]; rfl
theorem runA {ms : List (Int × Option Int)} : runV rowsF vals0 ((0, some 1) :: ms) = runV rowsF va ms := by
  conv => lhs; unfold runV
  rw [stepA]; rfl
theorem runD {ms : List (Int × Option Int)} : runV rowsF vals0 ((0, some 0) :: ms) = runV rowsF vd ms := by
  conv => lhs; unfold runV
  rw [stepD]; rfl
theorem bnd0 : valBnd (10 ^ 31) vals0 := fun _ => trivial
theorem bnda : valBnd (10 ^ 31) va := valBnd_up bnd0 (by simp [Bnd])
theorem bndb : valBnd (10 ^ 31) vb := valBnd_up bnda (by simp [Bnd])
theorem bndc : valBnd (10 ^ 31) vc := valBnd_up bndb (by simp [Bnd])
theorem bndd : valBnd (10 ^ 31) vd := valBnd_up bnd0 (by simp [Bnd])
theorem pre1 : ∀ k v, runV rowsF vals0 (([(0, some 1), (1, none), (2, some 5)] : List (Int × Option Int)).take k) = some v → valBnd (10 ^ 31) v := by
  intro k v h
  rcases k with _ | _ | _ | k
  · cases h; exact bnd0
  · rw [show ([(0, some 1), (1, none), (2, some 5)] : List (Int × Option Int)).take (0 + 1) = [(0, some 1)] from rfl, runA] at h; cases h; exact bnda
  · rw [show ([(0, some 1), (1, none), (2, some 5)] : List (Int × Option Int)).take (0 + 1 + 1) = [(0, some 1), (1, none)] from rfl, runA, runB] at h; cases h; exact bndb
  · rw [List.take_of_length_le (by simp), runA, runB, runC] at h; cases h; exact bndc
theorem pre2 : ∀ k v, runV rowsF vals0 (([(0, some 0)] : List (Int × Option Int)).take k) = some v → valBnd (10 ^ 31) v := by
  intro k v h
  rcases k with _ | k
  · cases h; exact bnd0
  · rw [List.take_of_length_le (by simp), runD] at h; cases h; exact bndd
theorem pre3 : ∀ k v, runV rowsF vals0 (([] : List (Int × Option Int)).take k) = some v → valBnd (10 ^ 31) v := by
  intro k v h
  rw [List.take_nil] at h
  cases h; exact bnd0
theorem w_dispXY {P : D → List Cell → Prop} {E : Nat → D → List Cell → Prop} {S : List Cell} {ρ : Slots} {a b : D} : WR (dispF [(cF (.str "x"), cF a), (cF (.str "y"), cF b)] ρ S) P E = P (.dct (wsF.map Sum.inr) [a, b]) S := by
  have e : pairsF [(cF (.str "x"), cF a), (cF (.str "y"), cF b)] ρ S dispK = .ok (.dct (mergeKs [] (wsF.map Sum.inr)) (mergeDs [] [] (wsF.map Sum.inr) [a, b])) S := rfl
  obtain ⟨h1, h2⟩ := merge_new (ks := []) (ds := []) (js := wsF.map Sum.inr) (es := [a, b]) (by simpa using nodup_inr wsF_nd) rfl rfl
  unfold dispF
  rw [e, h1, h2]
  rfl
theorem sameD_o {k : Nat} (o : Option Int) : sameD (k + 1) (oD o) (oD o) = true := by
  cases o with
  | none => rfl
  | some i => show (i == i) = true; simp
theorem sameKV_same {k : Nat} {ws : List Str} {f : Str → Option Int} : ∀ {js : List Str}, (∀ j ∈ js, j ∈ ws) → sameKV (sameD (k + 1)) (ws.map Sum.inr) (ws.map fun k => oD (f k)) (js.map Sum.inr) (js.map fun k => oD (f k)) = true
  | [], _ => rfl
  | j :: js, h => by
    rw [List.map_cons, List.map_cons]
    unfold sameKV
    rw [look_map (h j List.mem_cons_self)]
    dsimp only
    rw [sameD_o, sameKV_same fun x hx => h x (List.mem_cons_of_mem _ hx)]
    rfl
theorem w_eqDicts {P : D → List Cell → Prop} {E : Nat → D → List Cell → Prop} {S : List Cell} {a b c : Nat} {ws : List Str} {f g h : Str → Option Int} (ha : S[a]? = some (dctC ws f)) (hb : S[b]? = some (dctC ws g)) (hc : S[c]? = some (dctC ws h)) :
    WR (opEq2 fl (.lst [.loc a, .loc b, .loc c]) (.lst [.dct (ws.map Sum.inr) (ws.map fun k => oD (f k)), .dct (ws.map Sum.inr) (ws.map fun k => oD (g k)), .dct (ws.map Sum.inr) (ws.map fun k => oD (h k))]) S) P E = P (.bl true) S := by
  have e1 : eqD S (.lst [.loc a, .loc b, .loc c]) (.lst [.dct (ws.map Sum.inr) (ws.map fun k => oD (f k)), .dct (ws.map Sum.inr) (ws.map fun k => oD (g k)), .dct (ws.map Sum.inr) (ws.map fun k => oD (h k))]) = none := rfl
  have e2 : fzD fl S 0 60 (.lst [.loc a, .loc b, .loc c]) = some (.lst [.dct (ws.map Sum.inr) (ws.map fun k => oD (f k)), .dct (ws.map Sum.inr) (ws.map fun k => oD (g k)), .dct (ws.map Sum.inr) (ws.map fun k => oD (h k))]) := by
    show (optAll (fzD fl S 0 59) [.loc a, .loc b, .loc c]).map D.lst = _
    unfold optAll optAll optAll optAll
    rw [fzD_locD (by omega) ha (pure_vals ws f) 59 (by decide), fzD_locD (by omega) hb (pure_vals ws g) 59 (by decide), fzD_locD (by omega) hc (pure_vals ws h) 59 (by decide)]
    rfl
  have e3 : fzD fl S 0 60 (.lst [.dct (ws.map Sum.inr) (ws.map fun k => oD (f k)), .dct (ws.map Sum.inr) (ws.map fun k => oD (g k)), .dct (ws.map Sum.inr) (ws.map fun k => oD (h k))]) = some (.lst [.dct (ws.map Sum.inr) (ws.map fun k => oD (f k)), .dct (ws.map Sum.inr) (ws.map fun k => oD (g k)), .dct (ws.map Sum.inr) (ws.map fun k => oD (h k))]) := by
    refine fzD_pure 60 _ ?_
    have q : ∀ f : Str → Option Int, (ws.map fun k => oD (f k)).all (pureD 58) = true := fun f => by
      rw [List.all_map, List.all_eq_true]
      exact fun k _ => pure_o _
    show ((ws.map fun k => oD (f k)).all (pureD 58) && ((ws.map fun k => oD (g k)).all (pureD 58) && ((ws.map fun k => oD (h k)).all (pureD 58) && true))) = true
    rw [q f, q g, q h]; rfl
  have same : ∀ f : Str → Option Int, sameD 59 (.dct (ws.map Sum.inr) (ws.map fun k => oD (f k))) (.dct (ws.map Sum.inr) (ws.map fun k => oD (f k))) = true := fun f => by
    show (decide ((ws.map Sum.inr).length = (ws.map Sum.inr).length) && sameKV (sameD 58) (ws.map Sum.inr) (ws.map fun k => oD (f k)) (ws.map Sum.inr) (ws.map fun k => oD (f k))) = true
    rw [decide_eq_true rfl, sameKV_same (k := 57) fun j h => h]; rfl
  unfold opEq2
  rw [e1]
  dsimp only
  have e4 : eqDD S (.lst [.loc a, .loc b, .loc c]) (.lst [.dct (ws.map Sum.inr) (ws.map fun k => oD (f k)), .dct (ws.map Sum.inr) (ws.map fun k => oD (g k)), .dct (ws.map Sum.inr) (ws.map fun k => oD (h k))]) = none := rfl
  rw [e4]
  dsimp only
  have e5 : eqSeq fl S (.lst [.loc a, .loc b, .loc c]) (.lst [.dct (ws.map Sum.inr) (ws.map fun k => oD (f k)), .dct (ws.map Sum.inr) (ws.map fun k => oD (g k)), .dct (ws.map Sum.inr) (ws.map fun k => oD (h k))]) = true := by
    unfold eqSeq
    rw [e2, e3]
    show (true && (sameD 59 _ _ && (sameD 59 _ _ && (sameD 59 _ _ && true)))) = true
    rw [same f, same g, same h]; rfl
  rw [if_pos e5]
  rfl
theorem law_true : LawTrue G_law := by
  intro ns hns hbits d0 hd
  have key : WR (G_law [d0] []) (fun d S' => d = .bl true) E0 := by
    unfold G_law
    rw [w_run]
    unfold b_law
    have hlen0 : ∀ (P : D → List Cell → Prop) (E : Nat → D → List Cell → Prop) (S : List Cell), WR (bLen [d0] S) P E = P (.int (ns.length : Nat)) S := by
      intro P E S
      rcases hd with rfl | rfl
      · show P (.int ((ns.map D.int).length : Nat)) S = _; rw [List.length_map]
      · show P (.int ((ns.map D.int).length : Nat)) S = _; rw [List.length_map]
    refine ws_mid (fun ρ S' => ρ = [some d0, some (.loc 0), none, none, none, none, none, none, none, none, none, none, none, none] ∧ RS [rc 0 0 0] 0 0 S') ?_ ?_
    · simp -implicitDefEqProofs only [WR_ok, WS_ok, WR_bind, w_c, w_bin, boolP_b, notP_b, w_not, w_and, w_or, w_if, w_chain, w_evs0, w_evs, w_call, w_callK, w_tup, w_lst, w_cell, cellP_lst, cellP_dct, negP_i, w_neg, w_fld, w_methC, w_make, w_makeZ, ws_next, ws_brk, ws_ct, ws_seq, ws_asg, ws_ret, ws_drop, ws_if, ws_par, ws_unp, ws_sto, ws_stoF, ws_for, wi_seq, wi_rng1, wi_enum, seqP_lst, seqP_klst, seqP_tup, seqP_ktup, rngP_i, enumP_lst, goP_nx, goP_ret, goP_ct, goP_brk, goP_er, bodyP_nx, bodyP_ret, bodyP_er, turnP_nx, turnP_ct, turnP_brk, turnP_ret, turnP_er, w_run, startD, List.map_cons, List.map_nil, List.length_cons, List.length_nil, List.replicate, List.cons_append, List.nil_append, List.append_nil, List.getElem?_cons_zero, List.getElem?_cons_succ, List.set_cons_zero, List.set_cons_succ, w_v, slotP_s, w_addI, w_subI, w_mulI, w_divI, w_modI, w_powI, w_ltI, w_leI, w_gtI, w_geI, w_isN, w_notN, isNon_n, isNon_i, isNon_t, isNon_s, w_intI, w_intB, w_absI, w_maxI, w_minI, decide_eq_true_eq, Bool.not_eq_true, if_true, if_false, ite_true, ite_false, reduceCtorEq, Bool.false_eq_true, Bool.not_true, Bool.not_false, eq_self_iff_true, true_and, and_true, w_eqI, w_neI, w_ixT, w_ixL, ixP_s, at2_0, at2_1, at2_m1, at4_0, at4_1, at4_2, at4_3, at4_m1, at7_0, at7_1, at7_2, at7_3, at7_4, at7_5, at7_6, at7_m1, oD_none, oD_some, tgP_2, w_appLoc, w_lenLoc, w_lenLst, w_meth, List.length_map, goM_nx, goM_ret, goM_ct, goM_brk, goM_er, wi_str, strP_s]
      refine (spec_rng hd hns).call ?_
      rintro _ S1 ⟨rfl, R1⟩
      exact ⟨rfl, R1⟩
    rintro ρ S1 ⟨rfl, R1⟩
    refine ws_mid (fun ρ S' => ∃ x2 x3 x4 x5 x6 x7 x8 x9 x10 x11 x12 x13 : Option D, ρ = [some d0, some (.loc 0), x2, x3, x4, x5, x6, x7, x8, x9, x10, x11, x12, x13] ∧ PureS S') ?_ ?_
    · simp -implicitDefEqProofs only [WR_ok, WS_ok, WR_bind, w_c, w_bin, boolP_b, notP_b, w_not, w_and, w_or, w_if, w_chain, w_evs0, w_evs, w_call, w_callK, w_tup, w_lst, w_cell, cellP_lst, cellP_dct, negP_i, w_neg, w_fld, w_methC, w_make, w_makeZ, ws_next, ws_brk, ws_ct, ws_seq, ws_asg, ws_ret, ws_drop, ws_if, ws_par, ws_unp, ws_sto, ws_stoF, ws_for, wi_seq, wi_rng1, wi_enum, seqP_lst, seqP_klst, seqP_tup, seqP_ktup, rngP_i, enumP_lst, goP_nx, goP_ret, goP_ct, goP_brk, goP_er, bodyP_nx, bodyP_ret, bodyP_er, turnP_nx, turnP_ct, turnP_brk, turnP_ret, turnP_er, w_run, startD, List.map_cons, List.map_nil, List.length_cons, List.length_nil, List.replicate, List.cons_append, List.nil_append, List.append_nil, List.getElem?_cons_zero, List.getElem?_cons_succ, List.set_cons_zero, List.set_cons_succ, w_v, slotP_s, w_addI, w_subI, w_mulI, w_divI, w_modI, w_powI, w_ltI, w_leI, w_gtI, w_geI, w_isN, w_notN, isNon_n, isNon_i, isNon_t, isNon_s, w_intI, w_intB, w_absI, w_maxI, w_minI, decide_eq_true_eq, Bool.not_eq_true, if_true, if_false, ite_true, ite_false, reduceCtorEq, Bool.false_eq_true, Bool.not_true, Bool.not_false, eq_self_iff_true, true_and, and_true, w_eqI, w_neI, w_ixT, w_ixL, ixP_s, at2_0, at2_1, at2_m1, at4_0, at4_1, at4_2, at4_3, at4_m1, at7_0, at7_1, at7_2, at7_3, at7_4, at7_5, at7_6, at7_m1, oD_none, oD_some, tgP_2, w_appLoc, w_lenLoc, w_lenLst, w_meth, List.length_map, goM_nx, goM_ret, goM_ct, goM_brk, goM_er, wi_str, strP_s, hlen0]
      generalize hm : (if (ns.length : Int) < 10 then (ns.length : Int) else 10) = mm
      have hmm : 0 ≤ mm ∧ mm ≤ 10 := by subst hm; split <;> omega
      refine ⟨by unfold rngOk; simp; omega, ?_⟩
      refine for_inv (fun i ρ S' => ∃ x2 x3 x4 x5 x6 x7 x8 x9 x10 x11 x12 x13 : Option D, ρ = [some d0, some (.loc 0), x2, x3, x4, x5, x6, x7, x8, x9, x10, x11, x12, x13] ∧ ∃ S0, RS S0 0 (10000 * i) S' ∧ PureS S0 ∧ 0 < S0.length)
        ⟨_, _, _, _, _, _, _, _, _, _, _, _, rfl, _, R1, fun c hc => by simp at hc; subst hc; rfl, by simp⟩ (fun _ _ _ _ => trivial) ?_ ?_
      · rintro i d ρ S2 hi ⟨x2, x3, x4, x5, x6, x7, x8, x9, x10, x11, x12, x13, rfl, S0, R2, hp, hl0⟩
        have hi2 : i < 18 := by
          have := (List.getElem?_eq_some_iff.mp hi).1
          simp [intsD] at this
          omega
        obtain ⟨lapz, rfl⟩ : ∃ z : Int, d = .int z := by
          unfold intsD at hi
          rw [List.getElem?_map] at hi
          cases hq : (List.range (8 + mm).toNat)[i]? with
          | none => rw [hq] at hi; cases hi
          | some q => rw [hq] at hi; cases hi; exact ⟨_, rfl⟩
        rw [tgT'_1]
        -- words
        refine ws_mid (fun ρ S' => ∃ ws : List Str, ρ = [some d0, some (.loc 0), some (.int lapz), some (.lst (ws.map D.str)), x4, x5, x6, x7, x8, x9, x10, x11, x12, x13] ∧ RS S0 0 (10000 * i + 21) S' ∧ ws.length ≤ 6 ∧ 0 < ws.length ∧ ws.Nodup ∧ ∀ w ∈ ws, w ∈ allW) ?_ ?_
        · simp -implicitDefEqProofs only [WR_ok, WS_ok, WR_bind, w_c, w_bin, boolP_b, notP_b, w_not, w_and, w_or, w_if, w_chain, w_evs0, w_evs, w_call, w_callK, w_tup, w_lst, w_cell, cellP_lst, cellP_dct, negP_i, w_neg, w_fld, w_methC, w_make, w_makeZ, ws_next, ws_brk, ws_ct, ws_seq, ws_asg, ws_ret, ws_drop, ws_if, ws_par, ws_unp, ws_sto, ws_stoF, ws_for, wi_seq, wi_rng1, wi_enum, seqP_lst, seqP_klst, seqP_tup, seqP_ktup, rngP_i, enumP_lst, goP_nx, goP_ret, goP_ct, goP_brk, goP_er, bodyP_nx, bodyP_ret, bodyP_er, turnP_nx, turnP_ct, turnP_brk, turnP_ret, turnP_er, w_run, startD, List.map_cons, List.map_nil, List.length_cons, List.length_nil, List.replicate, List.cons_append, List.nil_append, List.append_nil, List.getElem?_cons_zero, List.getElem?_cons_succ, List.set_cons_zero, List.set_cons_succ, w_v, slotP_s, w_addI, w_subI, w_mulI, w_divI, w_modI, w_powI, w_ltI, w_leI, w_gtI, w_geI, w_isN, w_notN, isNon_n, isNon_i, isNon_t, isNon_s, w_intI, w_intB, w_absI, w_maxI, w_minI, decide_eq_true_eq, Bool.not_eq_true, if_true, if_false, ite_true, ite_false, reduceCtorEq, Bool.false_eq_true, Bool.not_true, Bool.not_false, eq_self_iff_true, true_and, and_true, w_eqI, w_neI, w_ixT, w_ixL, ixP_s, at2_0, at2_1, at2_m1, at4_0, at4_1, at4_2, at4_3, at4_m1, at7_0, at7_1, at7_2, at7_3, at7_4, at7_5, at7_6, at7_m1, oD_none, oD_some, tgP_2, w_appLoc, w_lenLoc, w_lenLst, w_meth, List.length_map, goM_nx, goM_ret, goM_ct, goM_brk, goM_er, wi_str, strP_s]
          refine (spec_draw hl0 R2 (by decide) (by decide) (by omega)).call ?_
          rintro _ S3 ⟨R3, z, rfl, a3, b3⟩
          simp -implicitDefEqProofs only [WR_ok, WS_ok, WR_bind, w_c, w_bin, boolP_b, notP_b, w_not, w_and, w_or, w_if, w_chain, w_evs0, w_evs, w_call, w_callK, w_tup, w_lst, w_cell, cellP_lst, cellP_dct, negP_i, w_neg, w_fld, w_methC, w_make, w_makeZ, ws_next, ws_brk, ws_ct, ws_seq, ws_asg, ws_ret, ws_drop, ws_if, ws_par, ws_unp, ws_sto, ws_stoF, ws_for, wi_seq, wi_rng1, wi_enum, seqP_lst, seqP_klst, seqP_tup, seqP_ktup, rngP_i, enumP_lst, goP_nx, goP_ret, goP_ct, goP_brk, goP_er, bodyP_nx, bodyP_ret, bodyP_er, turnP_nx, turnP_ct, turnP_brk, turnP_ret, turnP_er, w_run, startD, List.map_cons, List.map_nil, List.length_cons, List.length_nil, List.replicate, List.cons_append, List.nil_append, List.append_nil, List.getElem?_cons_zero, List.getElem?_cons_succ, List.set_cons_zero, List.set_cons_succ, w_v, slotP_s, w_addI, w_subI, w_mulI, w_divI, w_modI, w_powI, w_ltI, w_leI, w_gtI, w_geI, w_isN, w_notN, isNon_n, isNon_i, isNon_t, isNon_s, w_intI, w_intB, w_absI, w_maxI, w_minI, decide_eq_true_eq, Bool.not_eq_true, if_true, if_false, ite_true, ite_false, reduceCtorEq, Bool.false_eq_true, Bool.not_true, Bool.not_false, eq_self_iff_true, true_and, and_true, w_eqI, w_neI, w_ixT, w_ixL, ixP_s, at2_0, at2_1, at2_m1, at4_0, at4_1, at4_2, at4_3, at4_m1, at7_0, at7_1, at7_2, at7_3, at7_4, at7_5, at7_6, at7_m1, oD_none, oD_some, tgP_2, w_appLoc, w_lenLoc, w_lenLst, w_meth, List.length_map, goM_nx, goM_ret, goM_ct, goM_brk, goM_er, wi_str, strP_s]
          refine (spec_words (k := (1 + z).toNat) (by omega) hl0 R3 (by omega) (by omega) hp).call ?_
          rintro _ S4 ⟨R4, ws, rfl, h1, h2, h3⟩
          exact ⟨ws, rfl, R4.mono (by omega), by omega, by omega, h2, h3⟩
        rintro ρ S3 ⟨ws, rfl, R3, wl1, wl0, wnd, wall⟩
        -- rows
        refine ws_mid (fun ρ S' => ∃ rows : List Row, ρ = [some d0, some (.loc 0), some (.int lapz), some (.lst (ws.map D.str)), some (.lst (rows.map rowD)), x5, x6, x7, x8, x9, x10, x11, x12, x13] ∧ RS S0 0 (10000 * i + 3100) S' ∧ rows.length ≤ 10 ∧ ∀ row ∈ rows, RowOk (10 ^ 31) ws row) ?_ ?_
        · simp -implicitDefEqProofs only [WR_ok, WS_ok, WR_bind, w_c, w_bin, boolP_b, notP_b, w_not, w_and, w_or, w_if, w_chain, w_evs0, w_evs, w_call, w_callK, w_tup, w_lst, w_cell, cellP_lst, cellP_dct, negP_i, w_neg, w_fld, w_methC, w_make, w_makeZ, ws_next, ws_brk, ws_ct, ws_seq, ws_asg, ws_ret, ws_drop, ws_if, ws_par, ws_unp, ws_sto, ws_stoF, ws_for, wi_seq, wi_rng1, wi_enum, seqP_lst, seqP_klst, seqP_tup, seqP_ktup, rngP_i, enumP_lst, goP_nx, goP_ret, goP_ct, goP_brk, goP_er, bodyP_nx, bodyP_ret, bodyP_er, turnP_nx, turnP_ct, turnP_brk, turnP_ret, turnP_er, w_run, startD, List.map_cons, List.map_nil, List.length_cons, List.length_nil, List.replicate, List.cons_append, List.nil_append, List.append_nil, List.getElem?_cons_zero, List.getElem?_cons_succ, List.set_cons_zero, List.set_cons_succ, w_v, slotP_s, w_addI, w_subI, w_mulI, w_divI, w_modI, w_powI, w_ltI, w_leI, w_gtI, w_geI, w_isN, w_notN, isNon_n, isNon_i, isNon_t, isNon_s, w_intI, w_intB, w_absI, w_maxI, w_minI, decide_eq_true_eq, Bool.not_eq_true, if_true, if_false, ite_true, ite_false, reduceCtorEq, Bool.false_eq_true, Bool.not_true, Bool.not_false, eq_self_iff_true, true_and, and_true, w_eqI, w_neI, w_ixT, w_ixL, ixP_s, at2_0, at2_1, at2_m1, at4_0, at4_1, at4_2, at4_3, at4_m1, at7_0, at7_1, at7_2, at7_3, at7_4, at7_5, at7_6, at7_m1, oD_none, oD_some, tgP_2, w_appLoc, w_lenLoc, w_lenLst, w_meth, List.length_map, goM_nx, goM_ret, goM_ct, goM_brk, goM_er, wi_str, strP_s]
          refine (spec_rows (most := 10) hl0 R3 (by omega) (by decide) (by decide) wl0 (by omega) hp).call ?_
          rintro _ S4 ⟨R4, rows, rfl, h1, h2⟩
          exact ⟨rows, rfl, R4.mono (by omega), h1, h2⟩
        rintro ρ S4 ⟨rows, rfl, R4, rl, rk⟩
        -- the system
        refine ws_mid (fun ρ S' => ρ = [some d0, some (.loc 0), some (.int lapz), some (.lst (ws.map D.str)), some (.lst (rows.map rowD)), some (sysD ws rows), x6, x7, x8, x9, x10, x11, x12, x13] ∧ S' = S4) ?_ ?_
        · simp -implicitDefEqProofs only [WR_ok, WS_ok, WR_bind, w_c, w_bin, boolP_b, notP_b, w_not, w_and, w_or, w_if, w_chain, w_evs0, w_evs, w_call, w_callK, w_tup, w_lst, w_cell, cellP_lst, cellP_dct, negP_i, w_neg, w_fld, w_methC, w_make, w_makeZ, ws_next, ws_brk, ws_ct, ws_seq, ws_asg, ws_ret, ws_drop, ws_if, ws_par, ws_unp, ws_sto, ws_stoF, ws_for, wi_seq, wi_rng1, wi_enum, seqP_lst, seqP_klst, seqP_tup, seqP_ktup, rngP_i, enumP_lst, goP_nx, goP_ret, goP_ct, goP_brk, goP_er, bodyP_nx, bodyP_ret, bodyP_er, turnP_nx, turnP_ct, turnP_brk, turnP_ret, turnP_er, w_run, startD, List.map_cons, List.map_nil, List.length_cons, List.length_nil, List.replicate, List.cons_append, List.nil_append, List.append_nil, List.getElem?_cons_zero, List.getElem?_cons_succ, List.set_cons_zero, List.set_cons_succ, w_v, slotP_s, w_addI, w_subI, w_mulI, w_divI, w_modI, w_powI, w_ltI, w_leI, w_gtI, w_geI, w_isN, w_notN, isNon_n, isNon_i, isNon_t, isNon_s, w_intI, w_intB, w_absI, w_maxI, w_minI, decide_eq_true_eq, Bool.not_eq_true, if_true, if_false, ite_true, ite_false, reduceCtorEq, Bool.false_eq_true, Bool.not_true, Bool.not_false, eq_self_iff_true, true_and, and_true, w_eqI, w_neI, w_ixT, w_ixL, ixP_s, at2_0, at2_1, at2_m1, at4_0, at4_1, at4_2, at4_3, at4_m1, at7_0, at7_1, at7_2, at7_3, at7_4, at7_5, at7_6, at7_m1, oD_none, oD_some, tgP_2, w_appLoc, w_lenLoc, w_lenLst, w_meth, List.length_map, goM_nx, goM_ret, goM_ct, goM_brk, goM_er, wi_str, strP_s]
          refine w_mkSys (R4.pure hp) wall wnd (by omega) rk ?_
          exact ⟨rfl, rfl⟩
        rintro ρ S5 ⟨rfl, rfl⟩
        -- the moves
        refine ws_mid (fun ρ S' => ∃ (ms : List (Int × Option Int)) (val : Str → Option Int), ρ = [some d0, some (.loc 0), some (.int lapz), some (.lst (ws.map D.str)), some (.lst (rows.map rowD)), some (sysD ws rows), some (.lst (ms.map mvD)), some (.dct (ws.map Sum.inr) (ws.map fun w => oD (val w))), x8, x9, x10, x11, x12, x13] ∧ RS S0 0 (10000 * i + 5000) S' ∧ Lap ws rows ms val ∧ ms.length ≤ 200) ?_ ?_
        · simp -implicitDefEqProofs only [WR_ok, WS_ok, WR_bind, w_c, w_bin, boolP_b, notP_b, w_not, w_and, w_or, w_if, w_chain, w_evs0, w_evs, w_call, w_callK, w_tup, w_lst, w_cell, cellP_lst, cellP_dct, negP_i, w_neg, w_fld, w_methC, w_make, w_makeZ, ws_next, ws_brk, ws_ct, ws_seq, ws_asg, ws_ret, ws_drop, ws_if, ws_par, ws_unp, ws_sto, ws_stoF, ws_for, wi_seq, wi_rng1, wi_enum, seqP_lst, seqP_klst, seqP_tup, seqP_ktup, rngP_i, enumP_lst, goP_nx, goP_ret, goP_ct, goP_brk, goP_er, bodyP_nx, bodyP_ret, bodyP_er, turnP_nx, turnP_ct, turnP_brk, turnP_ret, turnP_er, w_run, startD, List.map_cons, List.map_nil, List.length_cons, List.length_nil, List.replicate, List.cons_append, List.nil_append, List.append_nil, List.getElem?_cons_zero, List.getElem?_cons_succ, List.set_cons_zero, List.set_cons_succ, w_v, slotP_s, w_addI, w_subI, w_mulI, w_divI, w_modI, w_powI, w_ltI, w_leI, w_gtI, w_geI, w_isN, w_notN, isNon_n, isNon_i, isNon_t, isNon_s, w_intI, w_intB, w_absI, w_maxI, w_minI, decide_eq_true_eq, Bool.not_eq_true, if_true, if_false, ite_true, ite_false, reduceCtorEq, Bool.false_eq_true, Bool.not_true, Bool.not_false, eq_self_iff_true, true_and, and_true, w_eqI, w_neI, w_ixT, w_ixL, ixP_s, at2_0, at2_1, at2_m1, at4_0, at4_1, at4_2, at4_3, at4_m1, at7_0, at7_1, at7_2, at7_3, at7_4, at7_5, at7_6, at7_m1, oD_none, oD_some, tgP_2, w_appLoc, w_lenLoc, w_lenLst, w_meth, List.length_map, goM_nx, goM_ret, goM_ct, goM_brk, goM_er, wi_str, strP_s]
          have hmany : ∃ m : Int, atD [.int 60, .int 200] (if lapz = 0 then 1 else 0) = some (.int m) ∧ 0 ≤ m ∧ m ≤ 200 := by
            split
            · exact ⟨_, rfl, by decide, by decide⟩
            · exact ⟨_, rfl, by decide, by decide⟩
          obtain ⟨m, em, m0, m1⟩ := hmany
          simp -implicitDefEqProofs only [WR_ok, WS_ok, WR_bind, w_c, w_bin, boolP_b, notP_b, w_not, w_and, w_or, w_if, w_chain, w_evs0, w_evs, w_call, w_callK, w_tup, w_lst, w_cell, cellP_lst, cellP_dct, negP_i, w_neg, w_fld, w_methC, w_make, w_makeZ, ws_next, ws_brk, ws_ct, ws_seq, ws_asg, ws_ret, ws_drop, ws_if, ws_par, ws_unp, ws_sto, ws_stoF, ws_for, wi_seq, wi_rng1, wi_enum, seqP_lst, seqP_klst, seqP_tup, seqP_ktup, rngP_i, enumP_lst, goP_nx, goP_ret, goP_ct, goP_brk, goP_er, bodyP_nx, bodyP_ret, bodyP_er, turnP_nx, turnP_ct, turnP_brk, turnP_ret, turnP_er, w_run, startD, List.map_cons, List.map_nil, List.length_cons, List.length_nil, List.replicate, List.cons_append, List.nil_append, List.append_nil, List.getElem?_cons_zero, List.getElem?_cons_succ, List.set_cons_zero, List.set_cons_succ, w_v, slotP_s, w_addI, w_subI, w_mulI, w_divI, w_modI, w_powI, w_ltI, w_leI, w_gtI, w_geI, w_isN, w_notN, isNon_n, isNon_i, isNon_t, isNon_s, w_intI, w_intB, w_absI, w_maxI, w_minI, decide_eq_true_eq, Bool.not_eq_true, if_true, if_false, ite_true, ite_false, reduceCtorEq, Bool.false_eq_true, Bool.not_true, Bool.not_false, eq_self_iff_true, true_and, and_true, w_eqI, w_neI, w_ixT, w_ixL, ixP_s, at2_0, at2_1, at2_m1, at4_0, at4_1, at4_2, at4_3, at4_m1, at7_0, at7_1, at7_2, at7_3, at7_4, at7_5, at7_6, at7_m1, oD_none, oD_some, tgP_2, w_appLoc, w_lenLoc, w_lenLst, w_meth, List.length_map, goM_nx, goM_ret, goM_ct, goM_brk, goM_er, wi_str, strP_s, em]
          refine (spec_moves hl0 R4 (by omega) m0 m1 wnd (by omega) (fun w hw => (all_ok w (wall w hw)).1) hp (by omega) rk).call ?_
          rintro _ S6 ⟨R6, ms, val, rfl, h1, h2, h3, h4⟩
          simp -implicitDefEqProofs only [WR_ok, WS_ok, WR_bind, w_c, w_bin, boolP_b, notP_b, w_not, w_and, w_or, w_if, w_chain, w_evs0, w_evs, w_call, w_callK, w_tup, w_lst, w_cell, cellP_lst, cellP_dct, negP_i, w_neg, w_fld, w_methC, w_make, w_makeZ, ws_next, ws_brk, ws_ct, ws_seq, ws_asg, ws_ret, ws_drop, ws_if, ws_par, ws_unp, ws_sto, ws_stoF, ws_for, wi_seq, wi_rng1, wi_enum, seqP_lst, seqP_klst, seqP_tup, seqP_ktup, rngP_i, enumP_lst, goP_nx, goP_ret, goP_ct, goP_brk, goP_er, bodyP_nx, bodyP_ret, bodyP_er, turnP_nx, turnP_ct, turnP_brk, turnP_ret, turnP_er, w_run, startD, List.map_cons, List.map_nil, List.length_cons, List.length_nil, List.replicate, List.cons_append, List.nil_append, List.append_nil, List.getElem?_cons_zero, List.getElem?_cons_succ, List.set_cons_zero, List.set_cons_succ, w_v, slotP_s, w_addI, w_subI, w_mulI, w_divI, w_modI, w_powI, w_ltI, w_leI, w_gtI, w_geI, w_isN, w_notN, isNon_n, isNon_i, isNon_t, isNon_s, w_intI, w_intB, w_absI, w_maxI, w_minI, decide_eq_true_eq, Bool.not_eq_true, if_true, if_false, ite_true, ite_false, reduceCtorEq, Bool.false_eq_true, Bool.not_true, Bool.not_false, eq_self_iff_true, true_and, and_true, w_eqI, w_neI, w_ixT, w_ixL, ixP_s, at2_0, at2_1, at2_m1, at4_0, at4_1, at4_2, at4_3, at4_m1, at7_0, at7_1, at7_2, at7_3, at7_4, at7_5, at7_6, at7_m1, oD_none, oD_some, tgP_2, w_appLoc, w_lenLoc, w_lenLst, w_meth, List.length_map, goM_nx, goM_ret, goM_ct, goM_brk, goM_er, wi_str, strP_s]
          exact ⟨ms, val, rfl, R6.mono (by omega), ⟨wall, wnd, by omega, rk, h1, h2, h4⟩, h3⟩
        rintro ρ S6 ⟨ms, val, rfl, R6, L, ml⟩
        have slen : (sortS ws).length = ws.length := sort_len
        have sub1 : ∀ w ∈ sortS ws, w ∈ ws := fun w hw => sort_mem.mp hw
        have l6 : S6.length = S0.length := R6.len
        -- the moves kept
        refine ws_mid (fun ρ S' => ρ = [some d0, some (.loc 0), some (.int lapz), some (.lst (ws.map D.str)), some (.lst (rows.map rowD)), some (sysD ws rows), some (.lst (ms.map mvD)), some (.dct (ws.map Sum.inr) (ws.map fun w => oD (val w))), some (.lst (ms.map mvD)), x9, x10, x11, x12, x13] ∧ S' = S6) ?_ ?_
        · simp -implicitDefEqProofs only [WR_ok, WS_ok, WR_bind, w_c, w_bin, boolP_b, notP_b, w_not, w_and, w_or, w_if, w_chain, w_evs0, w_evs, w_call, w_callK, w_tup, w_lst, w_cell, cellP_lst, cellP_dct, negP_i, w_neg, w_fld, w_methC, w_make, w_makeZ, ws_next, ws_brk, ws_ct, ws_seq, ws_asg, ws_ret, ws_drop, ws_if, ws_par, ws_unp, ws_sto, ws_stoF, ws_for, wi_seq, wi_rng1, wi_enum, seqP_lst, seqP_klst, seqP_tup, seqP_ktup, rngP_i, enumP_lst, goP_nx, goP_ret, goP_ct, goP_brk, goP_er, bodyP_nx, bodyP_ret, bodyP_er, turnP_nx, turnP_ct, turnP_brk, turnP_ret, turnP_er, w_run, startD, List.map_cons, List.map_nil, List.length_cons, List.length_nil, List.replicate, List.cons_append, List.nil_append, List.append_nil, List.getElem?_cons_zero, List.getElem?_cons_succ, List.set_cons_zero, List.set_cons_succ, w_v, slotP_s, w_addI, w_subI, w_mulI, w_divI, w_modI, w_powI, w_ltI, w_leI, w_gtI, w_geI, w_isN, w_notN, isNon_n, isNon_i, isNon_t, isNon_s, w_intI, w_intB, w_absI, w_maxI, w_minI, decide_eq_true_eq, Bool.not_eq_true, if_true, if_false, ite_true, ite_false, reduceCtorEq, Bool.false_eq_true, Bool.not_true, Bool.not_false, eq_self_iff_true, true_and, and_true, w_eqI, w_neI, w_ixT, w_ixL, ixP_s, at2_0, at2_1, at2_m1, at4_0, at4_1, at4_2, at4_3, at4_m1, at7_0, at7_1, at7_2, at7_3, at7_4, at7_5, at7_6, at7_m1, oD_none, oD_some, tgP_2, w_appLoc, w_lenLoc, w_lenLst, w_meth, List.length_map, goM_nx, goM_ret, goM_ct, goM_brk, goM_er, wi_str, strP_s, w_listL]
        rintro ρ S7 ⟨rfl, rfl⟩
        -- told twice
        have hne : ∀ (P : D → List Cell → Prop) (E : Nat → D → List Cell → Prop) (S : List Cell) (n : Nat), S[n]? = some (dctC (sortS ws) val) → WR (opNe2 (.loc n) (.dct (ws.map Sum.inr) (ws.map fun w => oD (val w))) S) P E = P (.bl false) S := fun P E S n h => w_neDct (dctV_loc h) rfl sub1 slen
        have hmm2 : ∀ (P : D → List Cell → Prop) (E : Nat → D → List Cell → Prop) (S : List Cell), WR (opNe2 (.lst (ms.map mvD)) (.lst (ms.map mvD)) S) P E = P (.bl false) S := fun P E S => w_neOf (eqD_same seen_lst seen_lst (okD_mvs ms) (by decide))
        refine ws_mid (fun ρ S' => ∃ x9 : Option D, ρ = [some d0, some (.loc 0), some (.int lapz), some (.lst (ws.map D.str)), some (.lst (rows.map rowD)), some (sysD ws rows), some (.lst (ms.map mvD)), some (.dct (ws.map Sum.inr) (ws.map fun w => oD (val w))), some (.lst (ms.map mvD)), x9, x10, x11, x12, x13] ∧ ∃ S0, RS S0 0 (10000 * i + 5000) S' ∧ PureS S0 ∧ 0 < S0.length) ?_ ?_
        · simp -implicitDefEqProofs only [WR_ok, WS_ok, WR_bind, w_c, w_bin, boolP_b, notP_b, w_not, w_and, w_or, w_if, w_chain, w_evs0, w_evs, w_call, w_callK, w_tup, w_lst, w_cell, cellP_lst, cellP_dct, negP_i, w_neg, w_fld, w_methC, w_make, w_makeZ, ws_next, ws_brk, ws_ct, ws_seq, ws_asg, ws_ret, ws_drop, ws_if, ws_par, ws_unp, ws_sto, ws_stoF, ws_for, wi_seq, wi_rng1, wi_enum, seqP_lst, seqP_klst, seqP_tup, seqP_ktup, rngP_i, enumP_lst, goP_nx, goP_ret, goP_ct, goP_brk, goP_er, bodyP_nx, bodyP_ret, bodyP_er, turnP_nx, turnP_ct, turnP_brk, turnP_ret, turnP_er, w_run, startD, List.map_cons, List.map_nil, List.length_cons, List.length_nil, List.replicate, List.cons_append, List.nil_append, List.append_nil, List.getElem?_cons_zero, List.getElem?_cons_succ, List.set_cons_zero, List.set_cons_succ, w_v, slotP_s, w_addI, w_subI, w_mulI, w_divI, w_modI, w_powI, w_ltI, w_leI, w_gtI, w_geI, w_isN, w_notN, isNon_n, isNon_i, isNon_t, isNon_s, w_intI, w_intB, w_absI, w_maxI, w_minI, decide_eq_true_eq, Bool.not_eq_true, if_true, if_false, ite_true, ite_false, reduceCtorEq, Bool.false_eq_true, Bool.not_true, Bool.not_false, eq_self_iff_true, true_and, and_true, w_eqI, w_neI, w_ixT, w_ixL, ixP_s, at2_0, at2_1, at2_m1, at4_0, at4_1, at4_2, at4_3, at4_m1, at7_0, at7_1, at7_2, at7_3, at7_4, at7_5, at7_6, at7_m1, oD_none, oD_some, tgP_2, w_appLoc, w_lenLoc, w_lenLst, w_meth, List.length_map, goM_nx, goM_ret, goM_ct, goM_brk, goM_er, wi_str, strP_s]
          refine (spec_behind L.wl L.nd L.rk L.run L.pre).call ?_
          rintro _ S8 ⟨rfl, rfl⟩
          simp -implicitDefEqProofs only [WR_ok, WS_ok, WR_bind, w_c, w_bin, boolP_b, notP_b, w_not, w_and, w_or, w_if, w_chain, w_evs0, w_evs, w_call, w_callK, w_tup, w_lst, w_cell, cellP_lst, cellP_dct, negP_i, w_neg, w_fld, w_methC, w_make, w_makeZ, ws_next, ws_brk, ws_ct, ws_seq, ws_asg, ws_ret, ws_drop, ws_if, ws_par, ws_unp, ws_sto, ws_stoF, ws_for, wi_seq, wi_rng1, wi_enum, seqP_lst, seqP_klst, seqP_tup, seqP_ktup, rngP_i, enumP_lst, goP_nx, goP_ret, goP_ct, goP_brk, goP_er, bodyP_nx, bodyP_ret, bodyP_er, turnP_nx, turnP_ct, turnP_brk, turnP_ret, turnP_er, w_run, startD, List.map_cons, List.map_nil, List.length_cons, List.length_nil, List.replicate, List.cons_append, List.nil_append, List.append_nil, List.getElem?_cons_zero, List.getElem?_cons_succ, List.set_cons_zero, List.set_cons_succ, w_v, slotP_s, w_addI, w_subI, w_mulI, w_divI, w_modI, w_powI, w_ltI, w_leI, w_gtI, w_geI, w_isN, w_notN, isNon_n, isNon_i, isNon_t, isNon_s, w_intI, w_intB, w_absI, w_maxI, w_minI, decide_eq_true_eq, Bool.not_eq_true, if_true, if_false, ite_true, ite_false, reduceCtorEq, Bool.false_eq_true, Bool.not_true, Bool.not_false, eq_self_iff_true, true_and, and_true, w_eqI, w_neI, w_ixT, w_ixL, ixP_s, at2_0, at2_1, at2_m1, at4_0, at4_1, at4_2, at4_3, at4_m1, at7_0, at7_1, at7_2, at7_3, at7_4, at7_5, at7_6, at7_m1, oD_none, oD_some, tgP_2, w_appLoc, w_lenLoc, w_lenLst, w_meth, List.length_map, goM_nx, goM_ret, goM_ct, goM_brk, goM_er, wi_str, strP_s, pick_10]
          refine (spec_behind L.wl L.nd L.rk L.run L.pre).call ?_
          rintro _ S9 ⟨rfl, rfl⟩
          have ha : (S7 ++ [dctC (sortS ws) val] ++ [dctC (sortS ws) val])[S7.length]? = some (dctC (sortS ws) val) := by simp
          have hb1 : (S7 ++ [Cell.dct [] []] ++ [dctC (sortS ws) val])[(S7 ++ [dctC (sortS ws) val]).length]? = some (dctC (sortS ws) val) := by simp
          have sa : (S7 ++ [dctC (sortS ws) val] ++ [dctC (sortS ws) val]).set S7.length (.dct [] []) = S7 ++ [Cell.dct [] []] ++ [dctC (sortS ws) val] := put_mid
          simp -implicitDefEqProofs only [WR_ok, WS_ok, WR_bind, w_c, w_bin, boolP_b, notP_b, w_not, w_and, w_or, w_if, w_chain, w_evs0, w_evs, w_call, w_callK, w_tup, w_lst, w_cell, cellP_lst, cellP_dct, negP_i, w_neg, w_fld, w_methC, w_make, w_makeZ, ws_next, ws_brk, ws_ct, ws_seq, ws_asg, ws_ret, ws_drop, ws_if, ws_par, ws_unp, ws_sto, ws_stoF, ws_for, wi_seq, wi_rng1, wi_enum, seqP_lst, seqP_klst, seqP_tup, seqP_ktup, rngP_i, enumP_lst, goP_nx, goP_ret, goP_ct, goP_brk, goP_er, bodyP_nx, bodyP_ret, bodyP_er, turnP_nx, turnP_ct, turnP_brk, turnP_ret, turnP_er, w_run, startD, List.map_cons, List.map_nil, List.length_cons, List.length_nil, List.replicate, List.cons_append, List.nil_append, List.append_nil, List.getElem?_cons_zero, List.getElem?_cons_succ, List.set_cons_zero, List.set_cons_succ, w_v, slotP_s, w_addI, w_subI, w_mulI, w_divI, w_modI, w_powI, w_ltI, w_leI, w_gtI, w_geI, w_isN, w_notN, isNon_n, isNon_i, isNon_t, isNon_s, w_intI, w_intB, w_absI, w_maxI, w_minI, decide_eq_true_eq, Bool.not_eq_true, if_true, if_false, ite_true, ite_false, reduceCtorEq, Bool.false_eq_true, Bool.not_true, Bool.not_false, eq_self_iff_true, true_and, and_true, w_eqI, w_neI, w_ixT, w_ixL, ixP_s, at2_0, at2_1, at2_m1, at4_0, at4_1, at4_2, at4_3, at4_m1, at7_0, at7_1, at7_2, at7_3, at7_4, at7_5, at7_6, at7_m1, oD_none, oD_some, tgP_2, w_appLoc, w_lenLoc, w_lenLst, w_meth, List.length_map, goM_nx, goM_ret, goM_ct, goM_brk, goM_er, wi_str, strP_s, forD_cons0, forD_nil0, tgT'_1, hne _ _ _ _ ha, hmm2]
          refine ⟨ty_dct ha, ?_⟩
          rw [w_clear ha, sa]
          simp -implicitDefEqProofs only [WR_ok, WS_ok, WR_bind, w_c, w_bin, boolP_b, notP_b, w_not, w_and, w_or, w_if, w_chain, w_evs0, w_evs, w_call, w_callK, w_tup, w_lst, w_cell, cellP_lst, cellP_dct, negP_i, w_neg, w_fld, w_methC, w_make, w_makeZ, ws_next, ws_brk, ws_ct, ws_seq, ws_asg, ws_ret, ws_drop, ws_if, ws_par, ws_unp, ws_sto, ws_stoF, ws_for, wi_seq, wi_rng1, wi_enum, seqP_lst, seqP_klst, seqP_tup, seqP_ktup, rngP_i, enumP_lst, goP_nx, goP_ret, goP_ct, goP_brk, goP_er, bodyP_nx, bodyP_ret, bodyP_er, turnP_nx, turnP_ct, turnP_brk, turnP_ret, turnP_er, w_run, startD, List.map_cons, List.map_nil, List.length_cons, List.length_nil, List.replicate, List.cons_append, List.nil_append, List.append_nil, List.getElem?_cons_zero, List.getElem?_cons_succ, List.set_cons_zero, List.set_cons_succ, w_v, slotP_s, w_addI, w_subI, w_mulI, w_divI, w_modI, w_powI, w_ltI, w_leI, w_gtI, w_geI, w_isN, w_notN, isNon_n, isNon_i, isNon_t, isNon_s, w_intI, w_intB, w_absI, w_maxI, w_minI, decide_eq_true_eq, Bool.not_eq_true, if_true, if_false, ite_true, ite_false, reduceCtorEq, Bool.false_eq_true, Bool.not_true, Bool.not_false, eq_self_iff_true, true_and, and_true, w_eqI, w_neI, w_ixT, w_ixL, ixP_s, at2_0, at2_1, at2_m1, at4_0, at4_1, at4_2, at4_3, at4_m1, at7_0, at7_1, at7_2, at7_3, at7_4, at7_5, at7_6, at7_m1, oD_none, oD_some, tgP_2, w_appLoc, w_lenLoc, w_lenLst, w_meth, List.length_map, goM_nx, goM_ret, goM_ct, goM_brk, goM_er, wi_str, strP_s, hne _ _ _ _ hb1]
          refine ⟨ty_dct hb1, ?_⟩
          rw [w_clear hb1]
          obtain ⟨R8, q8⟩ := R6.push2 hl0 (.dct [] [])
          obtain ⟨R9, q9⟩ := R8.push2 q8 (dctC (sortS ws) val)
          refine ⟨_, rfl, _, R9.put (k := (S7 ++ [dctC (sortS ws) val]).length) (by simp <;> omega) (.dct [] []), ?_, by simp <;> omega⟩
          intro c hc
          rcases List.mem_or_eq_of_mem_set hc with h | h
          · exact ((hp.app rfl).app (pure_dct _ _)) c h
          · subst h; rfl
        rintro ρ S8 ⟨x9', rfl, Sa, R8, hpa, hla⟩
        -- due
        refine ws_mid (fun ρ S' => ρ = [some d0, some (.loc 0), some (.int lapz), some (.lst (ws.map D.str)), some (.lst (rows.map rowD)), some (sysD ws rows), some (.lst (ms.map mvD)), some (.dct (ws.map Sum.inr) (ws.map fun w => oD (val w))), some (.lst (ms.map mvD)), x9', some (.loc Sa.length), x11, x12, x13] ∧ RS (Sa ++ [dctC ws vals0]) 0 (10000 * i + 5000) S') ?_ ?_
        · simp -implicitDefEqProofs only [WR_ok, WS_ok, WR_bind, w_c, w_bin, boolP_b, notP_b, w_not, w_and, w_or, w_if, w_chain, w_evs0, w_evs, w_call, w_callK, w_tup, w_lst, w_cell, cellP_lst, cellP_dct, negP_i, w_neg, w_fld, w_methC, w_make, w_makeZ, ws_next, ws_brk, ws_ct, ws_seq, ws_asg, ws_ret, ws_drop, ws_if, ws_par, ws_unp, ws_sto, ws_stoF, ws_for, wi_seq, wi_rng1, wi_enum, seqP_lst, seqP_klst, seqP_tup, seqP_ktup, rngP_i, enumP_lst, goP_nx, goP_ret, goP_ct, goP_brk, goP_er, bodyP_nx, bodyP_ret, bodyP_er, turnP_nx, turnP_ct, turnP_brk, turnP_ret, turnP_er, w_run, startD, List.map_cons, List.map_nil, List.length_cons, List.length_nil, List.replicate, List.cons_append, List.nil_append, List.append_nil, List.getElem?_cons_zero, List.getElem?_cons_succ, List.set_cons_zero, List.set_cons_succ, w_v, slotP_s, w_addI, w_subI, w_mulI, w_divI, w_modI, w_powI, w_ltI, w_leI, w_gtI, w_geI, w_isN, w_notN, isNon_n, isNon_i, isNon_t, isNon_s, w_intI, w_intB, w_absI, w_maxI, w_minI, decide_eq_true_eq, Bool.not_eq_true, if_true, if_false, ite_true, ite_false, reduceCtorEq, Bool.false_eq_true, Bool.not_true, Bool.not_false, eq_self_iff_true, true_and, and_true, w_eqI, w_neI, w_ixT, w_ixL, ixP_s, at2_0, at2_1, at2_m1, at4_0, at4_1, at4_2, at4_3, at4_m1, at7_0, at7_1, at7_2, at7_3, at7_4, at7_5, at7_6, at7_m1, oD_none, oD_some, tgP_2, w_appLoc, w_lenLoc, w_lenLst, w_meth, List.length_map, goM_nx, goM_ret, goM_ct, goM_brk, goM_er, wi_str, strP_s, w_comp]
          refine compStr (c := none) (src := D.str) (tgt := fun w => .tup [.str w, .non]) (xs := ws) trivial (by unfold big; omega) (fun w hw => ?_) ?_
          · simp -implicitDefEqProofs only [WR_ok, WS_ok, WR_bind, w_c, w_bin, boolP_b, notP_b, w_not, w_and, w_or, w_if, w_chain, w_evs0, w_evs, w_call, w_callK, w_tup, w_lst, w_cell, cellP_lst, cellP_dct, negP_i, w_neg, w_fld, w_methC, w_make, w_makeZ, ws_next, ws_brk, ws_ct, ws_seq, ws_asg, ws_ret, ws_drop, ws_if, ws_par, ws_unp, ws_sto, ws_stoF, ws_for, wi_seq, wi_rng1, wi_enum, seqP_lst, seqP_klst, seqP_tup, seqP_ktup, rngP_i, enumP_lst, goP_nx, goP_ret, goP_ct, goP_brk, goP_er, bodyP_nx, bodyP_ret, bodyP_er, turnP_nx, turnP_ct, turnP_brk, turnP_ret, turnP_er, w_run, startD, List.map_cons, List.map_nil, List.length_cons, List.length_nil, List.replicate, List.cons_append, List.nil_append, List.append_nil, List.getElem?_cons_zero, List.getElem?_cons_succ, List.set_cons_zero, List.set_cons_succ, w_v, slotP_s, w_addI, w_subI, w_mulI, w_divI, w_modI, w_powI, w_ltI, w_leI, w_gtI, w_geI, w_isN, w_notN, isNon_n, isNon_i, isNon_t, isNon_s, w_intI, w_intB, w_absI, w_maxI, w_minI, decide_eq_true_eq, Bool.not_eq_true, if_true, if_false, ite_true, ite_false, reduceCtorEq, Bool.false_eq_true, Bool.not_true, Bool.not_false, eq_self_iff_true, true_and, and_true, w_eqI, w_neI, w_ixT, w_ixL, ixP_s, at2_0, at2_1, at2_m1, at4_0, at4_1, at4_2, at4_3, at4_m1, at7_0, at7_1, at7_2, at7_3, at7_4, at7_5, at7_6, at7_m1, oD_none, oD_some, tgP_2, w_appLoc, w_lenLoc, w_lenLst, w_meth, List.length_map, goM_nx, goM_ret, goM_ct, goM_brk, goM_er, wi_str, strP_s, tgT'_1, wipeD]
          · rw [w_dictWs L.nd]
            simp -implicitDefEqProofs only [WR_ok, WS_ok, WR_bind, w_c, w_bin, boolP_b, notP_b, w_not, w_and, w_or, w_if, w_chain, w_evs0, w_evs, w_call, w_callK, w_tup, w_lst, w_cell, cellP_lst, cellP_dct, negP_i, w_neg, w_fld, w_methC, w_make, w_makeZ, ws_next, ws_brk, ws_ct, ws_seq, ws_asg, ws_ret, ws_drop, ws_if, ws_par, ws_unp, ws_sto, ws_stoF, ws_for, wi_seq, wi_rng1, wi_enum, seqP_lst, seqP_klst, seqP_tup, seqP_ktup, rngP_i, enumP_lst, goP_nx, goP_ret, goP_ct, goP_brk, goP_er, bodyP_nx, bodyP_ret, bodyP_er, turnP_nx, turnP_ct, turnP_brk, turnP_ret, turnP_er, w_run, startD, List.map_cons, List.map_nil, List.length_cons, List.length_nil, List.replicate, List.cons_append, List.nil_append, List.append_nil, List.getElem?_cons_zero, List.getElem?_cons_succ, List.set_cons_zero, List.set_cons_succ, w_v, slotP_s, w_addI, w_subI, w_mulI, w_divI, w_modI, w_powI, w_ltI, w_leI, w_gtI, w_geI, w_isN, w_notN, isNon_n, isNon_i, isNon_t, isNon_s, w_intI, w_intB, w_absI, w_maxI, w_minI, decide_eq_true_eq, Bool.not_eq_true, if_true, if_false, ite_true, ite_false, reduceCtorEq, Bool.false_eq_true, Bool.not_true, Bool.not_false, eq_self_iff_true, true_and, and_true, w_eqI, w_neI, w_ixT, w_ixL, ixP_s, at2_0, at2_1, at2_m1, at4_0, at4_1, at4_2, at4_3, at4_m1, at7_0, at7_1, at7_2, at7_3, at7_4, at7_5, at7_6, at7_m1, oD_none, oD_some, tgP_2, w_appLoc, w_lenLoc, w_lenLst, w_meth, List.length_map, goM_nx, goM_ret, goM_ct, goM_brk, goM_er, wi_str, strP_s]
            exact ⟨by rw [R8.len], R8.push hla _⟩
        rintro ρ S9 ⟨rfl, R9⟩
        -- the beginnings of the run
        refine ws_mid (fun ρ S' => ∃ x11 : Option D, ρ = [some d0, some (.loc 0), some (.int lapz), some (.lst (ws.map D.str)), some (.lst (rows.map rowD)), some (sysD ws rows), some (.lst (ms.map mvD)), some (.dct (ws.map Sum.inr) (ws.map fun w => oD (val w))), some (.lst (ms.map mvD)), x9', some (.loc Sa.length), x11, x12, x13] ∧ ∃ S0, RS S0 0 (10000 * i + 5000) S' ∧ PureS S0 ∧ 0 < S0.length) ?_ ?_
        · simp -implicitDefEqProofs only [WR_ok, WS_ok, WR_bind, w_c, w_bin, boolP_b, notP_b, w_not, w_and, w_or, w_if, w_chain, w_evs0, w_evs, w_call, w_callK, w_tup, w_lst, w_cell, cellP_lst, cellP_dct, negP_i, w_neg, w_fld, w_methC, w_make, w_makeZ, ws_next, ws_brk, ws_ct, ws_seq, ws_asg, ws_ret, ws_drop, ws_if, ws_par, ws_unp, ws_sto, ws_stoF, ws_for, wi_seq, wi_rng1, wi_enum, seqP_lst, seqP_klst, seqP_tup, seqP_ktup, rngP_i, enumP_lst, goP_nx, goP_ret, goP_ct, goP_brk, goP_er, bodyP_nx, bodyP_ret, bodyP_er, turnP_nx, turnP_ct, turnP_brk, turnP_ret, turnP_er, w_run, startD, List.map_cons, List.map_nil, List.length_cons, List.length_nil, List.replicate, List.cons_append, List.nil_append, List.append_nil, List.getElem?_cons_zero, List.getElem?_cons_succ, List.set_cons_zero, List.set_cons_succ, w_v, slotP_s, w_addI, w_subI, w_mulI, w_divI, w_modI, w_powI, w_ltI, w_leI, w_gtI, w_geI, w_isN, w_notN, isNon_n, isNon_i, isNon_t, isNon_s, w_intI, w_intB, w_absI, w_maxI, w_minI, decide_eq_true_eq, Bool.not_eq_true, if_true, if_false, ite_true, ite_false, reduceCtorEq, Bool.false_eq_true, Bool.not_true, Bool.not_false, eq_self_iff_true, true_and, and_true, w_eqI, w_neI, w_ixT, w_ixL, ixP_s, at2_0, at2_1, at2_m1, at4_0, at4_1, at4_2, at4_3, at4_m1, at7_0, at7_1, at7_2, at7_3, at7_4, at7_5, at7_6, at7_m1, oD_none, oD_some, tgP_2, w_appLoc, w_lenLoc, w_lenLst, w_meth, List.length_map, goM_nx, goM_ret, goM_ct, goM_brk, goM_er, wi_str, strP_s]
          generalize hcn : (if (6 : Int) < ((ms.length : Nat) : Int) then (6 : Int) else ((ms.length : Nat) : Int)) = cn
          have hcn2 : 0 ≤ cn ∧ cn ≤ 6 ∧ cn ≤ ms.length := by subst hcn; split <;> omega
          refine ⟨by unfold rngOk; simp; omega, ?_⟩
          refine for_inv (fun j ρ S' => ∃ x11 : Option D, ρ = [some d0, some (.loc 0), some (.int lapz), some (.lst (ws.map D.str)), some (.lst (rows.map rowD)), some (sysD ws rows), some (.lst (ms.map mvD)), some (.dct (ws.map Sum.inr) (ws.map fun w => oD (val w))), some (.lst (ms.map mvD)), x9', some (.loc Sa.length), x11, x12, x13] ∧ ∃ (G : List Cell) (v : Str → Option Int), RS (Sa ++ [dctC ws v] ++ G) 0 (10000 * i + 5000) S' ∧ PureS G ∧ runV rows vals0 (ms.take j) = some v)
            ⟨_, rfl, [], vals0, by simpa using R9, fun c hc => by simp at hc, by simp [runV]⟩ (fun _ _ _ _ => trivial) ?_ ?_
          · rintro j d ρ Sb hj ⟨x11', rfl, G, v, Rb, hpG, hrj⟩
            have hj2 : j < ms.length := by
              have := (List.getElem?_eq_some_iff.mp hj).1
              simp [intsD] at this
              omega
            obtain ⟨sp, rfl, hsp⟩ : ∃ sp : Int, d = .int sp ∧ sp = (j : Nat) := by
              have hj0 := (List.getElem?_eq_some_iff.mp hj).1
              simp only [intsD, List.length_map, List.length_range] at hj0
              unfold intsD at hj
              rw [List.getElem?_map, List.getElem?_range hj0] at hj
              cases hj
              exact ⟨_, rfl, by omega⟩
            rw [tgT'_1]
            have hdue : ∀ (m : Nat) (S : List Cell) (G' : List Cell), RS (Sa ++ [dctC ws v] ++ G') 0 m S → S[Sa.length]? = some (dctC ws v) := fun m S G' R => by
              rw [R.at (by omega)]; simp
            have hsl : ∀ (P : D → List Cell → Prop) (E : Nat → D → List Cell → Prop) (S : List Cell), WR (opSl (.lst (ms.map mvD)) none (some sp) S) P E = P (.lst ((ms.take j).map mvD)) S := by
              intro P E S
              show P (.lst (cutD (ms.map mvD) none (some sp))) S = _
              rw [hsp, cutD_take (by simp; omega), List.map_take]
            have hlb : 0 < (Sa ++ [dctC ws v] ++ G).length := by simp <;> omega
            have bpre : ∀ k v', runV rows vals0 ((ms.take j).take k) = some v' → valBnd (10 ^ 31) v' := fun k v' h => L.pre _ v' (by rw [List.take_take] at h; exact h)
            refine ws_mid (fun ρ S' => ρ = [some d0, some (.loc 0), some (.int lapz), some (.lst (ws.map D.str)), some (.lst (rows.map rowD)), some (sysD ws rows), some (.lst (ms.map mvD)), some (.dct (ws.map Sum.inr) (ws.map fun w => oD (val w))), some (.lst (ms.map mvD)), x9', some (.loc Sa.length), some (.int sp), x12, x13] ∧ RS (Sa ++ [dctC ws v] ++ (G ++ [dctC (sortS ws) v])) 0 (10000 * i + 5000) S') ?_ ?_
            · simp -implicitDefEqProofs only [WR_ok, WS_ok, WR_bind, w_c, w_bin, boolP_b, notP_b, w_not, w_and, w_or, w_if, w_chain, w_evs0, w_evs, w_call, w_callK, w_tup, w_lst, w_cell, cellP_lst, cellP_dct, negP_i, w_neg, w_fld, w_methC, w_make, w_makeZ, ws_next, ws_brk, ws_ct, ws_seq, ws_asg, ws_ret, ws_drop, ws_if, ws_par, ws_unp, ws_sto, ws_stoF, ws_for, wi_seq, wi_rng1, wi_enum, seqP_lst, seqP_klst, seqP_tup, seqP_ktup, rngP_i, enumP_lst, goP_nx, goP_ret, goP_ct, goP_brk, goP_er, bodyP_nx, bodyP_ret, bodyP_er, turnP_nx, turnP_ct, turnP_brk, turnP_ret, turnP_er, w_run, startD, List.map_cons, List.map_nil, List.length_cons, List.length_nil, List.replicate, List.cons_append, List.nil_append, List.append_nil, List.getElem?_cons_zero, List.getElem?_cons_succ, List.set_cons_zero, List.set_cons_succ, w_v, slotP_s, w_addI, w_subI, w_mulI, w_divI, w_modI, w_powI, w_ltI, w_leI, w_gtI, w_geI, w_isN, w_notN, isNon_n, isNon_i, isNon_t, isNon_s, w_intI, w_intB, w_absI, w_maxI, w_minI, decide_eq_true_eq, Bool.not_eq_true, if_true, if_false, ite_true, ite_false, reduceCtorEq, Bool.false_eq_true, Bool.not_true, Bool.not_false, eq_self_iff_true, true_and, and_true, w_eqI, w_neI, w_ixT, w_ixL, ixP_s, at2_0, at2_1, at2_m1, at4_0, at4_1, at4_2, at4_3, at4_m1, at7_0, at7_1, at7_2, at7_3, at7_4, at7_5, at7_6, at7_m1, oD_none, oD_some, tgP_2, w_appLoc, w_lenLoc, w_lenLst, w_meth, List.length_map, goM_nx, goM_ret, goM_ct, goM_brk, goM_er, wi_str, strP_s, w_sl, w_part0, w_part, partP_i, hsl]
              refine (spec_behind L.wl L.nd L.rk hrj bpre).call ?_
              rintro _ Sc ⟨rfl, rfl⟩
              have Rc := Rb.push hlb (dctC (sortS ws) v)
              rw [List.append_assoc (Sa ++ [dctC ws v])] at Rc
              rw [w_neDct (dctV_loc (val := v) (by simp)) (dctV_loc (hdue _ _ _ Rc)) sub1 slen]
              simp -implicitDefEqProofs only [WR_ok, WS_ok, WR_bind, w_c, w_bin, boolP_b, notP_b, w_not, w_and, w_or, w_if, w_chain, w_evs0, w_evs, w_call, w_callK, w_tup, w_lst, w_cell, cellP_lst, cellP_dct, negP_i, w_neg, w_fld, w_methC, w_make, w_makeZ, ws_next, ws_brk, ws_ct, ws_seq, ws_asg, ws_ret, ws_drop, ws_if, ws_par, ws_unp, ws_sto, ws_stoF, ws_for, wi_seq, wi_rng1, wi_enum, seqP_lst, seqP_klst, seqP_tup, seqP_ktup, rngP_i, enumP_lst, goP_nx, goP_ret, goP_ct, goP_brk, goP_er, bodyP_nx, bodyP_ret, bodyP_er, turnP_nx, turnP_ct, turnP_brk, turnP_ret, turnP_er, w_run, startD, List.map_cons, List.map_nil, List.length_cons, List.length_nil, List.replicate, List.cons_append, List.nil_append, List.append_nil, List.getElem?_cons_zero, List.getElem?_cons_succ, List.set_cons_zero, List.set_cons_succ, w_v, slotP_s, w_addI, w_subI, w_mulI, w_divI, w_modI, w_powI, w_ltI, w_leI, w_gtI, w_geI, w_isN, w_notN, isNon_n, isNon_i, isNon_t, isNon_s, w_intI, w_intB, w_absI, w_maxI, w_minI, decide_eq_true_eq, Bool.not_eq_true, if_true, if_false, ite_true, ite_false, reduceCtorEq, Bool.false_eq_true, Bool.not_true, Bool.not_false, eq_self_iff_true, true_and, and_true, w_eqI, w_neI, w_ixT, w_ixL, ixP_s, at2_0, at2_1, at2_m1, at4_0, at4_1, at4_2, at4_3, at4_m1, at7_0, at7_1, at7_2, at7_3, at7_4, at7_5, at7_6, at7_m1, oD_none, oD_some, tgP_2, w_appLoc, w_lenLoc, w_lenLst, w_meth, List.length_map, goM_nx, goM_ret, goM_ct, goM_brk, goM_er, wi_str, strP_s]
              exact Rc
            rintro ρ Sc ⟨rfl, Rc⟩
            -- one move more
            obtain ⟨m, hm⟩ : ∃ m, ms[j]? = some m := ⟨_, List.getElem?_eq_getElem hj2⟩
            obtain ⟨v2, hv2⟩ := runV_take L.run (j + 1)
            have htk : ms.take (j + 1) = ms.take j ++ [m] := by
              rw [List.take_add_one, hm]; rfl
            have hv3 := hv2
            rw [htk, runV_app hrj] at hv3
            unfold runV at hv3
            split at hv3
            · rename_i row xv e1 e2
              have hv4 : v2 = upV v row.name (some xv) := by unfold runV at hv3; cases hv3; rfl
              have hn := nextV_ok e2
              obtain ⟨row', hrow, hat, hat'⟩ := row_at hn
              rw [e1] at hat
              cases hat
              have ok := L.rk row hrow
              have hnw : row.name ∈ ws := ok.nm _ (by cases row <;> simp [Row.name, Row.names])
              have hmv : atD (ms.map mvD) sp = some (.tup [.int m.1, oD m.2]) := by
                rw [hsp]
                exact atD_nat (by rw [List.getElem?_map, hm]; rfl)
              have H : HeldOk Sc Sa.length ws v := ⟨hdue _ _ _ Rc, L.pre j v hrj⟩
              simp -implicitDefEqProofs only [WR_ok, WS_ok, WR_bind, w_c, w_bin, boolP_b, notP_b, w_not, w_and, w_or, w_if, w_chain, w_evs0, w_evs, w_call, w_callK, w_tup, w_lst, w_cell, cellP_lst, cellP_dct, negP_i, w_neg, w_fld, w_methC, w_make, w_makeZ, ws_next, ws_brk, ws_ct, ws_seq, ws_asg, ws_ret, ws_drop, ws_if, ws_par, ws_unp, ws_sto, ws_stoF, ws_for, wi_seq, wi_rng1, wi_enum, seqP_lst, seqP_klst, seqP_tup, seqP_ktup, rngP_i, enumP_lst, goP_nx, goP_ret, goP_ct, goP_brk, goP_er, bodyP_nx, bodyP_ret, bodyP_er, turnP_nx, turnP_ct, turnP_brk, turnP_ret, turnP_er, w_run, startD, List.map_cons, List.map_nil, List.length_cons, List.length_nil, List.replicate, List.cons_append, List.nil_append, List.append_nil, List.getElem?_cons_zero, List.getElem?_cons_succ, List.set_cons_zero, List.set_cons_succ, w_v, slotP_s, w_addI, w_subI, w_mulI, w_divI, w_modI, w_powI, w_ltI, w_leI, w_gtI, w_geI, w_isN, w_notN, isNon_n, isNon_i, isNon_t, isNon_s, w_intI, w_intB, w_absI, w_maxI, w_minI, decide_eq_true_eq, Bool.not_eq_true, if_true, if_false, ite_true, ite_false, reduceCtorEq, Bool.false_eq_true, Bool.not_true, Bool.not_false, eq_self_iff_true, true_and, and_true, w_eqI, w_neI, w_ixT, w_ixL, ixP_s, at2_0, at2_1, at2_m1, at4_0, at4_1, at4_2, at4_3, at4_m1, at7_0, at7_1, at7_2, at7_3, at7_4, at7_5, at7_6, at7_m1, oD_none, oD_some, tgP_2, w_appLoc, w_lenLoc, w_lenLst, w_meth, List.length_map, goM_nx, goM_ret, goM_ct, goM_brk, goM_er, wi_str, strP_s, hmv, hat', row_1]
              refine (spec_next (ks := ws) (ws := ws) H L.rk (fun w hw => hw) L.ok).call ?_
              rintro _ Sd ⟨rfl, rfl⟩
              rw [e2]
              simp -implicitDefEqProofs only [WR_ok, WS_ok, WR_bind, w_c, w_bin, boolP_b, notP_b, w_not, w_and, w_or, w_if, w_chain, w_evs0, w_evs, w_call, w_callK, w_tup, w_lst, w_cell, cellP_lst, cellP_dct, negP_i, w_neg, w_fld, w_methC, w_make, w_makeZ, ws_next, ws_brk, ws_ct, ws_seq, ws_asg, ws_ret, ws_drop, ws_if, ws_par, ws_unp, ws_sto, ws_stoF, ws_for, wi_seq, wi_rng1, wi_enum, seqP_lst, seqP_klst, seqP_tup, seqP_ktup, rngP_i, enumP_lst, goP_nx, goP_ret, goP_ct, goP_brk, goP_er, bodyP_nx, bodyP_ret, bodyP_er, turnP_nx, turnP_ct, turnP_brk, turnP_ret, turnP_er, w_run, startD, List.map_cons, List.map_nil, List.length_cons, List.length_nil, List.replicate, List.cons_append, List.nil_append, List.append_nil, List.getElem?_cons_zero, List.getElem?_cons_succ, List.set_cons_zero, List.set_cons_succ, w_v, slotP_s, w_addI, w_subI, w_mulI, w_divI, w_modI, w_powI, w_ltI, w_leI, w_gtI, w_geI, w_isN, w_notN, isNon_n, isNon_i, isNon_t, isNon_s, w_intI, w_intB, w_absI, w_maxI, w_minI, decide_eq_true_eq, Bool.not_eq_true, if_true, if_false, ite_true, ite_false, reduceCtorEq, Bool.false_eq_true, Bool.not_true, Bool.not_false, eq_self_iff_true, true_and, and_true, w_eqI, w_neI, w_ixT, w_ixL, ixP_s, at2_0, at2_1, at2_m1, at4_0, at4_1, at4_2, at4_3, at4_m1, at7_0, at7_1, at7_2, at7_3, at7_4, at7_5, at7_6, at7_m1, oD_none, oD_some, tgP_2, w_appLoc, w_lenLoc, w_lenLst, w_meth, List.length_map, goM_nx, goM_ret, goM_ct, goM_brk, goM_er, wi_str, strP_s, hmv, hat', row_1]
              rw [← oD_some, setP_dct H.at_ hnw L.nd (by have := L.wl; unfold big; omega)]
              simp -implicitDefEqProofs only [WR_ok, WS_ok, WR_bind, w_c, w_bin, boolP_b, notP_b, w_not, w_and, w_or, w_if, w_chain, w_evs0, w_evs, w_call, w_callK, w_tup, w_lst, w_cell, cellP_lst, cellP_dct, negP_i, w_neg, w_fld, w_methC, w_make, w_makeZ, ws_next, ws_brk, ws_ct, ws_seq, ws_asg, ws_ret, ws_drop, ws_if, ws_par, ws_unp, ws_sto, ws_stoF, ws_for, wi_seq, wi_rng1, wi_enum, seqP_lst, seqP_klst, seqP_tup, seqP_ktup, rngP_i, enumP_lst, goP_nx, goP_ret, goP_ct, goP_brk, goP_er, bodyP_nx, bodyP_ret, bodyP_er, turnP_nx, turnP_ct, turnP_brk, turnP_ret, turnP_er, w_run, startD, List.map_cons, List.map_nil, List.length_cons, List.length_nil, List.replicate, List.cons_append, List.nil_append, List.append_nil, List.getElem?_cons_zero, List.getElem?_cons_succ, List.set_cons_zero, List.set_cons_succ, w_v, slotP_s, w_addI, w_subI, w_mulI, w_divI, w_modI, w_powI, w_ltI, w_leI, w_gtI, w_geI, w_isN, w_notN, isNon_n, isNon_i, isNon_t, isNon_s, w_intI, w_intB, w_absI, w_maxI, w_minI, decide_eq_true_eq, Bool.not_eq_true, if_true, if_false, ite_true, ite_false, reduceCtorEq, Bool.false_eq_true, Bool.not_true, Bool.not_false, eq_self_iff_true, true_and, and_true, w_eqI, w_neI, w_ixT, w_ixL, ixP_s, at2_0, at2_1, at2_m1, at4_0, at4_1, at4_2, at4_3, at4_m1, at7_0, at7_1, at7_2, at7_3, at7_4, at7_5, at7_6, at7_m1, oD_none, oD_some, tgP_2, w_appLoc, w_lenLoc, w_lenLst, w_meth, List.length_map, goM_nx, goM_ret, goM_ct, goM_brk, goM_er, wi_str, strP_s]
              refine ⟨_, rfl, G ++ [dctC (sortS ws) v], v2, ?_, hpG.app (pure_dct _ _), hv2⟩
              have := Rc.put (k := Sa.length) (by omega) (dctC ws (upV v row.name (some xv)))
              rw [put_mid] at this
              rw [hv4]
              exact this
            · cases hv3
          · rintro ρ Sb ⟨x11', rfl, G, v, Rb, hpG, hrj⟩
            simp -implicitDefEqProofs only [WR_ok, WS_ok, WR_bind, w_c, w_bin, boolP_b, notP_b, w_not, w_and, w_or, w_if, w_chain, w_evs0, w_evs, w_call, w_callK, w_tup, w_lst, w_cell, cellP_lst, cellP_dct, negP_i, w_neg, w_fld, w_methC, w_make, w_makeZ, ws_next, ws_brk, ws_ct, ws_seq, ws_asg, ws_ret, ws_drop, ws_if, ws_par, ws_unp, ws_sto, ws_stoF, ws_for, wi_seq, wi_rng1, wi_enum, seqP_lst, seqP_klst, seqP_tup, seqP_ktup, rngP_i, enumP_lst, goP_nx, goP_ret, goP_ct, goP_brk, goP_er, bodyP_nx, bodyP_ret, bodyP_er, turnP_nx, turnP_ct, turnP_brk, turnP_ret, turnP_er, w_run, startD, List.map_cons, List.map_nil, List.length_cons, List.length_nil, List.replicate, List.cons_append, List.nil_append, List.append_nil, List.getElem?_cons_zero, List.getElem?_cons_succ, List.set_cons_zero, List.set_cons_succ, w_v, slotP_s, w_addI, w_subI, w_mulI, w_divI, w_modI, w_powI, w_ltI, w_leI, w_gtI, w_geI, w_isN, w_notN, isNon_n, isNon_i, isNon_t, isNon_s, w_intI, w_intB, w_absI, w_maxI, w_minI, decide_eq_true_eq, Bool.not_eq_true, if_true, if_false, ite_true, ite_false, reduceCtorEq, Bool.false_eq_true, Bool.not_true, Bool.not_false, eq_self_iff_true, true_and, and_true, w_eqI, w_neI, w_ixT, w_ixL, ixP_s, at2_0, at2_1, at2_m1, at4_0, at4_1, at4_2, at4_3, at4_m1, at7_0, at7_1, at7_2, at7_3, at7_4, at7_5, at7_6, at7_m1, oD_none, oD_some, tgP_2, w_appLoc, w_lenLoc, w_lenLst, w_meth, List.length_map, goM_nx, goM_ret, goM_ct, goM_brk, goM_er, wi_str, strP_s]
            refine ⟨_, rfl, _, Rb, ?_, by simp <;> omega⟩
            intro c hc
            rcases List.mem_append.mp hc with h | h
            · exact (hpa.app (pure_dct ws v)) c h
            · exact hpG c h
        rintro ρ Sb ⟨x11', rfl, Sd, Rb, hpd, hld⟩
        -- once more, and the same system again
        simp -implicitDefEqProofs only [WR_ok, WS_ok, WR_bind, w_c, w_bin, boolP_b, notP_b, w_not, w_and, w_or, w_if, w_chain, w_evs0, w_evs, w_call, w_callK, w_tup, w_lst, w_cell, cellP_lst, cellP_dct, negP_i, w_neg, w_fld, w_methC, w_make, w_makeZ, ws_next, ws_brk, ws_ct, ws_seq, ws_asg, ws_ret, ws_drop, ws_if, ws_par, ws_unp, ws_sto, ws_stoF, ws_for, wi_seq, wi_rng1, wi_enum, seqP_lst, seqP_klst, seqP_tup, seqP_ktup, rngP_i, enumP_lst, goP_nx, goP_ret, goP_ct, goP_brk, goP_er, bodyP_nx, bodyP_ret, bodyP_er, turnP_nx, turnP_ct, turnP_brk, turnP_ret, turnP_er, w_run, startD, List.map_cons, List.map_nil, List.length_cons, List.length_nil, List.replicate, List.cons_append, List.nil_append, List.append_nil, List.getElem?_cons_zero, List.getElem?_cons_succ, List.set_cons_zero, List.set_cons_succ, w_v, slotP_s, w_addI, w_subI, w_mulI, w_divI, w_modI, w_powI, w_ltI, w_leI, w_gtI, w_geI, w_isN, w_notN, isNon_n, isNon_i, isNon_t, isNon_s, w_intI, w_intB, w_absI, w_maxI, w_minI, decide_eq_true_eq, Bool.not_eq_true, if_true, if_false, ite_true, ite_false, reduceCtorEq, Bool.false_eq_true, Bool.not_true, Bool.not_false, eq_self_iff_true, true_and, and_true, w_eqI, w_neI, w_ixT, w_ixL, ixP_s, at2_0, at2_1, at2_m1, at4_0, at4_1, at4_2, at4_3, at4_m1, at7_0, at7_1, at7_2, at7_3, at7_4, at7_5, at7_6, at7_m1, oD_none, oD_some, tgP_2, w_appLoc, w_lenLoc, w_lenLst, w_meth, List.length_map, goM_nx, goM_ret, goM_ct, goM_brk, goM_er, wi_str, strP_s]
        refine (spec_behind L.wl L.nd L.rk L.run L.pre).call ?_
        rintro _ Sc ⟨rfl, rfl⟩
        rw [hne _ _ _ _ (by simp)]
        simp -implicitDefEqProofs only [WR_ok, WS_ok, WR_bind, w_c, w_bin, boolP_b, notP_b, w_not, w_and, w_or, w_if, w_chain, w_evs0, w_evs, w_call, w_callK, w_tup, w_lst, w_cell, cellP_lst, cellP_dct, negP_i, w_neg, w_fld, w_methC, w_make, w_makeZ, ws_next, ws_brk, ws_ct, ws_seq, ws_asg, ws_ret, ws_drop, ws_if, ws_par, ws_unp, ws_sto, ws_stoF, ws_for, wi_seq, wi_rng1, wi_enum, seqP_lst, seqP_klst, seqP_tup, seqP_ktup, rngP_i, enumP_lst, goP_nx, goP_ret, goP_ct, goP_brk, goP_er, bodyP_nx, bodyP_ret, bodyP_er, turnP_nx, turnP_ct, turnP_brk, turnP_ret, turnP_er, w_run, startD, List.map_cons, List.map_nil, List.length_cons, List.length_nil, List.replicate, List.cons_append, List.nil_append, List.append_nil, List.getElem?_cons_zero, List.getElem?_cons_succ, List.set_cons_zero, List.set_cons_succ, w_v, slotP_s, w_addI, w_subI, w_mulI, w_divI, w_modI, w_powI, w_ltI, w_leI, w_gtI, w_geI, w_isN, w_notN, isNon_n, isNon_i, isNon_t, isNon_s, w_intI, w_intB, w_absI, w_maxI, w_minI, decide_eq_true_eq, Bool.not_eq_true, if_true, if_false, ite_true, ite_false, reduceCtorEq, Bool.false_eq_true, Bool.not_true, Bool.not_false, eq_self_iff_true, true_and, and_true, w_eqI, w_neI, w_ixT, w_ixL, ixP_s, at2_0, at2_1, at2_m1, at4_0, at4_1, at4_2, at4_3, at4_m1, at7_0, at7_1, at7_2, at7_3, at7_4, at7_5, at7_6, at7_m1, oD_none, oD_some, tgP_2, w_appLoc, w_lenLoc, w_lenLst, w_meth, List.length_map, goM_nx, goM_ret, goM_ct, goM_brk, goM_er, wi_str, strP_s]
        obtain ⟨Re, qe⟩ := Rb.push2 hld (dctC (sortS ws) val)
        have hpe := hpd.app (pure_dct (sortS ws) val)
        refine w_mkSys (Re.pure hpe) wall wnd (by omega) rk ?_
        rw [w_eqI' L.ok L.rk]
        simp -implicitDefEqProofs only [WR_ok, WS_ok, WR_bind, w_c, w_bin, boolP_b, notP_b, w_not, w_and, w_or, w_if, w_chain, w_evs0, w_evs, w_call, w_callK, w_tup, w_lst, w_cell, cellP_lst, cellP_dct, negP_i, w_neg, w_fld, w_methC, w_make, w_makeZ, ws_next, ws_brk, ws_ct, ws_seq, ws_asg, ws_ret, ws_drop, ws_if, ws_par, ws_unp, ws_sto, ws_stoF, ws_for, wi_seq, wi_rng1, wi_enum, seqP_lst, seqP_klst, seqP_tup, seqP_ktup, rngP_i, enumP_lst, goP_nx, goP_ret, goP_ct, goP_brk, goP_er, bodyP_nx, bodyP_ret, bodyP_er, turnP_nx, turnP_ct, turnP_brk, turnP_ret, turnP_er, w_run, startD, List.map_cons, List.map_nil, List.length_cons, List.length_nil, List.replicate, List.cons_append, List.nil_append, List.append_nil, List.getElem?_cons_zero, List.getElem?_cons_succ, List.set_cons_zero, List.set_cons_succ, w_v, slotP_s, w_addI, w_subI, w_mulI, w_divI, w_modI, w_powI, w_ltI, w_leI, w_gtI, w_geI, w_isN, w_notN, isNon_n, isNon_i, isNon_t, isNon_s, w_intI, w_intB, w_absI, w_maxI, w_minI, decide_eq_true_eq, Bool.not_eq_true, if_true, if_false, ite_true, ite_false, reduceCtorEq, Bool.false_eq_true, Bool.not_true, Bool.not_false, eq_self_iff_true, true_and, and_true, w_eqI, w_neI, w_ixT, w_ixL, ixP_s, at2_0, at2_1, at2_m1, at4_0, at4_1, at4_2, at4_3, at4_m1, at7_0, at7_1, at7_2, at7_3, at7_4, at7_5, at7_6, at7_m1, oD_none, oD_some, tgP_2, w_appLoc, w_lenLoc, w_lenLst, w_meth, List.length_map, goM_nx, goM_ret, goM_ct, goM_brk, goM_er, wi_str, strP_s]
        exact ⟨_, _, _, _, _, _, _, _, _, _, _, _, rfl, _, Re.mono (by omega), hpe, qe⟩
      · rintro ρ S2 ⟨x2, x3, x4, x5, x6, x7, x8, x9, x10, x11, x12, x13, rfl, S0, R2, hp, hl0⟩
        simp -implicitDefEqProofs only [WR_ok, WS_ok, WR_bind, w_c, w_bin, boolP_b, notP_b, w_not, w_and, w_or, w_if, w_chain, w_evs0, w_evs, w_call, w_callK, w_tup, w_lst, w_cell, cellP_lst, cellP_dct, negP_i, w_neg, w_fld, w_methC, w_make, w_makeZ, ws_next, ws_brk, ws_ct, ws_seq, ws_asg, ws_ret, ws_drop, ws_if, ws_par, ws_unp, ws_sto, ws_stoF, ws_for, wi_seq, wi_rng1, wi_enum, seqP_lst, seqP_klst, seqP_tup, seqP_ktup, rngP_i, enumP_lst, goP_nx, goP_ret, goP_ct, goP_brk, goP_er, bodyP_nx, bodyP_ret, bodyP_er, turnP_nx, turnP_ct, turnP_brk, turnP_ret, turnP_er, w_run, startD, List.map_cons, List.map_nil, List.length_cons, List.length_nil, List.replicate, List.cons_append, List.nil_append, List.append_nil, List.getElem?_cons_zero, List.getElem?_cons_succ, List.set_cons_zero, List.set_cons_succ, w_v, slotP_s, w_addI, w_subI, w_mulI, w_divI, w_modI, w_powI, w_ltI, w_leI, w_gtI, w_geI, w_isN, w_notN, isNon_n, isNon_i, isNon_t, isNon_s, w_intI, w_intB, w_absI, w_maxI, w_minI, decide_eq_true_eq, Bool.not_eq_true, if_true, if_false, ite_true, ite_false, reduceCtorEq, Bool.false_eq_true, Bool.not_true, Bool.not_false, eq_self_iff_true, true_and, and_true, w_eqI, w_neI, w_ixT, w_ixL, ixP_s, at2_0, at2_1, at2_m1, at4_0, at4_1, at4_2, at4_3, at4_m1, at7_0, at7_1, at7_2, at7_3, at7_4, at7_5, at7_6, at7_m1, oD_none, oD_some, tgP_2, w_appLoc, w_lenLoc, w_lenLst, w_meth, List.length_map, goM_nx, goM_ret, goM_ct, goM_brk, goM_er, wi_str, strP_s]
        exact ⟨x2, x3, x4, x5, x6, x7, x8, x9, x10, x11, x12, x13, rfl, R2.pure hp⟩
    rintro ρ S2 ⟨x2, x3, x4, x5, x6, x7, x8, x9, x10, x11, x12, x13, rfl, hp⟩
    refine ws_mid (fun ρ S' => ρ = [some d0, some (.loc 0), x2, x3, some (.lst ((rowsF.take 2).map rowD)), x5, x6, x7, x8, x9, x10, x11, x12, x13] ∧ S' = S2) ?_ ?_
    · simp -implicitDefEqProofs only [WR_ok, WS_ok, WR_bind, w_c, w_bin, boolP_b, notP_b, w_not, w_and, w_or, w_if, w_chain, w_evs0, w_evs, w_call, w_callK, w_tup, w_lst, w_cell, cellP_lst, cellP_dct, negP_i, w_neg, w_fld, w_methC, w_make, w_makeZ, ws_next, ws_brk, ws_ct, ws_seq, ws_asg, ws_ret, ws_drop, ws_if, ws_par, ws_unp, ws_sto, ws_stoF, ws_for, wi_seq, wi_rng1, wi_enum, seqP_lst, seqP_klst, seqP_tup, seqP_ktup, rngP_i, enumP_lst, goP_nx, goP_ret, goP_ct, goP_brk, goP_er, bodyP_nx, bodyP_ret, bodyP_er, turnP_nx, turnP_ct, turnP_brk, turnP_ret, turnP_er, w_run, startD, List.map_cons, List.map_nil, List.length_cons, List.length_nil, List.replicate, List.cons_append, List.nil_append, List.append_nil, List.getElem?_cons_zero, List.getElem?_cons_succ, List.set_cons_zero, List.set_cons_succ, w_v, slotP_s, w_addI, w_subI, w_mulI, w_divI, w_modI, w_powI, w_ltI, w_leI, w_gtI, w_geI, w_isN, w_notN, isNon_n, isNon_i, isNon_t, isNon_s, w_intI, w_intB, w_absI, w_maxI, w_minI, decide_eq_true_eq, Bool.not_eq_true, if_true, if_false, ite_true, ite_false, reduceCtorEq, Bool.false_eq_true, Bool.not_true, Bool.not_false, eq_self_iff_true, true_and, and_true, w_eqI, w_neI, w_ixT, w_ixL, ixP_s, at2_0, at2_1, at2_m1, at4_0, at4_1, at4_2, at4_3, at4_m1, at7_0, at7_1, at7_2, at7_3, at7_4, at7_5, at7_6, at7_m1, oD_none, oD_some, tgP_2, w_appLoc, w_lenLoc, w_lenLst, w_meth, List.length_map, goM_nx, goM_ret, goM_ct, goM_brk, goM_er, wi_str, strP_s]
      rfl
    rintro ρ S3 ⟨rfl, rfl⟩
    refine ws_mid (fun ρ S' => ρ = [some d0, some (.loc 0), x2, x3, some (.lst ((rowsF.take 2).map rowD)), x5, x6, x7, x8, x9, x10, x11, some (sysD wsF rowsF), x13] ∧ S' = S3) ?_ ?_
    · simp -implicitDefEqProofs only [WR_ok, WS_ok, WR_bind, w_c, w_bin, boolP_b, notP_b, w_not, w_and, w_or, w_if, w_chain, w_evs0, w_evs, w_call, w_callK, w_tup, w_lst, w_cell, cellP_lst, cellP_dct, negP_i, w_neg, w_fld, w_methC, w_make, w_makeZ, ws_next, ws_brk, ws_ct, ws_seq, ws_asg, ws_ret, ws_drop, ws_if, ws_par, ws_unp, ws_sto, ws_stoF, ws_for, wi_seq, wi_rng1, wi_enum, seqP_lst, seqP_klst, seqP_tup, seqP_ktup, rngP_i, enumP_lst, goP_nx, goP_ret, goP_ct, goP_brk, goP_er, bodyP_nx, bodyP_ret, bodyP_er, turnP_nx, turnP_ct, turnP_brk, turnP_ret, turnP_er, w_run, startD, List.map_cons, List.map_nil, List.length_cons, List.length_nil, List.replicate, List.cons_append, List.nil_append, List.append_nil, List.getElem?_cons_zero, List.getElem?_cons_succ, List.set_cons_zero, List.set_cons_succ, w_v, slotP_s, w_addI, w_subI, w_mulI, w_divI, w_modI, w_powI, w_ltI, w_leI, w_gtI, w_geI, w_isN, w_notN, isNon_n, isNon_i, isNon_t, isNon_s, w_intI, w_intB, w_absI, w_maxI, w_minI, decide_eq_true_eq, Bool.not_eq_true, if_true, if_false, ite_true, ite_false, reduceCtorEq, Bool.false_eq_true, Bool.not_true, Bool.not_false, eq_self_iff_true, true_and, and_true, w_eqI, w_neI, w_ixT, w_ixL, ixP_s, at2_0, at2_1, at2_m1, at4_0, at4_1, at4_2, at4_3, at4_m1, at7_0, at7_1, at7_2, at7_3, at7_4, at7_5, at7_6, at7_m1, oD_none, oD_some, tgP_2, w_appLoc, w_lenLoc, w_lenLst, w_meth, List.length_map, goM_nx, goM_ret, goM_ct, goM_brk, goM_er, wi_str, strP_s, w_addL]
      refine ⟨by simp [rowsF, big], ?_⟩
      refine w_mkSys (ws := wsF) (rows := rowsF) (B := 10 ^ 31) hp wsF_all wsF_nd (by decide) rowsF_ok ?_
      exact ⟨rfl, rfl⟩
    rintro ρ S4 ⟨rfl, rfl⟩
    refine ws_mid (fun ρ S' => ∃ a b c, ρ = [some d0, some (.loc 0), x2, x3, some (.lst ((rowsF.take 2).map rowD)), x5, x6, x7, x8, some (.lst [.loc a, .loc b, .loc c]), x10, x11, some (sysD wsF rowsF), x13] ∧ S'[a]? = some (dctC wsF vc) ∧ S'[b]? = some (dctC wsF vd) ∧ S'[c]? = some (dctC wsF vals0)) ?_ ?_
    · simp -implicitDefEqProofs only [WR_ok, WS_ok, WR_bind, w_c, w_bin, boolP_b, notP_b, w_not, w_and, w_or, w_if, w_chain, w_evs0, w_evs, w_call, w_callK, w_tup, w_lst, w_cell, cellP_lst, cellP_dct, negP_i, w_neg, w_fld, w_methC, w_make, w_makeZ, ws_next, ws_brk, ws_ct, ws_seq, ws_asg, ws_ret, ws_drop, ws_if, ws_par, ws_unp, ws_sto, ws_stoF, ws_for, wi_seq, wi_rng1, wi_enum, seqP_lst, seqP_klst, seqP_tup, seqP_ktup, rngP_i, enumP_lst, goP_nx, goP_ret, goP_ct, goP_brk, goP_er, bodyP_nx, bodyP_ret, bodyP_er, turnP_nx, turnP_ct, turnP_brk, turnP_ret, turnP_er, w_run, startD, List.map_cons, List.map_nil, List.length_cons, List.length_nil, List.replicate, List.cons_append, List.nil_append, List.append_nil, List.getElem?_cons_zero, List.getElem?_cons_succ, List.set_cons_zero, List.set_cons_succ, w_v, slotP_s, w_addI, w_subI, w_mulI, w_divI, w_modI, w_powI, w_ltI, w_leI, w_gtI, w_geI, w_isN, w_notN, isNon_n, isNon_i, isNon_t, isNon_s, w_intI, w_intB, w_absI, w_maxI, w_minI, decide_eq_true_eq, Bool.not_eq_true, if_true, if_false, ite_true, ite_false, reduceCtorEq, Bool.false_eq_true, Bool.not_true, Bool.not_false, eq_self_iff_true, true_and, and_true, w_eqI, w_neI, w_ixT, w_ixL, ixP_s, at2_0, at2_1, at2_m1, at4_0, at4_1, at4_2, at4_3, at4_m1, at7_0, at7_1, at7_2, at7_3, at7_4, at7_5, at7_6, at7_m1, oD_none, oD_some, tgP_2, w_appLoc, w_lenLoc, w_lenLst, w_meth, List.length_map, goM_nx, goM_ret, goM_ct, goM_brk, goM_er, wi_str, strP_s]
      refine (spec_behind (ws := wsF) (rows := rowsF) (ms := [(0, some 1), (1, none), (2, some 5)]) (valF := vc) (by decide) wsF_nd rowsF_ok (by rw [runA, runB, runC]; rfl) pre1).call ?_
      rintro _ S5 ⟨rfl, rfl⟩
      refine (spec_behind (ws := wsF) (rows := rowsF) (ms := [(0, some 0)]) (valF := vd) (by decide) wsF_nd rowsF_ok (by rw [runD]; rfl) pre2).call ?_
      rintro _ S5 ⟨rfl, rfl⟩
      refine (spec_behind (ws := wsF) (rows := rowsF) (ms := []) (valF := vals0) (by decide) wsF_nd rowsF_ok rfl pre3).call ?_
      rintro _ S5 ⟨rfl, rfl⟩
      try simp -implicitDefEqProofs only [WR_ok, WS_ok, WR_bind, w_c, w_bin, boolP_b, notP_b, w_not, w_and, w_or, w_if, w_chain, w_evs0, w_evs, w_call, w_callK, w_tup, w_lst, w_cell, cellP_lst, cellP_dct, negP_i, w_neg, w_fld, w_methC, w_make, w_makeZ, ws_next, ws_brk, ws_ct, ws_seq, ws_asg, ws_ret, ws_drop, ws_if, ws_par, ws_unp, ws_sto, ws_stoF, ws_for, wi_seq, wi_rng1, wi_enum, seqP_lst, seqP_klst, seqP_tup, seqP_ktup, rngP_i, enumP_lst, goP_nx, goP_ret, goP_ct, goP_brk, goP_er, bodyP_nx, bodyP_ret, bodyP_er, turnP_nx, turnP_ct, turnP_brk, turnP_ret, turnP_er, w_run, startD, List.map_cons, List.map_nil, List.length_cons, List.length_nil, List.replicate, List.cons_append, List.nil_append, List.append_nil, List.getElem?_cons_zero, List.getElem?_cons_succ, List.set_cons_zero, List.set_cons_succ, w_v, slotP_s, w_addI, w_subI, w_mulI, w_divI, w_modI, w_powI, w_ltI, w_leI, w_gtI, w_geI, w_isN, w_notN, isNon_n, isNon_i, isNon_t, isNon_s, w_intI, w_intB, w_absI, w_maxI, w_minI, decide_eq_true_eq, Bool.not_eq_true, if_true, if_false, ite_true, ite_false, reduceCtorEq, Bool.false_eq_true, Bool.not_true, Bool.not_false, eq_self_iff_true, true_and, and_true, w_eqI, w_neI, w_ixT, w_ixL, ixP_s, at2_0, at2_1, at2_m1, at4_0, at4_1, at4_2, at4_3, at4_m1, at7_0, at7_1, at7_2, at7_3, at7_4, at7_5, at7_6, at7_m1, oD_none, oD_some, tgP_2, w_appLoc, w_lenLoc, w_lenLst, w_meth, List.length_map, goM_nx, goM_ret, goM_ct, goM_brk, goM_er, wi_str, strP_s]
      rw [wsF_sort]
      exact ⟨_, _, _, rfl, by simp, by simp, by simp⟩
    rintro ρ S5 ⟨a, b, c, rfl, ha, hb, hc⟩
    simp -implicitDefEqProofs only [WR_ok, WS_ok, WR_bind, w_c, w_bin, boolP_b, notP_b, w_not, w_and, w_or, w_if, w_chain, w_evs0, w_evs, w_call, w_callK, w_tup, w_lst, w_cell, cellP_lst, cellP_dct, negP_i, w_neg, w_fld, w_methC, w_make, w_makeZ, ws_next, ws_brk, ws_ct, ws_seq, ws_asg, ws_ret, ws_drop, ws_if, ws_par, ws_unp, ws_sto, ws_stoF, ws_for, wi_seq, wi_rng1, wi_enum, seqP_lst, seqP_klst, seqP_tup, seqP_ktup, rngP_i, enumP_lst, goP_nx, goP_ret, goP_ct, goP_brk, goP_er, bodyP_nx, bodyP_ret, bodyP_er, turnP_nx, turnP_ct, turnP_brk, turnP_ret, turnP_er, w_run, startD, List.map_cons, List.map_nil, List.length_cons, List.length_nil, List.replicate, List.cons_append, List.nil_append, List.append_nil, List.getElem?_cons_zero, List.getElem?_cons_succ, List.set_cons_zero, List.set_cons_succ, w_v, slotP_s, w_addI, w_subI, w_mulI, w_divI, w_modI, w_powI, w_ltI, w_leI, w_gtI, w_geI, w_isN, w_notN, isNon_n, isNon_i, isNon_t, isNon_s, w_intI, w_intB, w_absI, w_maxI, w_minI, decide_eq_true_eq, Bool.not_eq_true, if_true, if_false, ite_true, ite_false, reduceCtorEq, Bool.false_eq_true, Bool.not_true, Bool.not_false, eq_self_iff_true, true_and, and_true, w_eqI, w_neI, w_ixT, w_ixL, ixP_s, at2_0, at2_1, at2_m1, at4_0, at4_1, at4_2, at4_3, at4_m1, at7_0, at7_1, at7_2, at7_3, at7_4, at7_5, at7_6, at7_m1, oD_none, oD_some, tgP_2, w_appLoc, w_lenLoc, w_lenLst, w_meth, List.length_map, goM_nx, goM_ret, goM_ct, goM_brk, goM_er, wi_str, strP_s, w_dispXY]
    have q : ∀ f : Str → Option Int, (wsF.map fun k => oD (f k)) = [oD (f "x"), oD (f "y")] := fun _ => rfl
    have c1 : [D.int 4, D.int 5] = wsF.map fun k => oD (vc k) := by
      rw [q]; simp [vc, vb, va, upV, xy_ne, oD]
    have c2 : [D.int 0, D.non] = wsF.map fun k => oD (vd k) := by
      rw [q]; simp [vd, upV, vals0, yx_ne, oD]
    have c3 : [D.non, D.non] = wsF.map fun k => oD (vals0 k) := rfl
    rw [c1, c2, c3, w_eqDicts ha hb hc]
  obtain ⟨d, S, e, hd'⟩ := key.ex
  subst hd'
  exact ⟨S, e⟩

theorem all_mk (hLaw : LawTrue G_law) {l : PySem.W.OpenLaw} {w : World} {K : PySem.W.Frag} {h : Heap} {mg : Str → Option Value} {fa : Addr} {t_LETTERS : Tok} {t_MOST_LETTERS : Tok} {t_SET : Tok} {C_System : Addr} {f_System_eq_ : Addr} {oc_System_eq_ kV_System_eq_ dc_System_eq_ pm_System_eq_ cd_System_eq_ ct_System_eq_ : Value} {od_System_eq_ an_System_eq_ : Option Addr} {sl_System_eq_ : Array (Option Value)} {f_is_name : Addr} {oc_is_name kV_is_name dc_is_name pm_is_name cd_is_name ct_is_name : Value} {od_is_name an_is_name : Option Addr} {sl_is_name : Array (Option Value)} {f_is_range : Addr} {oc_is_range kV_is_range dc_is_range pm_is_range cd_is_range ct_is_range : Value} {od_is_range an_is_range : Option Addr} {sl_is_range : Array (Option Value)} {f_names_in : Addr} {oc_names_in kV_names_in dc_names_in pm_names_in cd_names_in ct_names_in : Value} {od_names_in an_names_in : Option Addr} {sl_names_in : Array (Option Value)} {f_ranges_in : Addr} {oc_ranges_in kV_ranges_in dc_ranges_in pm_ranges_in cd_ranges_in ct_ranges_in : Value} {od_ranges_in an_ranges_in : Option Addr} {sl_ranges_in : Array (Option Value)} {f_is_rule : Addr} {oc_is_rule kV_is_rule dc_is_rule pm_is_rule cd_is_rule ct_is_rule : Value} {od_is_rule an_is_rule : Option Addr} {sl_is_rule : Array (Option Value)} {f_check_system : Addr} {oc_check_system kV_check_system dc_check_system pm_check_system cd_check_system ct_check_system : Value} {od_check_system an_check_system : Option Addr} {sl_check_system : Array (Option Value)} {f_System_init_ : Addr} {oc_System_init_ kV_System_init_ dc_System_init_ pm_System_init_ cd_System_init_ ct_System_init_ : Value} {od_System_init_ an_System_init_ : Option Addr} {sl_System_init_ : Array (Option Value)} {f_law_draw : Addr} {oc_law_draw kV_law_draw dc_law_draw pm_law_draw cd_law_draw ct_law_draw : Value} {od_law_draw an_law_draw : Option Addr} {sl_law_draw : Array (Option Value)} {f_law_inside : Addr} {oc_law_inside kV_law_inside dc_law_inside pm_law_inside cd_law_inside ct_law_inside : Value} {od_law_inside an_law_inside : Option Addr} {sl_law_inside : Array (Option Value)} {f_law_next : Addr} {oc_law_next kV_law_next dc_law_next pm_law_next cd_law_next ct_law_next : Value} {od_law_next an_law_next : Option Addr} {sl_law_next : Array (Option Value)} {f_law_spot : Addr} {oc_law_spot kV_law_spot dc_law_spot pm_law_spot cd_law_spot ct_law_spot : Value} {od_law_spot an_law_spot : Option Addr} {sl_law_spot : Array (Option Value)} {f_law_moves : Addr} {oc_law_moves kV_law_moves dc_law_moves pm_law_moves cd_law_moves ct_law_moves : Value} {od_law_moves an_law_moves : Option Addr} {sl_law_moves : Array (Option Value)} {f_law_rng : Addr} {oc_law_rng kV_law_rng dc_law_rng pm_law_rng cd_law_rng ct_law_rng : Value} {od_law_rng an_law_rng : Option Addr} {sl_law_rng : Array (Option Value)} {f_law_end : Addr} {oc_law_end kV_law_end dc_law_end pm_law_end cd_law_end ct_law_end : Value} {od_law_end an_law_end : Option Addr} {sl_law_end : Array (Option Value)} {f_law_within : Addr} {oc_law_within kV_law_within dc_law_within pm_law_within cd_law_within ct_law_within : Value} {od_law_within an_law_within : Option Addr} {sl_law_within : Array (Option Value)} {f_law_rule : Addr} {oc_law_rule kV_law_rule dc_law_rule pm_law_rule cd_law_rule ct_law_rule : Value} {od_law_rule an_law_rule : Option Addr} {sl_law_rule : Array (Option Value)} {f_law_rows : Addr} {oc_law_rows kV_law_rows dc_law_rows pm_law_rows cd_law_rows ct_law_rows : Value} {od_law_rows an_law_rows : Option Addr} {sl_law_rows : Array (Option Value)} {f_law_words : Addr} {oc_law_words kV_law_words dc_law_words pm_law_words cd_law_words ct_law_words : Value} {od_law_words an_law_words : Option Addr} {sl_law_words : Array (Option Value)} {f_is_in : Addr} {oc_is_in kV_is_in dc_is_in pm_is_in cd_is_in ct_is_in : Value} {od_is_in an_is_in : Option Addr} {sl_is_in : Array (Option Value)} {f_value_given : Addr} {oc_value_given kV_value_given dc_value_given pm_value_given cd_value_given ct_value_given : Value} {od_value_given an_value_given : Option Addr} {sl_value_given : Array (Option Value)} {f_played : Addr} {oc_played kV_played dc_played pm_played cd_played ct_played : Value} {od_played an_played : Option Addr} {sl_played : Array (Option Value)} {f_values_behind : Addr} {oc_values_behind kV_values_behind dc_values_behind pm_values_behind cd_values_behind ct_values_behind : Value} {od_values_behind an_values_behind : Option Addr} {sl_values_behind : Array (Option Value)} {f_law : Addr} {oc_law kV_law dc_law pm_law cd_law ct_law : Value} {od_law an_law : Option Addr} {sl_law : Array (Option Value)} (X : K.In h) (G : h.Ns mainGlobals mg) (hfa : mg "law" = some (.ref fa))
    (a_System : PySem.W.nsIn K mainGlobals "System" = some (some (.ref C_System)))
    (a_System_eq_ : PySem.W.findIn K (.ref C_System) "__eq__" = some (some (.ref f_System_eq_)))
    (i_System_eq_ : PySem.W.isFn K (.ref f_System_eq_) = true)
    (l_System_eq_ : K.lookup f_System_eq_ = some ⟨oc_System_eq_, od_System_eq_, .func (PySem.W.fnOf "__eq__" "System.__eq__" (defArgs s_System_eq_) (defBody s_System_eq_) (defScope s_System_eq_) .none kV_System_eq_ dc_System_eq_ pm_System_eq_ an_System_eq_ cd_System_eq_ ct_System_eq_), sl_System_eq_⟩)
    (c_System_eq_ : PySem.W.codeIn K cd_System_eq_ "System.__eq__" = true)
    (k_System_eq_ : PySem.W.keepIn K (.ref f_System_eq_) = true)
    (a_is_name : PySem.W.nsIn K mainGlobals "is_name" = some (some (.ref f_is_name)))
    (l_is_name : K.lookup f_is_name = some ⟨oc_is_name, od_is_name, .func (PySem.W.fnOf "is_name" "is_name" (defArgs s_is_name) (defBody s_is_name) (defScope s_is_name) .none kV_is_name dc_is_name pm_is_name an_is_name cd_is_name ct_is_name), sl_is_name⟩)
    (c_is_name : PySem.W.codeIn K cd_is_name "is_name" = true)
    (k_is_name : PySem.W.keepIn K (.ref f_is_name) = true)
    (a_is_range : PySem.W.nsIn K mainGlobals "is_range" = some (some (.ref f_is_range)))
    (l_is_range : K.lookup f_is_range = some ⟨oc_is_range, od_is_range, .func (PySem.W.fnOf "is_range" "is_range" (defArgs s_is_range) (defBody s_is_range) (defScope s_is_range) .none kV_is_range dc_is_range pm_is_range an_is_range cd_is_range ct_is_range), sl_is_range⟩)
    (c_is_range : PySem.W.codeIn K cd_is_range "is_range" = true)
    (k_is_range : PySem.W.keepIn K (.ref f_is_range) = true)
    (a_names_in : PySem.W.nsIn K mainGlobals "names_in" = some (some (.ref f_names_in)))
    (l_names_in : K.lookup f_names_in = some ⟨oc_names_in, od_names_in, .func (PySem.W.fnOf "names_in" "names_in" (defArgs s_names_in) (defBody s_names_in) (defScope s_names_in) .none kV_names_in dc_names_in pm_names_in an_names_in cd_names_in ct_names_in), sl_names_in⟩)
    (c_names_in : PySem.W.codeIn K cd_names_in "names_in" = true)
    (k_names_in : PySem.W.keepIn K (.ref f_names_in) = true)
    (a_ranges_in : PySem.W.nsIn K mainGlobals "ranges_in" = some (some (.ref f_ranges_in)))
    (l_ranges_in : K.lookup f_ranges_in = some ⟨oc_ranges_in, od_ranges_in, .func (PySem.W.fnOf "ranges_in" "ranges_in" (defArgs s_ranges_in) (defBody s_ranges_in) (defScope s_ranges_in) .none kV_ranges_in dc_ranges_in pm_ranges_in an_ranges_in cd_ranges_in ct_ranges_in), sl_ranges_in⟩)
    (c_ranges_in : PySem.W.codeIn K cd_ranges_in "ranges_in" = true)
    (k_ranges_in : PySem.W.keepIn K (.ref f_ranges_in) = true)
    (a_is_rule : PySem.W.nsIn K mainGlobals "is_rule" = some (some (.ref f_is_rule)))
    (l_is_rule : K.lookup f_is_rule = some ⟨oc_is_rule, od_is_rule, .func (PySem.W.fnOf "is_rule" "is_rule" (defArgs s_is_rule) (defBody s_is_rule) (defScope s_is_rule) .none kV_is_rule dc_is_rule pm_is_rule an_is_rule cd_is_rule ct_is_rule), sl_is_rule⟩)
    (c_is_rule : PySem.W.codeIn K cd_is_rule "is_rule" = true)
    (k_is_rule : PySem.W.keepIn K (.ref f_is_rule) = true)
    (a_check_system : PySem.W.nsIn K mainGlobals "check_system" = some (some (.ref f_check_system)))
    (l_check_system : K.lookup f_check_system = some ⟨oc_check_system, od_check_system, .func (PySem.W.fnOf "check_system" "check_system" (defArgs s_check_system) (defBody s_check_system) (defScope s_check_system) .none kV_check_system dc_check_system pm_check_system an_check_system cd_check_system ct_check_system), sl_check_system⟩)
    (c_check_system : PySem.W.codeIn K cd_check_system "check_system" = true)
    (k_check_system : PySem.W.keepIn K (.ref f_check_system) = true)
    (a_System_init_ : PySem.W.findIn K (.ref C_System) "__init__" = some (some (.ref f_System_init_)))
    (i_System_init_ : PySem.W.isFn K (.ref f_System_init_) = true)
    (l_System_init_ : K.lookup f_System_init_ = some ⟨oc_System_init_, od_System_init_, .func (PySem.W.fnOf "__init__" "System.__init__" (defArgs s_System_init_) (defBody s_System_init_) (defScope s_System_init_) .none kV_System_init_ dc_System_init_ pm_System_init_ an_System_init_ cd_System_init_ ct_System_init_), sl_System_init_⟩)
    (c_System_init_ : PySem.W.codeIn K cd_System_init_ "System.__init__" = true)
    (k_System_init_ : PySem.W.keepIn K (.ref f_System_init_) = true)
    (a_law_draw : PySem.W.nsIn K mainGlobals "_law_draw" = some (some (.ref f_law_draw)))
    (l_law_draw : K.lookup f_law_draw = some ⟨oc_law_draw, od_law_draw, .func (PySem.W.fnOf "_law_draw" "_law_draw" (defArgs s_law_draw) (defBody s_law_draw) (defScope s_law_draw) .none kV_law_draw dc_law_draw pm_law_draw an_law_draw cd_law_draw ct_law_draw), sl_law_draw⟩)
    (c_law_draw : PySem.W.codeIn K cd_law_draw "_law_draw" = true)
    (k_law_draw : PySem.W.keepIn K (.ref f_law_draw) = true)
    (a_law_inside : PySem.W.nsIn K mainGlobals "_law_inside" = some (some (.ref f_law_inside)))
    (l_law_inside : K.lookup f_law_inside = some ⟨oc_law_inside, od_law_inside, .func (PySem.W.fnOf "_law_inside" "_law_inside" (defArgs s_law_inside) (defBody s_law_inside) (defScope s_law_inside) .none kV_law_inside dc_law_inside pm_law_inside an_law_inside cd_law_inside ct_law_inside), sl_law_inside⟩)
    (c_law_inside : PySem.W.codeIn K cd_law_inside "_law_inside" = true)
    (k_law_inside : PySem.W.keepIn K (.ref f_law_inside) = true)
    (a_law_next : PySem.W.nsIn K mainGlobals "_law_next" = some (some (.ref f_law_next)))
    (l_law_next : K.lookup f_law_next = some ⟨oc_law_next, od_law_next, .func (PySem.W.fnOf "_law_next" "_law_next" (defArgs s_law_next) (defBody s_law_next) (defScope s_law_next) .none kV_law_next dc_law_next pm_law_next an_law_next cd_law_next ct_law_next), sl_law_next⟩)
    (c_law_next : PySem.W.codeIn K cd_law_next "_law_next" = true)
    (k_law_next : PySem.W.keepIn K (.ref f_law_next) = true)
    (a_law_spot : PySem.W.nsIn K mainGlobals "_law_spot" = some (some (.ref f_law_spot)))
    (l_law_spot : K.lookup f_law_spot = some ⟨oc_law_spot, od_law_spot, .func (PySem.W.fnOf "_law_spot" "_law_spot" (defArgs s_law_spot) (defBody s_law_spot) (defScope s_law_spot) .none kV_law_spot dc_law_spot pm_law_spot an_law_spot cd_law_spot ct_law_spot), sl_law_spot⟩)
    (c_law_spot : PySem.W.codeIn K cd_law_spot "_law_spot" = true)
    (k_law_spot : PySem.W.keepIn K (.ref f_law_spot) = true)
    (a_law_moves : PySem.W.nsIn K mainGlobals "_law_moves" = some (some (.ref f_law_moves)))
    (l_law_moves : K.lookup f_law_moves = some ⟨oc_law_moves, od_law_moves, .func (PySem.W.fnOf "_law_moves" "_law_moves" (defArgs s_law_moves) (defBody s_law_moves) (defScope s_law_moves) .none kV_law_moves dc_law_moves pm_law_moves an_law_moves cd_law_moves ct_law_moves), sl_law_moves⟩)
    (c_law_moves : PySem.W.codeIn K cd_law_moves "_law_moves" = true)
    (k_law_moves : PySem.W.keepIn K (.ref f_law_moves) = true)
    (a_law_rng : PySem.W.nsIn K mainGlobals "_law_rng" = some (some (.ref f_law_rng)))
    (l_law_rng : K.lookup f_law_rng = some ⟨oc_law_rng, od_law_rng, .func (PySem.W.fnOf "_law_rng" "_law_rng" (defArgs s_law_rng) (defBody s_law_rng) (defScope s_law_rng) .none kV_law_rng dc_law_rng pm_law_rng an_law_rng cd_law_rng ct_law_rng), sl_law_rng⟩)
    (c_law_rng : PySem.W.codeIn K cd_law_rng "_law_rng" = true)
    (k_law_rng : PySem.W.keepIn K (.ref f_law_rng) = true)
    (a_law_end : PySem.W.nsIn K mainGlobals "_law_end" = some (some (.ref f_law_end)))
    (l_law_end : K.lookup f_law_end = some ⟨oc_law_end, od_law_end, .func (PySem.W.fnOf "_law_end" "_law_end" (defArgs s_law_end) (defBody s_law_end) (defScope s_law_end) .none kV_law_end dc_law_end pm_law_end an_law_end cd_law_end ct_law_end), sl_law_end⟩)
    (c_law_end : PySem.W.codeIn K cd_law_end "_law_end" = true)
    (k_law_end : PySem.W.keepIn K (.ref f_law_end) = true)
    (a_law_within : PySem.W.nsIn K mainGlobals "_law_within" = some (some (.ref f_law_within)))
    (l_law_within : K.lookup f_law_within = some ⟨oc_law_within, od_law_within, .func (PySem.W.fnOf "_law_within" "_law_within" (defArgs s_law_within) (defBody s_law_within) (defScope s_law_within) .none kV_law_within dc_law_within pm_law_within an_law_within cd_law_within ct_law_within), sl_law_within⟩)
    (c_law_within : PySem.W.codeIn K cd_law_within "_law_within" = true)
    (k_law_within : PySem.W.keepIn K (.ref f_law_within) = true)
    (a_law_rule : PySem.W.nsIn K mainGlobals "_law_rule" = some (some (.ref f_law_rule)))
    (l_law_rule : K.lookup f_law_rule = some ⟨oc_law_rule, od_law_rule, .func (PySem.W.fnOf "_law_rule" "_law_rule" (defArgs s_law_rule) (defBody s_law_rule) (defScope s_law_rule) .none kV_law_rule dc_law_rule pm_law_rule an_law_rule cd_law_rule ct_law_rule), sl_law_rule⟩)
    (c_law_rule : PySem.W.codeIn K cd_law_rule "_law_rule" = true)
    (k_law_rule : PySem.W.keepIn K (.ref f_law_rule) = true)
    (a_law_rows : PySem.W.nsIn K mainGlobals "_law_rows" = some (some (.ref f_law_rows)))
    (l_law_rows : K.lookup f_law_rows = some ⟨oc_law_rows, od_law_rows, .func (PySem.W.fnOf "_law_rows" "_law_rows" (defArgs s_law_rows) (defBody s_law_rows) (defScope s_law_rows) .none kV_law_rows dc_law_rows pm_law_rows an_law_rows cd_law_rows ct_law_rows), sl_law_rows⟩)
    (c_law_rows : PySem.W.codeIn K cd_law_rows "_law_rows" = true)
    (k_law_rows : PySem.W.keepIn K (.ref f_law_rows) = true)
    (a_law_words : PySem.W.nsIn K mainGlobals "_law_words" = some (some (.ref f_law_words)))
    (l_law_words : K.lookup f_law_words = some ⟨oc_law_words, od_law_words, .func (PySem.W.fnOf "_law_words" "_law_words" (defArgs s_law_words) (defBody s_law_words) (defScope s_law_words) .none kV_law_words dc_law_words pm_law_words an_law_words cd_law_words ct_law_words), sl_law_words⟩)
    (c_law_words : PySem.W.codeIn K cd_law_words "_law_words" = true)
    (k_law_words : PySem.W.keepIn K (.ref f_law_words) = true)
    (a_is_in : PySem.W.nsIn K mainGlobals "is_in" = some (some (.ref f_is_in)))
    (l_is_in : K.lookup f_is_in = some ⟨oc_is_in, od_is_in, .func (PySem.W.fnOf "is_in" "is_in" (defArgs s_is_in) (defBody s_is_in) (defScope s_is_in) .none kV_is_in dc_is_in pm_is_in an_is_in cd_is_in ct_is_in), sl_is_in⟩)
    (c_is_in : PySem.W.codeIn K cd_is_in "is_in" = true)
    (k_is_in : PySem.W.keepIn K (.ref f_is_in) = true)
    (a_value_given : PySem.W.nsIn K mainGlobals "value_given" = some (some (.ref f_value_given)))
    (l_value_given : K.lookup f_value_given = some ⟨oc_value_given, od_value_given, .func (PySem.W.fnOf "value_given" "value_given" (defArgs s_value_given) (defBody s_value_given) (defScope s_value_given) .none kV_value_given dc_value_given pm_value_given an_value_given cd_value_given ct_value_given), sl_value_given⟩)
    (c_value_given : PySem.W.codeIn K cd_value_given "value_given" = true)
    (k_value_given : PySem.W.keepIn K (.ref f_value_given) = true)
    (a_played : PySem.W.nsIn K mainGlobals "played" = some (some (.ref f_played)))
    (l_played : K.lookup f_played = some ⟨oc_played, od_played, .func (PySem.W.fnOf "played" "played" (defArgs s_played) (defBody s_played) (defScope s_played) .none kV_played dc_played pm_played an_played cd_played ct_played), sl_played⟩)
    (c_played : PySem.W.codeIn K cd_played "played" = true)
    (k_played : PySem.W.keepIn K (.ref f_played) = true)
    (a_values_behind : PySem.W.nsIn K mainGlobals "values_behind" = some (some (.ref f_values_behind)))
    (l_values_behind : K.lookup f_values_behind = some ⟨oc_values_behind, od_values_behind, .func (PySem.W.fnOf "values_behind" "values_behind" (defArgs s_values_behind) (defBody s_values_behind) (defScope s_values_behind) .none kV_values_behind dc_values_behind pm_values_behind an_values_behind cd_values_behind ct_values_behind), sl_values_behind⟩)
    (c_values_behind : PySem.W.codeIn K cd_values_behind "values_behind" = true)
    (k_values_behind : PySem.W.keepIn K (.ref f_values_behind) = true)
    (a_law : PySem.W.nsIn K mainGlobals "law" = some (some (.ref f_law)))
    (l_law : K.lookup f_law = some ⟨oc_law, od_law, .func (PySem.W.fnOf "law" "law" (defArgs s_law) (defBody s_law) (defScope s_law) .none kV_law dc_law pm_law an_law cd_law ct_law), sl_law⟩)
    (c_law : PySem.W.codeIn K cd_law "law" = true)
    (k_law : PySem.W.keepIn K (.ref f_law) = true)
    (pg_System : PySem.W.plainGet K C_System Str.empty = true)
    (hd_System : PySem.W.hasDictIn K C_System = true)
    (po_System : PySem.W.plainOver K C_System = true)
    (sa_System : PySem.W.findIn K (.ref C_System) "__setattr__" = some (some (.builtin "object.__setattr__")))
    (mk_System : PySem.W.makesIn K C_System = true)
    (kc_System : PySem.W.keepIn K (.ref C_System) = true)
    (n_System_kept_names : PySem.W.findIn K (.ref C_System) "kept_names" = some none)
    (n_System_kept_rules : PySem.W.findIn K (.ref C_System) "kept_rules" = some none)
    (ha_System : PySem.W.findIn K (.ref C_System) "__class__" = some (some (.builtin "object.__class__")))
    (mo_System : PySem.W.mroIn K C_System (.type "object") = some true)
    (hn : PySem.W.specialIn K (.builtin "object.__class__") "__get__" = some (some (.builtin "getset_descriptor.__get__")))
    (htk : PySem.W.takesIn K (.builtin "object.__class__") = some true)
    (z_abs : PySem.W.nsIn K mainGlobals "abs" = some none)
    (z_all : PySem.W.nsIn K mainGlobals "all" = some none)
    (z_dict : PySem.W.nsIn K mainGlobals "dict" = some none)
    (z_enumerate : PySem.W.nsIn K mainGlobals "enumerate" = some none)
    (z_int : PySem.W.nsIn K mainGlobals "int" = some none)
    (z_isinstance : PySem.W.nsIn K mainGlobals "isinstance" = some none)
    (z_len : PySem.W.nsIn K mainGlobals "len" = some none)
    (z_list : PySem.W.nsIn K mainGlobals "list" = some none)
    (z_max : PySem.W.nsIn K mainGlobals "max" = some none)
    (z_min : PySem.W.nsIn K mainGlobals "min" = some none)
    (z_range : PySem.W.nsIn K mainGlobals "range" = some none)
    (z_sorted : PySem.W.nsIn K mainGlobals "sorted" = some none)
    (z_tuple : PySem.W.nsIn K mainGlobals "tuple" = some none)
    (v_LETTERS : PySem.W.nsIn K mainGlobals "LETTERS" = some (some (.str "abcdefghijklmnopqrstuvwxyz" t_LETTERS)))
    (v_MOST_LETTERS : PySem.W.nsIn K mainGlobals "MOST_LETTERS" = some (some (.int 8 t_MOST_LETTERS)))
    (v_SET : PySem.W.nsIn K mainGlobals "SET" = some (some (.str "set" t_SET)))
    : ∃ fd : FuncData, (∀ (s : Shared) (v : Value), BindsTo s fd ⟨[v], []⟩ [("script", v)]) ∧ ∀ base : Heap, K.In base → base.Ns mainGlobals mg → FnOk l.prog w K mg base (L2N.CX l.prog w) 6 fa fd ["script"] (spLaw K) := by
  have e := hfa.symm.trans (PySem.W.mg_of X G a_law)
  cases e
  have F_System_eq_ := fun_mk (st := s_System_eq_) l_System_eq_ c_System_eq_ k_System_eq_
  have b_System_eq_ := F_System_eq_.binds (ps := ["self", "other"]) fun _ _ _ _ _ _ us hl => match us, hl with | [_, _], _ => rfl
  have F_is_name := fun_mk (st := s_is_name) l_is_name c_is_name k_is_name
  have b_is_name := F_is_name.binds (ps := ["word"]) fun _ _ _ _ _ _ us hl => match us, hl with | [_], _ => rfl
  have F_is_range := fun_mk (st := s_is_range) l_is_range c_is_range k_is_range
  have b_is_range := F_is_range.binds (ps := ["value"]) fun _ _ _ _ _ _ us hl => match us, hl with | [_], _ => rfl
  have F_names_in := fun_mk (st := s_names_in) l_names_in c_names_in k_names_in
  have b_names_in := F_names_in.binds (ps := ["rule"]) fun _ _ _ _ _ _ us hl => match us, hl with | [_], _ => rfl
  have F_ranges_in := fun_mk (st := s_ranges_in) l_ranges_in c_ranges_in k_ranges_in
  have b_ranges_in := F_ranges_in.binds (ps := ["rule"]) fun _ _ _ _ _ _ us hl => match us, hl with | [_], _ => rfl
  have F_is_rule := fun_mk (st := s_is_rule) l_is_rule c_is_rule k_is_rule
  have b_is_rule := F_is_rule.binds (ps := ["rule", "names"]) fun _ _ _ _ _ _ us hl => match us, hl with | [_, _], _ => rfl
  have F_check_system := fun_mk (st := s_check_system) l_check_system c_check_system k_check_system
  have b_check_system := F_check_system.binds (ps := ["names", "rules"]) fun _ _ _ _ _ _ us hl => match us, hl with | [_, _], _ => rfl
  have F_System_init_ := fun_mk (st := s_System_init_) l_System_init_ c_System_init_ k_System_init_
  have b_System_init_ := F_System_init_.binds (ps := ["self", "names", "rules"]) fun _ _ _ _ _ _ us hl => match us, hl with | [_, _, _], _ => rfl
  have F_law_draw := fun_mk (st := s_law_draw) l_law_draw c_law_draw k_law_draw
  have b_law_draw := F_law_draw.binds (ps := ["rng", "limit"]) fun _ _ _ _ _ _ us hl => match us, hl with | [_, _], _ => rfl
  have F_law_inside := fun_mk (st := s_law_inside) l_law_inside c_law_inside k_law_inside
  have b_law_inside := F_law_inside.binds (ps := ["given", "spot"]) fun _ _ _ _ _ _ us hl => match us, hl with | [_, _], _ => rfl
  have F_law_next := fun_mk (st := s_law_next) l_law_next c_law_next k_law_next
  have b_law_next := F_law_next.binds (ps := ["rows", "held", "move"]) fun _ _ _ _ _ _ us hl => match us, hl with | [_, _, _], _ => rfl
  have F_law_spot := fun_mk (st := s_law_spot) l_law_spot c_law_spot k_law_spot
  have b_law_spot := F_law_spot.binds (ps := ["rng", "given"]) fun _ _ _ _ _ _ us hl => match us, hl with | [_, _], _ => rfl
  have F_law_moves := fun_mk (st := s_law_moves) l_law_moves c_law_moves k_law_moves
  have b_law_moves := F_law_moves.binds (ps := ["rng", "words", "rows", "many"]) fun _ _ _ _ _ _ us hl => match us, hl with | [_, _, _, _], _ => rfl
  have F_law_rng := fun_mk (st := s_law_rng) l_law_rng c_law_rng k_law_rng
  have b_law_rng := F_law_rng.binds (ps := ["script"]) fun _ _ _ _ _ _ us hl => match us, hl with | [_], _ => rfl
  have F_law_end := fun_mk (st := s_law_end) l_law_end c_law_end k_law_end
  have b_law_end := F_law_end.binds (ps := ["rng", "far"]) fun _ _ _ _ _ _ us hl => match us, hl with | [_, _], _ => rfl
  have F_law_within := fun_mk (st := s_law_within) l_law_within c_law_within k_law_within
  have b_law_within := F_law_within.binds (ps := ["rng", "far"]) fun _ _ _ _ _ _ us hl => match us, hl with | [_, _], _ => rfl
  have F_law_rule := fun_mk (st := s_law_rule) l_law_rule c_law_rule k_law_rule
  have b_law_rule := F_law_rule.binds (ps := ["rng", "words", "far"]) fun _ _ _ _ _ _ us hl => match us, hl with | [_, _, _], _ => rfl
  have F_law_rows := fun_mk (st := s_law_rows) l_law_rows c_law_rows k_law_rows
  have b_law_rows := F_law_rows.binds (ps := ["rng", "words", "most"]) fun _ _ _ _ _ _ us hl => match us, hl with | [_, _, _], _ => rfl
  have F_law_words := fun_mk (st := s_law_words) l_law_words c_law_words k_law_words
  have b_law_words := F_law_words.binds (ps := ["rng", "many"]) fun _ _ _ _ _ _ us hl => match us, hl with | [_, _], _ => rfl
  have F_is_in := fun_mk (st := s_is_in) l_is_in c_is_in k_is_in
  have b_is_in := F_is_in.binds (ps := ["value", "one"]) fun _ _ _ _ _ _ us hl => match us, hl with | [_, _], _ => rfl
  have F_value_given := fun_mk (st := s_value_given) l_value_given c_value_given k_value_given
  have b_value_given := F_value_given.binds (ps := ["rule", "values", "value"]) fun _ _ _ _ _ _ us hl => match us, hl with | [_, _, _], _ => rfl
  have F_played := fun_mk (st := s_played) l_played c_played k_played
  have b_played := F_played.binds (ps := ["system", "moves"]) fun _ _ _ _ _ _ us hl => match us, hl with | [_, _], _ => rfl
  have F_values_behind := fun_mk (st := s_values_behind) l_values_behind c_values_behind k_values_behind
  have b_values_behind := F_values_behind.binds (ps := ["system", "moves"]) fun _ _ _ _ _ _ us hl => match us, hl with | [_, _], _ => rfl
  have F_law := fun_mk (st := s_law) l_law c_law k_law
  have b_law := F_law.binds (ps := ["script"]) fun _ _ _ _ _ _ us hl => match us, hl with | [_], _ => rfl
  let A : Ad := ⟨t_LETTERS, t_MOST_LETTERS, t_SET, f_System_eq_, (PySem.W.fnOf "__eq__" "System.__eq__" (defArgs s_System_eq_) (defBody s_System_eq_) (defScope s_System_eq_) .none kV_System_eq_ dc_System_eq_ pm_System_eq_ an_System_eq_ cd_System_eq_ ct_System_eq_), f_is_name, (PySem.W.fnOf "is_name" "is_name" (defArgs s_is_name) (defBody s_is_name) (defScope s_is_name) .none kV_is_name dc_is_name pm_is_name an_is_name cd_is_name ct_is_name), f_is_range, (PySem.W.fnOf "is_range" "is_range" (defArgs s_is_range) (defBody s_is_range) (defScope s_is_range) .none kV_is_range dc_is_range pm_is_range an_is_range cd_is_range ct_is_range), f_names_in, (PySem.W.fnOf "names_in" "names_in" (defArgs s_names_in) (defBody s_names_in) (defScope s_names_in) .none kV_names_in dc_names_in pm_names_in an_names_in cd_names_in ct_names_in), f_ranges_in, (PySem.W.fnOf "ranges_in" "ranges_in" (defArgs s_ranges_in) (defBody s_ranges_in) (defScope s_ranges_in) .none kV_ranges_in dc_ranges_in pm_ranges_in an_ranges_in cd_ranges_in ct_ranges_in), f_is_rule, (PySem.W.fnOf "is_rule" "is_rule" (defArgs s_is_rule) (defBody s_is_rule) (defScope s_is_rule) .none kV_is_rule dc_is_rule pm_is_rule an_is_rule cd_is_rule ct_is_rule), f_check_system, (PySem.W.fnOf "check_system" "check_system" (defArgs s_check_system) (defBody s_check_system) (defScope s_check_system) .none kV_check_system dc_check_system pm_check_system an_check_system cd_check_system ct_check_system), f_System_init_, (PySem.W.fnOf "__init__" "System.__init__" (defArgs s_System_init_) (defBody s_System_init_) (defScope s_System_init_) .none kV_System_init_ dc_System_init_ pm_System_init_ an_System_init_ cd_System_init_ ct_System_init_), f_law_draw, (PySem.W.fnOf "_law_draw" "_law_draw" (defArgs s_law_draw) (defBody s_law_draw) (defScope s_law_draw) .none kV_law_draw dc_law_draw pm_law_draw an_law_draw cd_law_draw ct_law_draw), f_law_inside, (PySem.W.fnOf "_law_inside" "_law_inside" (defArgs s_law_inside) (defBody s_law_inside) (defScope s_law_inside) .none kV_law_inside dc_law_inside pm_law_inside an_law_inside cd_law_inside ct_law_inside), f_law_next, (PySem.W.fnOf "_law_next" "_law_next" (defArgs s_law_next) (defBody s_law_next) (defScope s_law_next) .none kV_law_next dc_law_next pm_law_next an_law_next cd_law_next ct_law_next), f_law_spot, (PySem.W.fnOf "_law_spot" "_law_spot" (defArgs s_law_spot) (defBody s_law_spot) (defScope s_law_spot) .none kV_law_spot dc_law_spot pm_law_spot an_law_spot cd_law_spot ct_law_spot), f_law_moves, (PySem.W.fnOf "_law_moves" "_law_moves" (defArgs s_law_moves) (defBody s_law_moves) (defScope s_law_moves) .none kV_law_moves dc_law_moves pm_law_moves an_law_moves cd_law_moves ct_law_moves), f_law_rng, (PySem.W.fnOf "_law_rng" "_law_rng" (defArgs s_law_rng) (defBody s_law_rng) (defScope s_law_rng) .none kV_law_rng dc_law_rng pm_law_rng an_law_rng cd_law_rng ct_law_rng), f_law_end, (PySem.W.fnOf "_law_end" "_law_end" (defArgs s_law_end) (defBody s_law_end) (defScope s_law_end) .none kV_law_end dc_law_end pm_law_end an_law_end cd_law_end ct_law_end), f_law_within, (PySem.W.fnOf "_law_within" "_law_within" (defArgs s_law_within) (defBody s_law_within) (defScope s_law_within) .none kV_law_within dc_law_within pm_law_within an_law_within cd_law_within ct_law_within), f_law_rule, (PySem.W.fnOf "_law_rule" "_law_rule" (defArgs s_law_rule) (defBody s_law_rule) (defScope s_law_rule) .none kV_law_rule dc_law_rule pm_law_rule an_law_rule cd_law_rule ct_law_rule), f_law_rows, (PySem.W.fnOf "_law_rows" "_law_rows" (defArgs s_law_rows) (defBody s_law_rows) (defScope s_law_rows) .none kV_law_rows dc_law_rows pm_law_rows an_law_rows cd_law_rows ct_law_rows), f_law_words, (PySem.W.fnOf "_law_words" "_law_words" (defArgs s_law_words) (defBody s_law_words) (defScope s_law_words) .none kV_law_words dc_law_words pm_law_words an_law_words cd_law_words ct_law_words), f_is_in, (PySem.W.fnOf "is_in" "is_in" (defArgs s_is_in) (defBody s_is_in) (defScope s_is_in) .none kV_is_in dc_is_in pm_is_in an_is_in cd_is_in ct_is_in), f_value_given, (PySem.W.fnOf "value_given" "value_given" (defArgs s_value_given) (defBody s_value_given) (defScope s_value_given) .none kV_value_given dc_value_given pm_value_given an_value_given cd_value_given ct_value_given), f_played, (PySem.W.fnOf "played" "played" (defArgs s_played) (defBody s_played) (defScope s_played) .none kV_played dc_played pm_played an_played cd_played ct_played), f_values_behind, (PySem.W.fnOf "values_behind" "values_behind" (defArgs s_values_behind) (defBody s_values_behind) (defScope s_values_behind) .none kV_values_behind dc_values_behind pm_values_behind an_values_behind cd_values_behind ct_values_behind), fa, (PySem.W.fnOf "law" "law" (defArgs s_law) (defBody s_law) (defScope s_law) .none kV_law dc_law pm_law an_law cd_law ct_law), C_System⟩
  have ian_System : ∀ n b, ans_System n = some b → IsI K ((Tb A).cls n) C_System b := by
    intro n b hb
    unfold ans_System at hb
    split at hb
    · cases hb; exact ⟨⟨pg_System, hd_System, po_System, sa_System⟩, ha_System, hn, htk, mo_System, (by unfold PySem.W.kitOne; exact if_pos (beq_self_eq_true _))⟩
    · cases hb
  have T : Tops K mg A := ⟨F_System_eq_, b_System_eq_, F_is_name, b_is_name, PySem.W.mg_of X G a_is_name, F_is_range, b_is_range, PySem.W.mg_of X G a_is_range, F_names_in, b_names_in, PySem.W.mg_of X G a_names_in, F_ranges_in, b_ranges_in, PySem.W.mg_of X G a_ranges_in, F_is_rule, b_is_rule, PySem.W.mg_of X G a_is_rule, F_check_system, b_check_system, PySem.W.mg_of X G a_check_system, F_System_init_, b_System_init_, F_law_draw, b_law_draw, PySem.W.mg_of X G a_law_draw, F_law_inside, b_law_inside, PySem.W.mg_of X G a_law_inside, F_law_next, b_law_next, PySem.W.mg_of X G a_law_next, F_law_spot, b_law_spot, PySem.W.mg_of X G a_law_spot, F_law_moves, b_law_moves, PySem.W.mg_of X G a_law_moves, F_law_rng, b_law_rng, PySem.W.mg_of X G a_law_rng, F_law_end, b_law_end, PySem.W.mg_of X G a_law_end, F_law_within, b_law_within, PySem.W.mg_of X G a_law_within, F_law_rule, b_law_rule, PySem.W.mg_of X G a_law_rule, F_law_rows, b_law_rows, PySem.W.mg_of X G a_law_rows, F_law_words, b_law_words, PySem.W.mg_of X G a_law_words, F_is_in, b_is_in, PySem.W.mg_of X G a_is_in, F_value_given, b_value_given, PySem.W.mg_of X G a_value_given, F_played, b_played, PySem.W.mg_of X G a_played, F_values_behind, b_values_behind, PySem.W.mg_of X G a_values_behind, F_law, b_law, PySem.W.mg_of X G a_law, PySem.W.mg_of X G a_System, ⟨mk_System, a_System_init_, i_System_init_, kc_System⟩, ⟨pg_System, hd_System, po_System, sa_System⟩, n_System_kept_names, n_System_kept_rules, a_System_eq_, i_System_eq_, ian_System, PySem.W.mg_none_of X G z_abs, PySem.W.mg_none_of X G z_all, PySem.W.mg_none_of X G z_dict, PySem.W.mg_none_of X G z_enumerate, PySem.W.mg_none_of X G z_int, PySem.W.mg_none_of X G z_isinstance, PySem.W.mg_none_of X G z_len, PySem.W.mg_none_of X G z_list, PySem.W.mg_none_of X G z_max, PySem.W.mg_none_of X G z_min, PySem.W.mg_none_of X G z_range, PySem.W.mg_none_of X G z_sorted, PySem.W.mg_none_of X G z_tuple, PySem.W.mg_of X G v_LETTERS, PySem.W.mg_of X G v_MOST_LETTERS, PySem.W.mg_of X G v_SET⟩
  exact ⟨_, fun s v => .of_eq rfl, fun base _ _ => law_sp hLaw (ok_law T)⟩
end TR
open PySem PySem.W PyProof.Rows
set_option maxRecDepth 100000 in
set_option maxHeartbeats 0 in
theorem PySem.Challenge.cw_tightranges_k35_values_behind_runs_holds : PySem.Challenge.rw_tightranges_k35_values_behind_runs.Holds := by
  w_on; o_law; k_head; (case hw => w_witness2)
  k_fill
  refine TR.walkB (l := PySem.Challenge.rw_tightranges_k35_values_behind_runs) (k := 6) rfl rfl ⟨rfl, by decide, by decide⟩ (fun w h Y => PySem.W.kIn_of Y) ?F
  case F =>
    intro w mg fa h KX G hmg
    refine' TR.all_mk TR.law_true KX G hmg ?a_System ?a_System_eq_ ?i_System_eq_ ?l_System_eq_ ?c_System_eq_ ?k_System_eq_ ?a_is_name ?l_is_name ?c_is_name ?k_is_name ?a_is_range ?l_is_range ?c_is_range ?k_is_range ?a_names_in ?l_names_in ?c_names_in ?k_names_in ?a_ranges_in ?l_ranges_in ?c_ranges_in ?k_ranges_in ?a_is_rule ?l_is_rule ?c_is_rule ?k_is_rule ?a_check_system ?l_check_system ?c_check_system ?k_check_system ?a_System_init_ ?i_System_init_ ?l_System_init_ ?c_System_init_ ?k_System_init_ ?a_law_draw ?l_law_draw ?c_law_draw ?k_law_draw ?a_law_inside ?l_law_inside ?c_law_inside ?k_law_inside ?a_law_next ?l_law_next ?c_law_next ?k_law_next ?a_law_spot ?l_law_spot ?c_law_spot ?k_law_spot ?a_law_moves ?l_law_moves ?c_law_moves ?k_law_moves ?a_law_rng ?l_law_rng ?c_law_rng ?k_law_rng ?a_law_end ?l_law_end ?c_law_end ?k_law_end ?a_law_within ?l_law_within ?c_law_within ?k_law_within ?a_law_rule ?l_law_rule ?c_law_rule ?k_law_rule ?a_law_rows ?l_law_rows ?c_law_rows ?k_law_rows ?a_law_words ?l_law_words ?c_law_words ?k_law_words ?a_is_in ?l_is_in ?c_is_in ?k_is_in ?a_value_given ?l_value_given ?c_value_given ?k_value_given ?a_played ?l_played ?c_played ?k_played ?a_values_behind ?l_values_behind ?c_values_behind ?k_values_behind ?a_law ?l_law ?c_law ?k_law ?pg_System ?hd_System ?po_System ?sa_System ?mk_System ?kc_System ?n_System_kept_names ?n_System_kept_rules ?ha_System ?mo_System ?hn ?htk ?z_abs ?z_all ?z_dict ?z_enumerate ?z_int ?z_isinstance ?z_len ?z_list ?z_max ?z_min ?z_range ?z_sorted ?z_tuple ?v_LETTERS ?v_MOST_LETTERS ?v_SET
    (case a_System => k_is)
    (case a_System_eq_ => k_is)
    (case i_System_eq_ => k_is)
    (case l_System_eq_ => k_is)
    (case c_System_eq_ => k_is)
    (case k_System_eq_ => k_is)
    (case a_is_name => k_is)
    (case l_is_name => k_is)
    (case c_is_name => k_is)
    (case k_is_name => k_is)
    (case a_is_range => k_is)
    (case l_is_range => k_is)
    (case c_is_range => k_is)
    (case k_is_range => k_is)
    (case a_names_in => k_is)
    (case l_names_in => k_is)
    (case c_names_in => k_is)
    (case k_names_in => k_is)
    (case a_ranges_in => k_is)
    (case l_ranges_in => k_is)
    (case c_ranges_in => k_is)
    (case k_ranges_in => k_is)
    (case a_is_rule => k_is)
    (case l_is_rule => k_is)
    (case c_is_rule => k_is)
    (case k_is_rule => k_is)
    (case a_check_system => k_is)
    (case l_check_system => k_is)
    (case c_check_system => k_is)
    (case k_check_system => k_is)
    (case a_System_init_ => k_is)
    (case i_System_init_ => k_is)
    (case l_System_init_ => k_is)
    (case c_System_init_ => k_is)
    (case k_System_init_ => k_is)
    (case a_law_draw => k_is)
    (case l_law_draw => k_is)
    (case c_law_draw => k_is)
    (case k_law_draw => k_is)
    (case a_law_inside => k_is)
    (case l_law_inside => k_is)
    (case c_law_inside => k_is)
    (case k_law_inside => k_is)
    (case a_law_next => k_is)
    (case l_law_next => k_is)
    (case c_law_next => k_is)
    (case k_law_next => k_is)
    (case a_law_spot => k_is)
    (case l_law_spot => k_is)
    (case c_law_spot => k_is)
    (case k_law_spot => k_is)
    (case a_law_moves => k_is)
    (case l_law_moves => k_is)
    (case c_law_moves => k_is)
    (case k_law_moves => k_is)
    (case a_law_rng => k_is)
    (case l_law_rng => k_is)
    (case c_law_rng => k_is)
    (case k_law_rng => k_is)
    (case a_law_end => k_is)
    (case l_law_end => k_is)
    (case c_law_end => k_is)
    (case k_law_end => k_is)
    (case a_law_within => k_is)
    (case l_law_within => k_is)
    (case c_law_within => k_is)
    (case k_law_within => k_is)
    (case a_law_rule => k_is)
    (case l_law_rule => k_is)
    (case c_law_rule => k_is)
    (case k_law_rule => k_is)
    (case a_law_rows => k_is)
    (case l_law_rows => k_is)
    (case c_law_rows => k_is)
    (case k_law_rows => k_is)
    (case a_law_words => k_is)
    (case l_law_words => k_is)
    (case c_law_words => k_is)
    (case k_law_words => k_is)
    (case a_is_in => k_is)
    (case l_is_in => k_is)
    (case c_is_in => k_is)
    (case k_is_in => k_is)
    (case a_value_given => k_is)
    (case l_value_given => k_is)
    (case c_value_given => k_is)
    (case k_value_given => k_is)
    (case a_played => k_is)
    (case l_played => k_is)
    (case c_played => k_is)
    (case k_played => k_is)
    (case a_values_behind => k_is)
    (case l_values_behind => k_is)
    (case c_values_behind => k_is)
    (case k_values_behind => k_is)
    (case a_law => k_is)
    (case l_law => k_is)
    (case c_law => k_is)
    (case k_law => k_is)
    (case pg_System => k_is)
    (case hd_System => k_is)
    (case po_System => k_is)
    (case sa_System => k_is)
    (case mk_System => k_is)
    (case kc_System => k_is)
    (case n_System_kept_names => k_is)
    (case n_System_kept_rules => k_is)
    (case ha_System => k_is)
    (case mo_System => k_is)
    (case hn => k_is)
    (case htk => k_is)
    (case z_abs => k_is)
    (case z_all => k_is)
    (case z_dict => k_is)
    (case z_enumerate => k_is)
    (case z_int => k_is)
    (case z_isinstance => k_is)
    (case z_len => k_is)
    (case z_list => k_is)
    (case z_max => k_is)
    (case z_min => k_is)
    (case z_range => k_is)
    (case z_sorted => k_is)
    (case z_tuple => k_is)
    (case v_LETTERS => k_is)
    (case v_MOST_LETTERS => k_is)
    (case v_SET => k_is)

