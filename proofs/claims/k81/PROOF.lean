import PyProof.Rows.All
import Wide.All
import OpenK.AllK
import Wide.FinOn
import HandS.ForMost
import HandS.TupAny
import HandS.TupMul
import HandS.Wide
import HandS.Style
import HandS.Flow
import HandS.Conv
import HandS.IsInst
import KE.SortData
import KE.DataEq
import KE.DataCmp
import KE.DataMinMax
import KE.DataAny
import KE.DataFind
import KE.Datum
import KE.DatumOrd
import KE.DatumMore
import HandS.Strs
import PyProof.SumAny
import PyProof.Rows.RowBridgeK
import HandS.Words
import HandS.Ends
import HandS.Codes
import HandS.EndBits
import PySem.Challenge.RW_leadstrue_k81_whole_parts_shared_by_make
set_option Elab.async false
set_option linter.all false
set_option maxRecDepth 100000
namespace DL
open L2 PyProof.Rows PySem PySem.Spec
/-! ## plain data -/
abbrev D := PyData
abbrev Fg := PySem.W.Frag
abbrev Ad := Addr → Prop
def keyD : Key → D
  | .inl i => .int i
  | .inr x => .str x
mutual
/-- the value v, over the heap's part G, bears the datum d -/
inductive Dn (K : Fg) (G : Hp) : V → D → Prop
  | non : Dn K G .non .none
  | bl (b : Bool) : Dn K G (.bl b) (.bool b)
  | int (i : Int) : Dn K G (.int i) (.int i)
  | str (x : Str) : Dn K G (.str x) (.str x)
  | lst {a : Addr} {xs : List V} {ds : List D} : SqL K G a xs → DnL K G xs ds → Dn K G (.ref a) (.list ds)
  | tup {a : Addr} {xs : List V} {ds : List D} : G a = some (.tup xs) → DnL K G xs ds → Dn K G (.ref a) (.tuple ds)
  | dic {a : Addr} {ks : List (Key × V)} {ds : List (D × D)} : G a = some (.dK ks) → DnK K G ks ds → Dn K G (.ref a) (.dict ds)
  | dct {a : Addr} {ks : List (List Key × V)} {ds : List (D × D)} : G a = some (.dT ks) → DnT K G ks ds → Dn K G (.ref a) (.dict ds)
inductive DnL (K : Fg) (G : Hp) : List V → List D → Prop
  | nil : DnL K G [] []
  | cons {v : V} {vs : List V} {d : D} {ds : List D} : Dn K G v d → DnL K G vs ds → DnL K G (v :: vs) (d :: ds)
inductive DnK (K : Fg) (G : Hp) : List (Key × V) → List (D × D) → Prop
  | nil : DnK K G [] []
  | cons {k : Key} {v : V} {vs : List (Key × V)} {d : D} {ds : List (D × D)} : Dn K G v d → DnK K G vs ds → DnK K G ((k, v) :: vs) ((keyD k, d) :: ds)
inductive DnT (K : Fg) (G : Hp) : List (List Key × V) → List (D × D) → Prop
  | nil : DnT K G [] []
  | cons {k : List Key} {v : V} {vs : List (List Key × V)} {d : D} {ds : List (D × D)} : Dn K G v d → DnT K G vs ds → DnT K G ((k, v) :: vs) ((.tuple (k.map keyD), d) :: ds)
end
section
variable {K : Fg} {G G' : Hp}
theorem seqMono {a : Addr} {xs : List V} (e : Same G G') (h : SqL K G a xs) : SqL K G' a xs := e.seq h
mutual
theorem Dn.mono (e : Same G G') : ∀ {v : V} {d : D}, Dn K G v d → Dn K G' v d
  | _, _, .non => .non
  | _, _, .bl b => .bl b
  | _, _, .int i => .int i
  | _, _, .str x => .str x
  | _, _, .lst h t => .lst (e.seq h) (DnL.mono e t)
  | _, _, .tup h t => .tup (e _ _ h) (DnL.mono e t)
  | _, _, .dic h t => .dic (e _ _ h) (DnK.mono e t)
  | _, _, .dct h t => .dct (e _ _ h) (DnT.mono e t)
theorem DnL.mono (e : Same G G') : ∀ {v : List V} {d : List D}, DnL K G v d → DnL K G' v d
  | _, _, .nil => .nil
  | _, _, .cons h t => .cons (Dn.mono e h) (DnL.mono e t)
theorem DnK.mono (e : Same G G') : ∀ {v : List (Key × V)} {d : List (D × D)}, DnK K G v d → DnK K G' v d
  | _, _, .nil => .nil
  | _, _, .cons h t => .cons (Dn.mono e h) (DnK.mono e t)
theorem DnT.mono (e : Same G G') : ∀ {v : List (List Key × V)} {d : List (D × D)}, DnT K G v d → DnT K G' v d
  | _, _, .nil => .nil
  | _, _, .cons h t => .cons (Dn.mono e h) (DnT.mono e t)
end
theorem DnL.length : ∀ {v : List V} {d : List D}, DnL K G v d → v.length = d.length
  | _, _, .nil => rfl
  | _, _, .cons _ t => congrArg (· + 1) (DnL.length t)
theorem DnL.get : ∀ {v : List V} {d : List D} {i : Nat} {x : D}, DnL K G v d → d[i]? = some x → ∃ u, v[i]? = some u ∧ Dn K G u x
  | _, _, _, _, .nil, e => by simp at e
  | _, _, 0, _, .cons h _, e => by simp at e; subst e; exact ⟨_, rfl, h⟩
  | _, _, i + 1, _, .cons _ t, e => by
    obtain ⟨u, h1, h2⟩ := DnL.get (i := i) t (by simpa using e)
    exact ⟨u, by simpa using h1, h2⟩
theorem DnL.getV : ∀ {v : List V} {d : List D} {i : Nat} {u : V}, DnL K G v d → v[i]? = some u → ∃ x, d[i]? = some x ∧ Dn K G u x
  | _, _, _, _, .nil, e => by simp at e
  | _, _, 0, _, .cons h _, e => by simp at e; subst e; exact ⟨_, rfl, h⟩
  | _, _, i + 1, _, .cons _ t, e => by
    obtain ⟨u, h1, h2⟩ := DnL.getV (i := i) t (by simpa using e)
    exact ⟨u, by simpa using h1, h2⟩
theorem DnL.append : ∀ {v w : List V} {d e : List D}, DnL K G v d → DnL K G w e → DnL K G (v ++ w) (d ++ e)
  | _, _, _, _, .nil, s => s
  | _, _, _, _, .cons h t, s => .cons h (DnL.append t s)
theorem DnL.take : ∀ {v : List V} {d : List D} (n : Nat), DnL K G v d → DnL K G (v.take n) (d.take n)
  | _, _, 0, _ => .nil
  | _, _, _ + 1, .nil => .nil
  | _, _, n + 1, .cons h t => .cons h (DnL.take n t)
theorem DnL.drop : ∀ {v : List V} {d : List D} (n : Nat), DnL K G v d → DnL K G (v.drop n) (d.drop n)
  | _, _, 0, r => r
  | _, _, _ + 1, .nil => .nil
  | _, _, n + 1, .cons _ t => DnL.drop n t
theorem DnL.one {v : V} {d : D} (h : Dn K G v d) : DnL K G [v] [d] := .cons h .nil
theorem DnL.reverse : ∀ {v : List V} {d : List D}, DnL K G v d → DnL K G v.reverse d.reverse
  | _, _, .nil => .nil
  | _, _, .cons h t => by rw [List.reverse_cons, List.reverse_cons]; exact (DnL.reverse t).append (.one h)
theorem DnL.set : ∀ {v : List V} {d : List D} {x : V} {y : D} (i : Nat), DnL K G v d → Dn K G x y → DnL K G (v.set i x) (d.set i y)
  | _, _, _, _, _, .nil, _ => .nil
  | _, _, _, _, 0, .cons _ t, r => .cons r t
  | _, _, _, _, i + 1, .cons h t, r => .cons h (DnL.set i t r)
theorem DnL.eraseIdx : ∀ {v : List V} {d : List D} (i : Nat), DnL K G v d → DnL K G (v.eraseIdx i) (d.eraseIdx i)
  | _, _, _, .nil => .nil
  | _, _, 0, .cons _ t => t
  | _, _, i + 1, .cons h t => .cons h (DnL.eraseIdx i t)
theorem DnL.dropLast {v : List V} {d : List D} (h : DnL K G v d) : DnL K G v.dropLast d.dropLast := by
  rw [List.dropLast_eq_take, List.dropLast_eq_take, h.length]; exact h.take _
theorem DnL.rep {v : List V} {d : List D} (h : DnL K G v d) : ∀ k : Nat, DnL K G (List.replicate k v).flatten (List.replicate k d).flatten
  | 0 => .nil
  | k + 1 => by
    simp only [List.replicate_succ, List.flatten_cons]
    exact h.append (DnL.rep h k)
/-- all of them ints, texts, bools -/
theorem DnL.ints : ∀ {v : List V} {ns : List Int}, DnL K G v (ns.map .int) → v = ns.map .int
  | [], [], _ => rfl
  | _, _ :: _, h => by
    cases h with
    | cons h t => cases h; rw [DnL.ints t]; rfl
theorem DnL.strs : ∀ {v : List V} {ns : List Str}, DnL K G v (ns.map .str) → v = ns.map .str
  | [], [], _ => rfl
  | _, _ :: _, h => by
    cases h with
    | cons h t => cases h; rw [DnL.strs t]; rfl
theorem DnL.bls : ∀ {v : List V} {ns : List Bool}, DnL K G v (ns.map .bool) → v = ns.map .bl
  | [], [], _ => rfl
  | _, _ :: _, h => by
    cases h with
    | cons h t => cases h; rw [DnL.bls t]; rfl
theorem DnL.ofInts : ∀ (ns : List Int), DnL K G (ns.map .int) (ns.map .int)
  | [] => .nil
  | n :: ns => .cons (.int n) (DnL.ofInts ns)
theorem DnL.ofStrs : ∀ (ns : List Str), DnL K G (ns.map .str) (ns.map .str)
  | [] => .nil
  | n :: ns => .cons (.str n) (DnL.ofStrs ns)
end
/-! ## a heap without some addresses -/
open Classical in
noncomputable def hide (H : Hp) (O : Ad) : Hp := fun a => if O a then none else H a
theorem hide_some {H : Hp} {O : Ad} {a : Addr} {o : HO} : hide H O a = some o ↔ ¬ O a ∧ H a = some o := by
  unfold hide
  by_cases h : O a
  · rw [if_pos h]; exact ⟨fun e => (by cases e), fun e => absurd h e.1⟩
  · rw [if_neg h]; exact ⟨fun e => ⟨h, e⟩, fun e => e.2⟩
theorem hide_sub {H : Hp} {O : Ad} : Same (hide H O) H := fun _ _ e => (hide_some.mp e).2
theorem hide_same {H H' : Hp} {O : Ad} (e : Same H H') : Same (hide H O) (hide H' O) := fun _ _ h => hide_some.mpr ⟨(hide_some.mp h).1, e _ _ (hide_some.mp h).2⟩
theorem hide_less {H : Hp} {O O' : Ad} (h : ∀ a, O' a → O a) : Same (hide H O) (hide H O') := fun _ _ e => hide_some.mpr ⟨fun q => (hide_some.mp e).1 (h _ q), (hide_some.mp e).2⟩
theorem hide_both {H H' : Hp} {O O' : Ad} (e : ∀ a o, ¬ O a → H a = some o → ¬ O' a ∧ H' a = some o) : Same (hide H O) (hide H' O') := fun _ _ h => hide_some.mpr (e _ _ (hide_some.mp h).1 (hide_some.mp h).2)
/-- what stands at a is the datum d, its parts over G -/
def Top (K : Fg) (G H : Hp) (a : Addr) (d : D) : Prop :=
  match d with
  | .list ds => ∃ xs, H a = some (.lst xs) ∧ DnL K G xs ds
  | .dict ds => (∃ ks, H a = some (.dK ks) ∧ DnK K G ks ds) ∨ ∃ ks, H a = some (.dT ks) ∧ DnT K G ks ds
  | _ => False
theorem Top.mono {K : Fg} {G G' H H' : Hp} {a : Addr} {d : D} (h : Top K G H a d) (e : Same G G') (k : ∀ o, H a = some o → H' a = some o) : Top K G' H' a d := by
  cases d with
  | list ds => obtain ⟨xs, h1, h2⟩ := h; exact ⟨xs, k _ h1, h2.mono e⟩
  | dict ds =>
    rcases h with ⟨ks, h1, h2⟩ | ⟨ks, h1, h2⟩
    · exact .inl ⟨ks, k _ h1, h2.mono e⟩
    · exact .inr ⟨ks, k _ h1, h2.mono e⟩
  | _ => exact h.elim
theorem Top.there {K : Fg} {G H : Hp} {a : Addr} {d : D} (h : Top K G H a d) : ∃ o, H a = some o ∧ ∀ xs, o ≠ .tup xs := by
  cases d with
  | list ds => obtain ⟨xs, h1, h2⟩ := h; exact ⟨_, h1, fun _ z => by cases z⟩
  | dict ds =>
    rcases h with ⟨ks, h1, h2⟩ | ⟨ks, h1, h2⟩
    · exact ⟨_, h1, fun _ z => by cases z⟩
    · exact ⟨_, h1, fun _ z => by cases z⟩
  | _ => exact h.elim
theorem Top.dn {K : Fg} {G H : Hp} {a : Addr} {d : D} (h : Top K G H a d) (hG : Same G H) : Dn K H (.ref a) d := by
  cases d with
  | list ds => obtain ⟨xs, h1, h2⟩ := h; exact .lst (.of h1) (h2.mono hG)
  | dict ds =>
    rcases h with ⟨ks, h1, h2⟩ | ⟨ks, h1, h2⟩
    · exact .dic h1 (h2.mono hG)
    · exact .dct h1 (h2.mono hG)
  | _ => exact h.elim
end DL
namespace DL
open L2 PyProof.Rows PySem PySem.Spec
/-! ## the state of a def: slots -/
/-- a slot: not told; plain data; a list or dict of the def's own; one of the caller's, handed in to be changed -/
inductive Sl where
  | un
  | p (d : D)
  | o (d : D)
  | m (d : D)
abbrev Rho := List Sl
def Sl.own : Sl → Bool
  | .o _ => true
  | .m _ => true
  | _ => false
/-- what is fixed while a def runs: what its callers own, its arguments, the heap at its entry -/
structure Fx where
  Oc : Ad
  a0 : L2.St
  H0 : Hp
def Own (σ : L2.St) (ρ : Rho) (i : Nat) (a : Addr) : Prop := ∃ s : Sl, ρ[i]? = some s ∧ s.own = true ∧ σ[i]? = some (some (.ref a))
def Ow (F : Fx) (σ : L2.St) (ρ : Rho) : Ad := fun a => F.Oc a ∨ ∃ i, Own σ ρ i a
def SlOk (K : Fg) (G H : Hp) (F : Fx) (i : Nat) (x : Option V) : Sl → Prop
  | .un => True
  | .p d => ∃ v, x = some v ∧ Dn K G v d
  | .o d => ∃ a, x = some (.ref a) ∧ Top K G H a d ∧ F.H0 a = none
  | .m d => ∃ a, x = some (.ref a) ∧ Top K G H a d ∧ F.a0[i]? = some (some (.ref a))
structure Rl (K : Fg) (F : Fx) (σ : L2.St) (H : Hp) (ρ : Rho) : Prop where
  len : σ.length = ρ.length
  slot : ∀ (i : Nat) (s : Sl), ρ[i]? = some s → ∃ x, σ[i]? = some x ∧ SlOk K (hide H (Ow F σ ρ)) H F i x s
  inj : ∀ (i j : Nat) (a : Addr), Own σ ρ i a → Own σ ρ j a → i = j
  oc : ∀ a, F.Oc a → H a ≠ none ∧ ∀ i, ¬ Own σ ρ i a
  dom : ∀ a, F.H0 a ≠ none → H a ≠ none
structure Evo (F : Fx) (σ : L2.St) (H : Hp) (ρ : Rho) (σ' : L2.St) (H' : Hp) (ρ' : Rho) : Prop where
  kept : Same (hide H (Ow F σ ρ)) (hide H' (Ow F σ' ρ'))
  oc : ∀ a, F.Oc a → H' a = H a
  dom : ∀ a, H a ≠ none → H' a ≠ none
theorem Evo.refl {F : Fx} {σ : L2.St} {H : Hp} {ρ : Rho} : Evo F σ H ρ σ H ρ := ⟨.refl _, fun _ _ => rfl, fun _ h => h⟩
theorem Evo.trans {F : Fx} {σ σ1 σ2 : L2.St} {H H1 H2 : Hp} {ρ ρ1 ρ2 : Rho} (a : Evo F σ H ρ σ1 H1 ρ1) (b : Evo F σ1 H1 ρ1 σ2 H2 ρ2) : Evo F σ H ρ σ2 H2 ρ2 :=
  ⟨a.kept.trans b.kept, fun x h => (b.oc x h).trans (a.oc x h), fun x h => b.dom x (a.dom x h)⟩
theorem ne_none_of {H : Hp} {a : Addr} {o : HO} (h : H a = some o) : H a ≠ none := fun z => by rw [h] at z; cases z
theorem sameDom {H H' : Hp} (e : Same H H') {a : Addr} (h : H a ≠ none) : H' a ≠ none := by
  cases q : H a with
  | none => exact absurd q h
  | some o => rw [e _ _ q]; simp
theorem sameAt {H H' : Hp} (e : Same H H') {a : Addr} (h : H a ≠ none) : H' a = H a := by
  cases q : H a with
  | none => exact absurd q h
  | some o => exact e _ _ q
section
variable {K : Fg} {F : Fx} {σ : L2.St} {H H' : Hp} {ρ ρ' : Rho}
theorem Rl.own_top (R : Rl K F σ H ρ) {i : Nat} {a : Addr} (h : Own σ ρ i a) : ∃ d, Top K (hide H (Ow F σ ρ)) H a d := by
  obtain ⟨s, h1, h2, h3⟩ := h
  obtain ⟨x, e, ok⟩ := R.slot i s h1
  rw [h3] at e
  cases e
  cases s with
  | un => cases h2
  | p d => cases h2
  | o d => obtain ⟨b, e, t, _⟩ := ok; cases e; exact ⟨d, t⟩
  | m d => obtain ⟨b, e, t, _⟩ := ok; cases e; exact ⟨d, t⟩
/-- whatever is owned stands -/
theorem Rl.domO (R : Rl K F σ H ρ) : ∀ a, Ow F σ ρ a → H a ≠ none := fun a h => by
  rcases h with h | ⟨i, h⟩
  · exact (R.oc a h).1
  · obtain ⟨d, t⟩ := R.own_top h
    obtain ⟨o, e, _⟩ := t.there
    exact ne_none_of e
theorem Rl.notTup (R : Rl K F σ H ρ) {a : Addr} {i : Nat} (h : Own σ ρ i a) : ∀ xs, H a ≠ some (.tup xs) := fun xs z => by
  obtain ⟨d, t⟩ := R.own_top h
  obtain ⟨o, e, n⟩ := t.there
  rw [z] at e
  cases e
  exact n xs rfl
theorem SlOk.mono {G G' : Hp} {i : Nat} {x : Option V} {s : Sl} (h : SlOk K G H F i x s) (e : Same G G') (k : ∀ a, x = some (.ref a) → ∀ o, H a = some o → H' a = some o) : SlOk K G' H' F i x s := by
  cases s with
  | un => trivial
  | p d => obtain ⟨v, e1, e2⟩ := h; exact ⟨v, e1, e2.mono e⟩
  | o d => obtain ⟨a, e1, e2, e3⟩ := h; exact ⟨a, e1, e2.mono e (k a e1), e3⟩
  | m d => obtain ⟨a, e1, e2, e3⟩ := h; exact ⟨a, e1, e2.mono e (k a e1), e3⟩
/-- the heap grows -/
theorem Rl.grow (R : Rl K F σ H ρ) (e : Same H H') : Rl K F σ H' ρ where
  len := R.len
  slot := fun i s h => by
    obtain ⟨x, h1, h2⟩ := R.slot i s h
    exact ⟨x, h1, h2.mono (hide_same e) fun a _ o q => e _ _ q⟩
  inj := R.inj
  oc := fun a h => ⟨sameDom e (R.oc a h).1, (R.oc a h).2⟩
  dom := fun a h => sameDom e (R.dom a h)
theorem Rl.evo (R : Rl K F σ H ρ) (e : Same H H') : Evo F σ H ρ σ H' ρ := ⟨hide_same e, fun a h => sameAt e (R.oc a h).1, fun a h => sameDom e h⟩
/-- behind an expression: the state, what is kept; m: nothing but new objects -/
structure Po (K : Fg) (F : Fx) (m : Bool) (σ : L2.St) (H : Hp) (ρ : Rho) (H' : Hp) (ρ' : Rho) : Prop where
  rl : Rl K F σ H' ρ'
  ev : Evo F σ H ρ σ H' ρ'
  pu : m = true → ρ' = ρ ∧ Same H H'
theorem Po.refl {m : Bool} (R : Rl K F σ H ρ) : Po K F m σ H ρ H ρ := ⟨R, .refl, fun _ => ⟨rfl, .refl _⟩⟩
theorem Po.grow {m : Bool} (R : Rl K F σ H ρ) (e : Same H H') : Po K F m σ H ρ H' ρ := ⟨R.grow e, R.evo e, fun _ => ⟨rfl, e⟩⟩
theorem Po.trans {m n : Bool} {H1 H2 : Hp} {ρ1 ρ2 : Rho} (a : Po K F m σ H ρ H1 ρ1) (b : Po K F n σ H1 ρ1 H2 ρ2) : Po K F (m && n) σ H ρ H2 ρ2 :=
  ⟨b.rl, a.ev.trans b.ev, fun z => by
    have z' : m = true ∧ n = true := by simpa using z
    obtain ⟨e1, s1⟩ := a.pu z'.1
    obtain ⟨e2, s2⟩ := b.pu z'.2
    exact ⟨e2.trans e1, s1.trans s2⟩⟩
theorem Po.weak {m n : Bool} (a : Po K F m σ H ρ H' ρ') (h : n = true → m = true) : Po K F n σ H ρ H' ρ' := ⟨a.rl, a.ev, fun z => a.pu (h z)⟩
theorem Po.more {m : Bool} {H1 H2 : Hp} {ρ1 : Rho} (a : Po K F m σ H ρ H1 ρ1) (e : Same H1 H2) : Po K F m σ H ρ H2 ρ1 :=
  (a.trans (Po.grow (m := true) a.rl e)).weak (by simp)
end
/-! ## what an expression's value is -/
/-- kept (may be stored), borrowed (may be the def's own list itself), fresh (a new list or dict that no one else holds) -/
inductive Kd where
  | k
  | b
  | f
def insA (O : Ad) (a : Addr) : Ad := fun b => O b ∨ b = a
def Bw (K : Fg) (O : Ad) (H : Hp) (v : V) (d : D) : Prop :=
  Dn K (hide H O) v d ∨ ∃ a, v = .ref a ∧ Top K (hide H O) H a d
def Vr (K : Fg) (kd : Kd) (O : Ad) (H0 H : Hp) (v : V) (d : D) : Prop :=
  match kd with
  | .k => Dn K (hide H O) v d
  | .b => Bw K O H v d
  | .f => ∃ a, v = .ref a ∧ H0 a = none ∧ ¬ O a ∧ Top K (hide H (insA O a)) H a d
theorem Vr.weak {K : Fg} {O : Ad} {H0 H : Hp} {v : V} {d : D} (h : Vr K .f O H0 H v d) : Vr K .k O H0 H v d := by
  obtain ⟨a, rfl, _, ha, t⟩ := h
  have e : Same (hide H (insA O a)) (hide H O) := hide_less fun _ h => .inl h
  cases d with
  | list ds => obtain ⟨xs, h1, h2⟩ := t; exact .lst (.of (hide_some.mpr ⟨ha, h1⟩)) (h2.mono e)
  | dict ds =>
    rcases t with ⟨ks, h1, h2⟩ | ⟨ks, h1, h2⟩
    · exact .dic (hide_some.mpr ⟨ha, h1⟩) (h2.mono e)
    · exact .dct (hide_some.mpr ⟨ha, h1⟩) (h2.mono e)
  | _ => exact t.elim
theorem Vr.bw {K : Fg} {kd : Kd} {O : Ad} {H0 H : Hp} {v : V} {d : D} (h : Vr K kd O H0 H v d) : Bw K O H v d := by
  cases kd with
  | k => exact .inl h
  | b => exact h
  | f => exact .inl (Vr.weak h)
theorem Bw.mono {K : Fg} {O O' : Ad} {H H' : Hp} {v : V} {d : D} (h : Bw K O H v d) (e : Same (hide H O) (hide H' O')) (k : Same H H') : Bw K O' H' v d := by
  rcases h with h | ⟨a, rfl, t⟩
  · exact .inl (h.mono e)
  · exact .inr ⟨a, rfl, t.mono e (k a)⟩
section
variable {K : Fg} {O : Ad} {H : Hp} {v : V}
theorem Bw.none_ (h : Bw K O H v .none) : v = .non := by
  rcases h with h | ⟨a, rfl, t⟩
  · cases h; rfl
  · exact t.elim
theorem Bw.int {i : Int} (h : Bw K O H v (.int i)) : v = .int i := by
  rcases h with h | ⟨a, rfl, t⟩
  · cases h; rfl
  · exact t.elim
theorem Bw.bool {b : Bool} (h : Bw K O H v (.bool b)) : v = .bl b := by
  rcases h with h | ⟨a, rfl, t⟩
  · cases h; rfl
  · exact t.elim
theorem Bw.str {x : Str} (h : Bw K O H v (.str x)) : v = .str x := by
  rcases h with h | ⟨a, rfl, t⟩
  · cases h; rfl
  · exact t.elim
theorem Bw.list {ds : List D} (h : Bw K O H v (.list ds)) : ∃ a xs, v = .ref a ∧ SqL K H a xs ∧ DnL K (hide H O) xs ds := by
  rcases h with h | ⟨a, rfl, t⟩
  · cases h with
    | lst h1 h2 => exact ⟨_, _, rfl, hide_sub.seq h1, h2⟩
  · obtain ⟨xs, h1, h2⟩ := t
    exact ⟨_, _, rfl, .of h1, h2⟩
theorem Bw.tuple {ds : List D} (h : Bw K O H v (.tuple ds)) : ∃ a xs, v = .ref a ∧ hide H O a = some (.tup xs) ∧ DnL K (hide H O) xs ds := by
  rcases h with h | ⟨a, rfl, t⟩
  · cases h with
    | tup h1 h2 => exact ⟨_, _, rfl, h1, h2⟩
  · exact t.elim
theorem Bw.dict {ds : List (D × D)} (h : Bw K O H v (.dict ds)) : ∃ a, v = .ref a ∧ ((∃ ks, H a = some (.dK ks) ∧ DnK K (hide H O) ks ds) ∨ ∃ ks, H a = some (.dT ks) ∧ DnT K (hide H O) ks ds) := by
  rcases h with h | ⟨a, rfl, t⟩
  · cases h with
    | dic h1 h2 => exact ⟨_, rfl, .inl ⟨_, hide_sub _ _ h1, h2⟩⟩
    | dct h1 h2 => exact ⟨_, rfl, .inr ⟨_, hide_sub _ _ h1, h2⟩⟩
  · exact ⟨a, rfl, t⟩
end
/-- fresh at a later heap is fresh at an earlier one -/
theorem Vr.since {K : Fg} {kd : Kd} {O : Ad} {H0 H H' : Hp} {v : V} {d : D} (h : Vr K kd O H H' v d) (dom : ∀ a, H0 a ≠ none → H a ≠ none) : Vr K kd O H0 H' v d := by
  cases kd with
  | k => exact h
  | b => exact h
  | f =>
    obtain ⟨a, e, n, r⟩ := h
    refine ⟨a, e, ?_, r⟩
    cases q : H0 a with
    | none => rfl
    | some o => exact absurd n (dom a (by rw [q]; simp))
/-- one more address that no one here may touch -/
def Fx.add (F : Fx) (a : Addr) : Fx := { F with Oc := insA F.Oc a }
theorem ow_add {F : Fx} {σ : L2.St} {ρ : Rho} {a b : Addr} : Ow (F.add a) σ ρ b ↔ Ow F σ ρ b ∨ b = a := by
  constructor
  · rintro ((h | h) | h)
    · exact .inl (.inl h)
    · exact .inr h
    · exact .inl (.inr h)
  · rintro ((h | h) | h)
    · exact .inl (.inl h)
    · exact .inr h
    · exact .inl (.inr h)
theorem Rl.addNew {K : Fg} {F : Fx} {σ : L2.St} {H H' : Hp} {ρ : Rho} {a : Addr} (R : Rl K F σ H ρ) (s : Same H H') (h : H a = none) (h' : H' a ≠ none) : Rl K (F.add a) σ H' ρ where
  len := R.len
  slot := fun i t e => by
    obtain ⟨x, h1, h2⟩ := R.slot i t e
    have G : Same (hide H (Ow F σ ρ)) (hide H' (Ow (F.add a) σ ρ)) := hide_both fun b o nb hb => ⟨fun z => (ow_add.mp z).elim nb (ne_of_none hb h), s _ _ hb⟩
    exact ⟨x, h1, h2.mono G fun b _ o q => s _ _ q⟩
  inj := R.inj
  oc := fun b hb => by
    rcases hb with hb | hb
    · exact ⟨sameDom s (R.oc b hb).1, (R.oc b hb).2⟩
    · subst hb
      exact ⟨h', fun i q => R.domO _ (.inr ⟨i, q⟩) h⟩
  dom := fun b hb => sameDom s (R.dom b hb)
/-- .. and of the fresh one: the state is as it is without it -/
structure Er (K : Fg) (F : Fx) (σ : L2.St) (ρ' : Rho) (kd : Kd) (H H' : Hp) (v : V) (d : D) : Prop where
  vr : Vr K kd (Ow F σ ρ') H H' v d
  fr : kd = .f → ∀ a, v = .ref a → Rl K (F.add a) σ H' ρ'
section
variable {K : Fg} {F : Fx} {σ : L2.St} {ρ' : Rho} {kd : Kd} {H H0 H1 H' : Hp} {v : V} {d : D}
theorem Er.bw (h : Er K F σ ρ' kd H H' v d) : Bw K (Ow F σ ρ') H' v d := h.vr.bw
theorem Er.since (h : Er K F σ ρ' kd H H' v d) (dom : ∀ a, H0 a ≠ none → H a ≠ none) : Er K F σ ρ' kd H0 H' v d := ⟨h.vr.since dom, h.fr⟩
theorem Er.k (h : Dn K (hide H' (Ow F σ ρ')) v d) : Er K F σ ρ' .k H H' v d := ⟨h, fun z => by cases z⟩
theorem Er.b (h : Bw K (Ow F σ ρ') H' v d) : Er K F σ ρ' .b H H' v d := ⟨h, fun z => by cases z⟩
theorem Er.of (R : Rl K F σ H1 ρ') (s : Same H1 H') (h : Vr K kd (Ow F σ ρ') H1 H' v d) (dom : ∀ a, H a ≠ none → H1 a ≠ none) : Er K F σ ρ' kd H H' v d := by
  refine ⟨h.since dom, fun e b hb => ?_⟩
  subst e
  obtain ⟨a, e, n, _, t⟩ := h
  rw [e] at hb
  cases hb
  obtain ⟨o, q, _⟩ := t.there
  exact R.addNew s n (ne_none_of q)
end
/-! ## the judgement of an expression -/
abbrev Ef := Rho → Option (D × Rho)
structure EG (X : Cx) (m : Bool) (kd : Kd) (e : Expr) (f : Ef) : Prop where
  ex : ∃ t : TE, PE X e t ∧ ∀ (F : Fx) (σ : L2.St) (H : Hp) (ρ : Rho) (d : D) (ρ' : Rho) (Q : VK), Rl X.K F σ H ρ → f ρ = some (d, ρ') →
    (∀ v H', Po X.K F m σ H ρ H' ρ' → Er X.K F σ ρ' kd H H' v d → Q v H') → t σ H Q
/-- an expression that changes nothing, as a function into data alone -/
def lift (g : Rho → Option D) : Ef := fun ρ => (g ρ).map fun d => (d, ρ)
theorem lift_some {g : Rho → Option D} {ρ ρ' : Rho} {d : D} : lift g ρ = some (d, ρ') ↔ g ρ = some d ∧ ρ' = ρ := by
  unfold lift
  cases g ρ with
  | none => simp
  | some e => simp [eq_comm]
section
variable {X : Cx} {m : Bool} {kd : Kd} {e : Expr} {f : Ef}
theorem EG.weakM (h : EG X m kd e f) : EG X false kd e f := by
  obtain ⟨t, h1, h2⟩ := h.ex
  exact ⟨t, h1, fun F σ H ρ d ρ' Q R hf k => h2 F σ H ρ d ρ' Q R hf fun v H' p r => k v H' (p.weak (fun z => by cases z)) r⟩
theorem EG.toK (h : EG X m .f e f) : EG X m .k e f := by
  obtain ⟨t, h1, h2⟩ := h.ex
  exact ⟨t, h1, fun F σ H ρ d ρ' Q R hf k => h2 F σ H ρ d ρ' Q R hf fun v H' p r => k v H' p (.k (Vr.weak r.vr))⟩
theorem EG.toB (h : EG X m kd e f) : EG X m .b e f := by
  obtain ⟨t, h1, h2⟩ := h.ex
  exact ⟨t, h1, fun F σ H ρ d ρ' Q R hf k => h2 F σ H ρ d ρ' Q R hf fun v H' p r => k v H' p (.b r.bw)⟩
theorem EG.cong {f' : Ef} (h : EG X m kd e f) (q : f' = f) : EG X m kd e f' := by rw [q]; exact h
end
end DL
namespace DL
open L2 PyProof.Rows PySem PySem.Spec
/-! ## names, constants -/
def vP (i : Nat) (ρ : Rho) : Option D := match ρ[i]? with
  | some (.p d) => some d
  | _ => none
def vB (i : Nat) (ρ : Rho) : Option D := match ρ[i]? with
  | some (.p d) => some d
  | some (.o d) => some d
  | some (.m d) => some d
  | _ => none
abbrev EP (X : Cx) (kd : Kd) (e : Expr) (g : Rho → Option D) : Prop := EG X true kd e (lift g)
section
variable {X : Cx}
theorem ep_var {i : Nat} {x : Str} {pos : Pos} (h : PE X (.Name x pos) (tVar i)) : EP X .k (.Name x pos) (vP i) := by
  refine ⟨_, h, fun F σ H ρ d ρ' Q R hf k => ?_⟩
  obtain ⟨hf, rfl⟩ := lift_some.mp hf
  unfold vP at hf
  split at hf
  · rename_i d' e
    cases hf
    obtain ⟨y, e1, v, e2, dn⟩ := R.slot i _ e
    subst e2
    exact ⟨v, e1, k v H (.refl R) (.k dn)⟩
  · cases hf
theorem ep_varB {i : Nat} {x : Str} {pos : Pos} (h : PE X (.Name x pos) (tVar i)) : EP X .b (.Name x pos) (vB i) := by
  refine ⟨_, h, fun F σ H ρ d ρ' Q R hf k => ?_⟩
  obtain ⟨hf, rfl⟩ := lift_some.mp hf
  unfold vB at hf
  split at hf
  · rename_i d' e
    cases hf
    obtain ⟨y, e1, v, e2, dn⟩ := R.slot i _ e
    subst e2
    exact ⟨v, e1, k v H (.refl R) (.b (.inl dn))⟩
  · rename_i d' e
    cases hf
    obtain ⟨y, e1, a, e2, t, _⟩ := R.slot i _ e
    subst e2
    exact ⟨_, e1, k _ H (.refl R) (.b (.inr ⟨a, rfl, t⟩))⟩
  · rename_i d' e
    cases hf
    obtain ⟨y, e1, a, e2, t, _⟩ := R.slot i _ e
    subst e2
    exact ⟨_, e1, k _ H (.refl R) (.b (.inr ⟨a, rfl, t⟩))⟩
  · cases hf
def cC (d : D) (_ : Rho) : Option D := some d
theorem ep_const {e : Expr} {v : V} {d : D} (h : PE X e (tC v)) (hd : ∀ G, Dn X.K G v d) : EP X .k e (cC d) := by
  refine ⟨_, h, fun F σ H ρ d' ρ' Q R hf k => ?_⟩
  obtain ⟨hf, rfl⟩ := lift_some.mp hf
  cases hf
  exact k v H (.refl R) (.k (hd _))
theorem ep_int {i : Int} {j pos} : EP X .k (.Constant (.int i) j pos) (cC (.int i)) := ep_const pe_int fun _ => .int i
theorem ep_bl {b : Bool} {j pos} : EP X .k (.Constant (.bool b) j pos) (cC (.bool b)) := ep_const pe_bl fun _ => .bl b
theorem ep_non {j pos} : EP X .k (.Constant .none j pos) (cC .none) := ep_const pe_non fun _ => .non
theorem ep_str {x : Str} {j pos} : EP X .k (.Constant (.str x) j pos) (cC (.str x)) := ep_const pe_str fun _ => .str x
/-- a text that the module holds -/
theorem ep_gstr {x z : Str} {t : Tok} {pos : Pos} (hg : Gl X x) (hm : X.mg x = some (.str z t)) (hd : (x == ("__debug__" : Str)) = false := by decide) : EP X .k (.Name x pos) (cC (.str z)) :=
  ep_const (pe_glob (v := .str z) hg hm ⟨t, rfl⟩ hd) fun _ => .str z
end
/-! ## operators, by values -/
def OpD (X : Cx) (kd : Kd) (f : Value → Value → Sem Value) (g : D → D → Option D) : Prop :=
  OpR X f fun x y H Q => ∃ (O : Ad) (d e z : D), (∀ a, O a → H a ≠ none) ∧ Bw X.K O H x d ∧ Bw X.K O H y e ∧ g d e = some z ∧ ∀ v H', Same H H' → Vr X.K kd O H H' v z → Q v H'
def UnD (X : Cx) (kd : Kd) (f : Value → Sem Value) (g : D → Option D) : Prop :=
  UnR X f fun x H Q => ∃ (O : Ad) (d z : D), (∀ a, O a → H a ≠ none) ∧ Bw X.K O H x d ∧ g d = some z ∧ ∀ v H', Same H H' → Vr X.K kd O H H' v z → Q v H'
def seq2 (g : D → D → Option D) (fa fb : Ef) : Ef := fun ρ => (fa ρ).bind fun a => (fb a.2).bind fun b => (g a.1 b.1).map fun z => (z, b.2)
def pu2 (g : D → D → Option D) (fa fb : Rho → Option D) : Rho → Option D := fun ρ => (fa ρ).bind fun a => (fb ρ).bind fun b => g a b
theorem seq2_lift (g : D → D → Option D) (fa fb : Rho → Option D) : seq2 g (lift fa) (lift fb) = lift (pu2 g fa fb) := by
  funext ρ
  unfold seq2 lift pu2
  cases fa ρ with
  | none => rfl
  | some a => cases h : fb ρ <;> simp [h]
def seq1 (g : D → Option D) (fa : Ef) : Ef := fun ρ => (fa ρ).bind fun a => (g a.1).map fun z => (z, a.2)
def pu1 (g : D → Option D) (fa : Rho → Option D) : Rho → Option D := fun ρ => (fa ρ).bind g
theorem seq1_lift (g : D → Option D) (fa : Rho → Option D) : seq1 g (lift fa) = lift (pu1 g fa) := by
  funext ρ
  unfold seq1 lift pu1
  cases fa ρ with
  | none => rfl
  | some a => simp
theorem seq2_some {g : D → D → Option D} {fa fb : Ef} {ρ ρ' : Rho} {z : D} (h : seq2 g fa fb ρ = some (z, ρ')) : ∃ a ρ1 b, fa ρ = some (a, ρ1) ∧ fb ρ1 = some (b, ρ') ∧ g a b = some z := by
  unfold seq2 at h
  obtain ⟨⟨a, ρ1⟩, h1, h⟩ := Option.bind_eq_some_iff.mp h
  obtain ⟨⟨b, ρ2⟩, h2, h⟩ := Option.bind_eq_some_iff.mp h
  obtain ⟨c, h3, h⟩ := Option.map_eq_some_iff.mp h
  cases h
  exact ⟨a, ρ1, b, h1, h2, h3⟩
theorem seq1_some {g : D → Option D} {fa : Ef} {ρ ρ' : Rho} {z : D} (h : seq1 g fa ρ = some (z, ρ')) : ∃ a, fa ρ = some (a, ρ') ∧ g a = some z := by
  unfold seq1 at h
  obtain ⟨⟨a, ρ1⟩, h1, h⟩ := Option.bind_eq_some_iff.mp h
  obtain ⟨c, h3, h⟩ := Option.map_eq_some_iff.mp h
  cases h
  exact ⟨a, h1, h3⟩
/-- a kept value may wait for anything, a borrowed one for what changes nothing -/
def wait (k : Kd) (m : Bool) : Bool := match k with
  | .b => m
  | _ => true
theorem Vr.later {K : Fg} {F : Fx} {k : Kd} {m : Bool} {σ : L2.St} {H0 H H' : Hp} {ρ ρ' : Rho} {v : V} {d : D} (h : Vr K k (Ow F σ ρ) H0 H v d) (w : wait k m = true) (p : Po K F m σ H ρ H' ρ') : Bw K (Ow F σ ρ') H' v d := by
  cases k with
  | k => exact .inl (Dn.mono p.ev.kept h)
  | f => exact .inl (Dn.mono p.ev.kept (Vr.weak h))
  | b => exact Bw.mono h p.ev.kept (p.pu w).2
section
variable {X : Cx} {m m1 m2 : Bool} {kd k1 k2 : Kd} {a b : Expr} {fa fb : Ef} {pos : Pos}
/-- two parts, then an operation: the pattern of every rule -/
theorem two_parts {ta tb : TE} {g : D → D → Option D} {r : R2} (hr : ∀ x y H Q, (∃ (O : Ad) (d e z : D), (∀ a, O a → H a ≠ none) ∧ Bw X.K O H x d ∧ Bw X.K O H y e ∧ g d e = some z ∧ ∀ v H', Same H H' → Vr X.K kd O H H' v z → Q v H') → r x y H Q)
    (ha2 : ∀ (F : Fx) (σ : L2.St) (H : Hp) (ρ : Rho) (d : D) (ρ' : Rho) (Q : VK), Rl X.K F σ H ρ → fa ρ = some (d, ρ') → (∀ v H', Po X.K F m1 σ H ρ H' ρ' → Er X.K F σ ρ' k1 H H' v d → Q v H') → ta σ H Q)
    (hb2 : ∀ (F : Fx) (σ : L2.St) (H : Hp) (ρ : Rho) (d : D) (ρ' : Rho) (Q : VK), Rl X.K F σ H ρ → fb ρ = some (d, ρ') → (∀ v H', Po X.K F m2 σ H ρ H' ρ' → Er X.K F σ ρ' k2 H H' v d → Q v H') → tb σ H Q)
    (w : wait k1 m2 = true) (F : Fx) (σ : L2.St) (H : Hp) (ρ : Rho) (d : D) (ρ' : Rho) (Q : VK) (R : Rl X.K F σ H ρ) (hf : seq2 g fa fb ρ = some (d, ρ'))
    (k : ∀ v H', Po X.K F (m1 && m2) σ H ρ H' ρ' → Er X.K F σ ρ' kd H H' v d → Q v H') : tOp r ta tb σ H Q := by
  obtain ⟨x, ρ1, y, e1, e2, e3⟩ := seq2_some hf
  refine ha2 F σ H ρ x ρ1 _ R e1 fun v H1 p1 r1 => ?_
  refine hb2 F σ H1 ρ1 y ρ' _ p1.rl e2 fun u H2 p2 r2 => ?_
  refine hr _ _ _ _ ⟨Ow F σ ρ', x, y, d, p2.rl.domO, Vr.later r1.vr w p2, r2.bw, e3, fun z H3 s3 r3 => ?_⟩
  exact k z H3 ((p1.trans p2).more s3) (.of p2.rl s3 r3 fun a h => p2.ev.dom a (p1.ev.dom a h))
theorem eg_bin {op : Operator} {g : D → D → Option D} (ho : OpD X kd (binaryOp op) g) (ha : EG X m1 k1 a fa) (hb : EG X m2 k2 b fb) (w : wait k1 m2 = true := by rfl) : EG X (m1 && m2) kd (.BinOp a op b pos) (seq2 g fa fb) := by
  obtain ⟨ta, ha1, ha2⟩ := ha.ex
  obtain ⟨tb, hb1, hb2⟩ := hb.ex
  exact ⟨_, pe_op ho ha1 hb1, two_parts (fun _ _ _ _ h => h) ha2 hb2 w⟩
theorem ep_bin {op : Operator} {g : D → D → Option D} {fa fb : Rho → Option D} (ho : OpD X kd (binaryOp op) g) (ha : EP X k1 a fa) (hb : EP X k2 b fb) : EP X kd (.BinOp a op b pos) (pu2 g fa fb) :=
  (eg_bin ho ha hb (by cases k1 <;> rfl)).cong (seq2_lift g fa fb).symm
theorem eg_cmp {op : CmpOp} {g : D → D → Option D} (ho : OpD X kd (compareOp op) g) (ha : EG X m1 k1 a fa) (hb : EG X m2 k2 b fb) (w : wait k1 m2 = true := by rfl) (hm : behindInMarks op b = false := by rfl) : EG X (m1 && m2) kd (.Compare a [op] [b] pos) (seq2 g fa fb) := by
  obtain ⟨ta, ha1, ha2⟩ := ha.ex
  obtain ⟨tb, hb1, hb2⟩ := hb.ex
  exact ⟨_, pe_cmpR ho ha1 hb1 hm, two_parts (fun _ _ _ _ h => h) ha2 hb2 w⟩
theorem ep_cmp {op : CmpOp} {g : D → D → Option D} {fa fb : Rho → Option D} (ho : OpD X kd (compareOp op) g) (ha : EP X k1 a fa) (hb : EP X k2 b fb) (hm : behindInMarks op b = false := by rfl) : EP X kd (.Compare a [op] [b] pos) (pu2 g fa fb) :=
  (eg_cmp ho ha hb (by cases k1 <;> rfl) hm).cong (seq2_lift g fa fb).symm
theorem eg_un {op : UnaryOp} {g : D → Option D} (ho : UnD X kd (unaryOp op) g) (ha : EG X m k1 a fa) : EG X m kd (.UnaryOp op a pos) (seq1 g fa) := by
  obtain ⟨ta, ha1, ha2⟩ := ha.ex
  refine ⟨_, pe_un ho ha1, fun F σ H ρ d ρ' Q R hf k => ?_⟩
  obtain ⟨x, e1, e2⟩ := seq1_some hf
  refine ha2 F σ H ρ x ρ' _ R e1 fun v H1 p1 r1 => ?_
  exact ⟨Ow F σ ρ', x, d, p1.rl.domO, r1.bw, e2, fun z H3 s3 r3 => k z H3 (p1.more s3) (.of p1.rl s3 r3 p1.ev.dom)⟩
theorem ep_un {op : UnaryOp} {g : D → Option D} {fa : Rho → Option D} (ho : UnD X kd (unaryOp op) g) (ha : EP X k1 a fa) : EP X kd (.UnaryOp op a pos) (pu1 g fa) := (eg_un ho ha).cong (seq1_lift g fa).symm
/-- a[b], where a, b are values -/
def IxD (X : Cx) (kd : Kd) (g : D → D → Option D) : Prop :=
  IxR X fun x y H Q => ∃ (O : Ad) (d e z : D), (∀ a, O a → H a ≠ none) ∧ Bw X.K O H x d ∧ Bw X.K O H y e ∧ g d e = some z ∧ ∀ v H', Same H H' → Vr X.K kd O H H' v z → Q v H'
theorem eg_ix {g : D → D → Option D} (ho : IxD X kd g) (ha : EG X m1 k1 a fa) (hb : EG X m2 k2 b fb) (w : wait k1 m2 = true := by rfl) (hs : PlainIx b := by intro _ _; rfl) : EG X (m1 && m2) kd (.Subscript a b pos) (seq2 g fa fb) := by
  obtain ⟨ta, ha1, ha2⟩ := ha.ex
  obtain ⟨tb, hb1, hb2⟩ := hb.ex
  exact ⟨_, pe_ix ho ha1 hb1 hs, two_parts (fun _ _ _ _ h => h) ha2 hb2 w⟩
theorem ep_ix {g : D → D → Option D} {fa fb : Rho → Option D} (ho : IxD X kd g) (ha : EP X k1 a fa) (hb : EP X k2 b fb) (hs : PlainIx b := by intro _ _; rfl) : EP X kd (.Subscript a b pos) (pu2 g fa fb) :=
  (eg_ix ho ha hb (by cases k1 <;> rfl) hs).cong (seq2_lift g fa fb).symm
end
/-! ## tests -/
abbrev Tf := Rho → Option (Bool × Rho)
structure TG (X : Cx) (m : Bool) (e : Expr) (f : Tf) : Prop where
  ex : ∃ t : TT, PT X e t ∧ ∀ (F : Fx) (σ : L2.St) (H : Hp) (ρ : Rho) (b : Bool) (ρ' : Rho) (Q : Bool → Hp → Prop), Rl X.K F σ H ρ → f ρ = some (b, ρ') →
    (∀ H', Po X.K F m σ H ρ H' ρ' → Q b H') → t σ H Q
structure TW (X : Cx) (m : Bool) (e : Expr) (f : Tf) : Prop where
  ex : ∃ t : TT, PW X e t ∧ ∀ (F : Fx) (σ : L2.St) (H : Hp) (ρ : Rho) (b : Bool) (ρ' : Rho) (Q : Bool → Hp → Prop), Rl X.K F σ H ρ → f ρ = some (b, ρ') →
    (∀ H', Po X.K F m σ H ρ H' ρ' → Q b H') → t σ H Q
def blOf : D → Option Bool
  | .bool b => some b
  | _ => none
theorem blOf_some {d : D} {b : Bool} (h : blOf d = some b) : d = .bool b := by
  cases d <;> simp [blOf] at h
  rw [h]
def tst (f : Ef) : Tf := fun ρ => (f ρ).bind fun a => (blOf a.1).map fun b => (b, a.2)
theorem tst_some {f : Ef} {ρ ρ' : Rho} {b : Bool} (h : tst f ρ = some (b, ρ')) : f ρ = some (.bool b, ρ') := by
  unfold tst at h
  obtain ⟨⟨x, ρ1⟩, h1, h⟩ := Option.bind_eq_some_iff.mp h
  obtain ⟨c, h3, h⟩ := Option.map_eq_some_iff.mp h
  cases h
  rw [h1, show x = .bool b from blOf_some h3]
def liftT (g : Rho → Option Bool) : Tf := fun ρ => (g ρ).map fun b => (b, ρ)
theorem liftT_some {g : Rho → Option Bool} {ρ ρ' : Rho} {d : Bool} : liftT g ρ = some (d, ρ') ↔ g ρ = some d ∧ ρ' = ρ := by
  unfold liftT
  cases g ρ with
  | none => simp
  | some e => simp [eq_comm]
def tstP (g : Rho → Option D) : Rho → Option Bool := fun ρ => (g ρ).bind blOf
theorem tst_lift (g : Rho → Option D) : tst (lift g) = liftT (tstP g) := by
  funext ρ
  unfold tst lift liftT tstP
  cases g ρ <;> simp
abbrev TP (X : Cx) (e : Expr) (g : Rho → Option Bool) : Prop := TG X true e (liftT g)
abbrev TPW (X : Cx) (e : Expr) (g : Rho → Option Bool) : Prop := TW X true e (liftT g)
section
variable {X : Cx} {m m1 m2 : Bool} {kd k1 k2 : Kd} {a b e : Expr} {fa fb : Ef} {pos : Pos} {rest : List Expr}
theorem TG.cong {f f' : Tf} (h : TG X m e f) (q : f' = f) : TG X m e f' := by rw [q]; exact h
theorem TW.cong {f f' : Tf} (h : TW X m e f) (q : f' = f) : TW X m e f' := by rw [q]; exact h
theorem TW.tg {f : Tf} (h : TW X m e f) : TG X m e f := by
  obtain ⟨t, h1, h2⟩ := h.ex
  exact ⟨t, h1.pt, h2⟩
/-- any expression of a bool that is no comparison, no and, or, not -/
theorem tg_val {f : Ef} (h : EG X m kd e f) (he : ∀ whole, isTrue e X.env whole = (do let v ← whole; standAt e.pos; holding [v] (truthy v)) := by intro _; rfl) : TG X m e (tst f) := by
  obtain ⟨t, h1, h2⟩ := h.ex
  refine ⟨_, pt_val h1 he, fun F σ H ρ b ρ' Q R hf k => ?_⟩
  refine h2 F σ H ρ _ ρ' _ R (tst_some hf) fun v H' p r => ?_
  have e := r.bw.bool
  subst e
  exact ⟨b, rfl, k H' p⟩
theorem tp_val {g : Rho → Option D} (h : EP X kd e g) (he : ∀ whole, isTrue e X.env whole = (do let v ← whole; standAt e.pos; holding [v] (truthy v)) := by intro _; rfl) : TP X e (tstP g) := (tg_val h he).cong (tst_lift g).symm
theorem tg_cmp {op : CmpOp} {g : D → D → Option D} (ho : OpD X kd (compareOp op) g) (ha : EG X m1 k1 a fa) (hb : EG X m2 k2 b fb) (w : wait k1 m2 = true := by rfl) (hm : behindInMarks op b = false := by rfl) : TG X (m1 && m2) (.Compare a [op] [b] pos) (tst (seq2 g fa fb)) := by
  obtain ⟨ta, ha1, ha2⟩ := ha.ex
  obtain ⟨tb, hb1, hb2⟩ := hb.ex
  refine ⟨_, pt_cmpR ho ha1 hb1 hm, fun F σ H ρ b' ρ' Q R hf k => ?_⟩
  refine two_parts (fun _ _ _ _ h => h) ha2 hb2 w F σ H ρ _ ρ' _ R (tst_some hf) fun v H' p r => ?_
  have e := r.bw.bool
  subst e
  exact ⟨b', rfl, k H' p⟩
theorem tp_cmp {op : CmpOp} {g : D → D → Option D} {fa fb : Rho → Option D} (ho : OpD X kd (compareOp op) g) (ha : EP X k1 a fa) (hb : EP X k2 b fb) (hm : behindInMarks op b = false := by rfl) : TP X (.Compare a [op] [b] pos) (tstP (pu2 g fa fb)) :=
  (tg_cmp ho ha hb (by cases k1 <;> rfl) hm).cong (by rw [seq2_lift, tst_lift])
def notT (f : Tf) : Tf := fun ρ => (f ρ).map fun a => (!a.1, a.2)
def andT (f g : Tf) : Tf := fun ρ => (f ρ).bind fun a => if a.1 = true then g a.2 else some (false, a.2)
def orT (f g : Tf) : Tf := fun ρ => (f ρ).bind fun a => if a.1 = true then some (true, a.2) else g a.2
def notP (f : Rho → Option Bool) : Rho → Option Bool := fun ρ => (f ρ).map fun a => !a
def andP (f g : Rho → Option Bool) : Rho → Option Bool := fun ρ => (f ρ).bind fun a => if a = true then g ρ else some false
def orP (f g : Rho → Option Bool) : Rho → Option Bool := fun ρ => (f ρ).bind fun a => if a = true then some true else g ρ
theorem notT_lift (f : Rho → Option Bool) : notT (liftT f) = liftT (notP f) := by
  funext ρ; unfold notT liftT notP; cases f ρ <;> simp
theorem andT_lift (f g : Rho → Option Bool) : andT (liftT f) (liftT g) = liftT (andP f g) := by
  funext ρ; unfold andT liftT andP; cases h : f ρ with
  | none => simp
  | some b => cases b <;> simp
theorem orT_lift (f g : Rho → Option Bool) : orT (liftT f) (liftT g) = liftT (orP f g) := by
  funext ρ; unfold orT liftT orP; cases h : f ρ with
  | none => simp
  | some b => cases b <;> simp
theorem tg_not {f : Tf} (h : TG X m a f) : TG X m (.UnaryOp .Not a pos) (notT f) := by
  obtain ⟨t, h1, h2⟩ := h.ex
  refine ⟨_, pt_not h1, fun F σ H ρ b ρ' Q R hf k => ?_⟩
  obtain ⟨⟨c, ρ1⟩, e1, e2⟩ := Option.map_eq_some_iff.mp hf
  cases e2
  exact h2 F σ H ρ c ρ1 _ R e1 fun H' p => k H' p
theorem tp_not {f : Rho → Option Bool} (h : TP X a f) : TP X (.UnaryOp .Not a pos) (notP f) := (tg_not h).cong (notT_lift f).symm
theorem tw_and1 {f : Tf} (h : TG X m a f) : TW X m (.BoolOp .And [a] pos) f := by
  obtain ⟨t, h1, h2⟩ := h.ex
  exact ⟨t, pw_and1 h1, h2⟩
theorem tw_or1 {f : Tf} (h : TG X m a f) : TW X m (.BoolOp .Or [a] pos) f := by
  obtain ⟨t, h1, h2⟩ := h.ex
  exact ⟨t, pw_or1 h1, h2⟩
theorem tw_and {f g : Tf} (ha : TG X m1 a f) (hb : TW X m2 (.BoolOp .And (b :: rest) pos) g) : TW X (m1 && m2) (.BoolOp .And (a :: b :: rest) pos) (andT f g) := by
  obtain ⟨ta, ha1, ha2⟩ := ha.ex
  obtain ⟨tb, hb1, hb2⟩ := hb.ex
  refine ⟨_, pw_and ha1 hb1, fun F σ H ρ c ρ' Q R hf k => ?_⟩
  obtain ⟨⟨x, ρ1⟩, e1, e2⟩ := Option.bind_eq_some_iff.mp hf
  refine ha2 F σ H ρ x ρ1 _ R e1 fun H1 p1 => ?_
  cases x with
  | true =>
    rw [if_pos rfl] at e2 ⊢
    exact hb2 F σ H1 ρ1 c ρ' _ p1.rl e2 fun H2 p2 => k H2 (p1.trans p2)
  | false =>
    rw [if_neg Bool.false_ne_true] at e2 ⊢
    cases e2
    exact k H1 (p1.weak fun z => (Bool.and_eq_true_iff.mp z).1)
theorem tw_or {f g : Tf} (ha : TG X m1 a f) (hb : TW X m2 (.BoolOp .Or (b :: rest) pos) g) : TW X (m1 && m2) (.BoolOp .Or (a :: b :: rest) pos) (orT f g) := by
  obtain ⟨ta, ha1, ha2⟩ := ha.ex
  obtain ⟨tb, hb1, hb2⟩ := hb.ex
  refine ⟨_, pw_or ha1 hb1, fun F σ H ρ c ρ' Q R hf k => ?_⟩
  obtain ⟨⟨x, ρ1⟩, e1, e2⟩ := Option.bind_eq_some_iff.mp hf
  refine ha2 F σ H ρ x ρ1 _ R e1 fun H1 p1 => ?_
  cases x with
  | false =>
    rw [if_neg Bool.false_ne_true] at e2 ⊢
    exact hb2 F σ H1 ρ1 c ρ' _ p1.rl e2 fun H2 p2 => k H2 (p1.trans p2)
  | true =>
    rw [if_pos rfl] at e2 ⊢
    cases e2
    exact k H1 (p1.weak fun z => (Bool.and_eq_true_iff.mp z).1)
theorem tpw_and {f g : Rho → Option Bool} (ha : TP X a f) (hb : TPW X (.BoolOp .And (b :: rest) pos) g) : TPW X (.BoolOp .And (a :: b :: rest) pos) (andP f g) := (tw_and ha hb).cong (andT_lift f g).symm
theorem tpw_or {f g : Rho → Option Bool} (ha : TP X a f) (hb : TPW X (.BoolOp .Or (b :: rest) pos) g) : TPW X (.BoolOp .Or (a :: b :: rest) pos) (orP f g) := (tw_or ha hb).cong (orT_lift f g).symm
end
end DL
namespace DL
open L2 PyProof.Rows PySem PySem.Spec
/-! ## and, or, not as values; a if t else b -/
section
variable {X : Cx} {m m1 m2 m3 : Bool} {kd k1 k2 : Kd} {a b c e : Expr} {fa fb : Ef} {pos : Pos} {rest : List Expr}
def andV (f g : Ef) : Ef := fun ρ => (f ρ).bind fun a => (blOf a.1).bind fun c => if c = true then g a.2 else some (.bool false, a.2)
def orV (f g : Ef) : Ef := fun ρ => (f ρ).bind fun a => (blOf a.1).bind fun c => if c = true then some (.bool true, a.2) else g a.2
def andVP (f g : Rho → Option D) : Rho → Option D := fun ρ => (f ρ).bind fun a => (blOf a).bind fun c => if c = true then g ρ else some (.bool false)
def orVP (f g : Rho → Option D) : Rho → Option D := fun ρ => (f ρ).bind fun a => (blOf a).bind fun c => if c = true then some (.bool true) else g ρ
theorem andV_lift (f g : Rho → Option D) : andV (lift f) (lift g) = lift (andVP f g) := by
  funext ρ; unfold andV lift andVP; cases h : f ρ with
  | none => simp
  | some b => cases h2 : blOf b with
    | none => simp [h2]
    | some c => cases c <;> simp [h2]
theorem orV_lift (f g : Rho → Option D) : orV (lift f) (lift g) = lift (orVP f g) := by
  funext ρ; unfold orV lift orVP; cases h : f ρ with
  | none => simp
  | some b => cases h2 : blOf b with
    | none => simp [h2]
    | some c => cases c <;> simp [h2]
theorem eg_one {op : BoolOp} (h : EG X m kd a fa) : EG X m kd (.BoolOp op [a] pos) fa := by
  obtain ⟨t, h1, h2⟩ := h.ex
  exact ⟨t, pe_one h1, h2⟩
theorem eg_and (ha : EG X m1 k1 a fa) (hb : EG X m2 .k (.BoolOp .And (b :: rest) pos) fb) : EG X (m1 && m2) .k (.BoolOp .And (a :: b :: rest) pos) (andV fa fb) := by
  obtain ⟨ta, ha1, ha2⟩ := ha.ex
  obtain ⟨tb, hb1, hb2⟩ := hb.ex
  refine ⟨_, pe_and ha1 hb1, fun F σ H ρ d ρ' Q R hf k => ?_⟩
  obtain ⟨⟨x, ρ1⟩, e1, e2⟩ := Option.bind_eq_some_iff.mp hf
  obtain ⟨c, e3, e2⟩ := Option.bind_eq_some_iff.mp e2
  have ex : x = .bool c := blOf_some e3
  subst ex
  refine ha2 F σ H ρ _ ρ1 _ R e1 fun v H1 p1 r1 => ?_
  have ev := r1.bw.bool
  subst ev
  refine ⟨c, rfl, ?_⟩
  cases c with
  | true =>
    rw [if_pos rfl] at e2 ⊢
    exact hb2 F σ H1 ρ1 d ρ' _ p1.rl e2 fun u H2 p2 r2 => k u H2 (p1.trans p2) (r2.since p1.ev.dom)
  | false =>
    rw [if_neg Bool.false_ne_true] at e2 ⊢
    cases e2
    exact k _ H1 (p1.weak fun z => (Bool.and_eq_true_iff.mp z).1) (.k (.bl false))
theorem eg_or (ha : EG X m1 k1 a fa) (hb : EG X m2 .k (.BoolOp .Or (b :: rest) pos) fb) : EG X (m1 && m2) .k (.BoolOp .Or (a :: b :: rest) pos) (orV fa fb) := by
  obtain ⟨ta, ha1, ha2⟩ := ha.ex
  obtain ⟨tb, hb1, hb2⟩ := hb.ex
  refine ⟨_, pe_or ha1 hb1, fun F σ H ρ d ρ' Q R hf k => ?_⟩
  obtain ⟨⟨x, ρ1⟩, e1, e2⟩ := Option.bind_eq_some_iff.mp hf
  obtain ⟨c, e3, e2⟩ := Option.bind_eq_some_iff.mp e2
  have ex : x = .bool c := blOf_some e3
  subst ex
  refine ha2 F σ H ρ _ ρ1 _ R e1 fun v H1 p1 r1 => ?_
  have ev := r1.bw.bool
  subst ev
  refine ⟨c, rfl, ?_⟩
  cases c with
  | false =>
    rw [if_neg Bool.false_ne_true] at e2 ⊢
    exact hb2 F σ H1 ρ1 d ρ' _ p1.rl e2 fun u H2 p2 r2 => k u H2 (p1.trans p2) (r2.since p1.ev.dom)
  | true =>
    rw [if_pos rfl] at e2 ⊢
    cases e2
    exact k _ H1 (p1.weak fun z => (Bool.and_eq_true_iff.mp z).1) (.k (.bl true))
theorem ep_and {f g : Rho → Option D} (ha : EP X k1 a f) (hb : EP X .k (.BoolOp .And (b :: rest) pos) g) : EP X .k (.BoolOp .And (a :: b :: rest) pos) (andVP f g) := (eg_and ha hb).cong (andV_lift f g).symm
theorem ep_or {f g : Rho → Option D} (ha : EP X k1 a f) (hb : EP X .k (.BoolOp .Or (b :: rest) pos) g) : EP X .k (.BoolOp .Or (a :: b :: rest) pos) (orVP f g) := (eg_or ha hb).cong (orV_lift f g).symm
def notD (d : D) : Option D := (blOf d).map fun b => .bool (!b)
theorem eg_notV (h : EG X m k1 a fa) : EG X m .k (.UnaryOp .Not a pos) (seq1 notD fa) := by
  obtain ⟨t, h1, h2⟩ := h.ex
  refine ⟨_, pe_not h1, fun F σ H ρ d ρ' Q R hf k => ?_⟩
  obtain ⟨x, e1, e2⟩ := seq1_some hf
  obtain ⟨c, e3, e4⟩ := Option.map_eq_some_iff.mp e2
  subst e4
  have ex := blOf_some e3
  subst ex
  refine h2 F σ H ρ _ ρ' _ R e1 fun v H1 p1 r1 => ?_
  have ev := r1.bw.bool
  subst ev
  exact ⟨c, rfl, k _ H1 p1 (.k (.bl _))⟩
theorem ep_notV {f : Rho → Option D} (h : EP X k1 a f) : EP X .k (.UnaryOp .Not a pos) (pu1 notD f) := (eg_notV h).cong (seq1_lift _ _).symm
def ifV (t : Tf) (f g : Ef) : Ef := fun ρ => (t ρ).bind fun c => if c.1 = true then f c.2 else g c.2
def ifP (t : Rho → Option Bool) (f g : Rho → Option D) : Rho → Option D := fun ρ => (t ρ).bind fun c => if c = true then f ρ else g ρ
theorem ifV_lift (t : Rho → Option Bool) (f g : Rho → Option D) : ifV (liftT t) (lift f) (lift g) = lift (ifP t f g) := by
  funext ρ; unfold ifV liftT lift ifP; cases h : t ρ with
  | none => simp
  | some b => cases b <;> simp
theorem eg_if {t : Tf} (hc : TG X m1 c t) (ha : EG X m2 kd a fa) (hb : EG X m3 kd b fb) : EG X (m1 && (m2 && m3)) kd (.IfExp c a b pos) (ifV t fa fb) := by
  obtain ⟨tc, hc1, hc2⟩ := hc.ex
  obtain ⟨ta, ha1, ha2⟩ := ha.ex
  obtain ⟨tb, hb1, hb2⟩ := hb.ex
  refine ⟨_, pe_ifExp hc1 ha1 hb1, fun F σ H ρ d ρ' Q R hf k => ?_⟩
  obtain ⟨⟨x, ρ1⟩, e1, e2⟩ := Option.bind_eq_some_iff.mp hf
  refine hc2 F σ H ρ x ρ1 _ R e1 fun H1 p1 => ?_
  cases x with
  | true =>
    rw [if_pos rfl] at e2 ⊢
    exact ha2 F σ H1 ρ1 d ρ' _ p1.rl e2 fun u H2 p2 r2 => k u H2 ((p1.trans p2).weak (by cases m1 <;> cases m2 <;> simp)) (r2.since p1.ev.dom)
  | false =>
    rw [if_neg Bool.false_ne_true] at e2 ⊢
    exact hb2 F σ H1 ρ1 d ρ' _ p1.rl e2 fun u H2 p2 r2 => k u H2 ((p1.trans p2).weak (by cases m1 <;> cases m2 <;> cases m3 <;> simp)) (r2.since p1.ev.dom)
theorem ep_if {t : Rho → Option Bool} {f g : Rho → Option D} (hc : TP X c t) (ha : EP X kd a f) (hb : EP X kd b g) : EP X kd (.IfExp c a b pos) (ifP t f g) := (eg_if hc ha hb).cong (ifV_lift t f g).symm
end
/-! ## argument lists -/
abbrev Af := Rho → Option (List D × Rho)
inductive BwL (K : Fg) (O : Ad) (H : Hp) : List V → List D → Prop
  | nil : BwL K O H [] []
  | cons {v : V} {vs : List V} {d : D} {ds : List D} : Bw K O H v d → BwL K O H vs ds → BwL K O H (v :: vs) (d :: ds)
/-- kept arguments -/
structure AG (X : Cx) (m : Bool) (es : List Expr) (f : Af) : Prop where
  ex : ∃ t : TA, PA X es t ∧ ∀ (F : Fx) (σ : L2.St) (H : Hp) (ρ : Rho) (ds : List D) (ρ' : Rho) (Q : List V → Hp → Prop), Rl X.K F σ H ρ → f ρ = some (ds, ρ') →
    (∀ vs H', Po X.K F m σ H ρ H' ρ' → DnL X.K (hide H' (Ow F σ ρ')) vs ds → Q vs H') → t σ H Q
  len : ∀ ρ ds ρ', f ρ = some (ds, ρ') → ds.length = es.length
/-- borrowed ones: nothing changes -/
structure AB (X : Cx) (es : List Expr) (g : Rho → Option (List D)) : Prop where
  ex : ∃ t : TA, PA X es t ∧ ∀ (F : Fx) (σ : L2.St) (H : Hp) (ρ : Rho) (ds : List D) (Q : List V → Hp → Prop), Rl X.K F σ H ρ → g ρ = some ds →
    (∀ vs H', Rl X.K F σ H' ρ → Same H H' → BwL X.K (Ow F σ ρ) H' vs ds → Q vs H') → t σ H Q
def liftA (g : Rho → Option (List D)) : Af := fun ρ => (g ρ).map fun d => (d, ρ)
theorem liftA_some {g : Rho → Option (List D)} {ρ ρ' : Rho} {d : List D} : liftA g ρ = some (d, ρ') ↔ g ρ = some d ∧ ρ' = ρ := by
  unfold liftA
  cases g ρ with
  | none => simp
  | some e => simp [eq_comm]
abbrev AP (X : Cx) (es : List Expr) (g : Rho → Option (List D)) : Prop := AG X true es (liftA g)
def aN : Rho → Option (List D) := fun _ => some []
def aC (f : Rho → Option D) (g : Rho → Option (List D)) : Rho → Option (List D) := fun ρ => (f ρ).bind fun a => (g ρ).map fun r => a :: r
def aS (f : Ef) (g : Af) : Af := fun ρ => (f ρ).bind fun a => (g a.2).map fun r => (a.1 :: r.1, r.2)
theorem aS_lift (f : Rho → Option D) (g : Rho → Option (List D)) : aS (lift f) (liftA g) = liftA (aC f g) := by
  funext ρ; unfold aS lift liftA aC; cases h : f ρ with
  | none => simp
  | some b => cases h2 : g ρ <;> simp [h2]
section
variable {X : Cx} {m m1 m2 : Bool} {kd k1 k2 : Kd} {a e : Expr} {es : List Expr} {pos : Pos}
theorem AG.cong {f f' : Af} (h : AG X m es f) (q : f' = f) : AG X m es f' := by rw [q]; exact h
theorem ap_nil : AP X [] aN := by
  refine ⟨⟨_, pa_nil, fun F σ H ρ ds ρ' Q R hf k => ?_⟩, fun ρ ds ρ' hf => by
    obtain ⟨hf, rfl⟩ := liftA_some.mp hf
    cases hf
    rfl⟩
  obtain ⟨hf, rfl⟩ := liftA_some.mp hf
  cases hf
  exact k [] H (.refl R) .nil
theorem ag_cons {f : Ef} {g : Af} (ha : EG X m1 .k e f) (hr : AG X m2 es g) (hs : starEach (e :: es) X.env = (false, eval e X.env) :: starEach es X.env := by rfl) : AG X (m1 && m2) (e :: es) (aS f g) := by
  obtain ⟨ta, ha1, ha2⟩ := ha.ex
  obtain ⟨tb, hb1, hb2⟩ := hr.ex
  refine ⟨⟨_, pa_cons ha1 hb1 hs, fun F σ H ρ ds ρ' Q R hf k => ?_⟩, fun ρ ds ρ' hf => by
    obtain ⟨⟨x, ρ1⟩, e1, e2⟩ := Option.bind_eq_some_iff.mp hf
    obtain ⟨⟨r, ρ2⟩, e3, e2⟩ := Option.map_eq_some_iff.mp e2
    cases e2
    rw [List.length_cons, List.length_cons, hr.len _ _ _ e3]⟩
  obtain ⟨⟨x, ρ1⟩, e1, e2⟩ := Option.bind_eq_some_iff.mp hf
  obtain ⟨⟨r, ρ2⟩, e3, e2⟩ := Option.map_eq_some_iff.mp e2
  cases e2
  refine ha2 F σ H ρ x ρ1 _ R e1 fun v H1 p1 r1 => ?_
  refine hb2 F σ H1 ρ1 r _ _ p1.rl e3 fun vs H2 p2 r2 => ?_
  exact k _ H2 (p1.trans p2) (.cons (Dn.mono p2.ev.kept r1.vr) r2)
theorem ap_cons {f : Rho → Option D} {g : Rho → Option (List D)} (ha : EP X .k e f) (hr : AP X es g) (hs : starEach (e :: es) X.env = (false, eval e X.env) :: starEach es X.env := by rfl) : AP X (e :: es) (aC f g) := (ag_cons ha hr hs).cong (aS_lift f g).symm
theorem BwL.mono {K : Fg} {O O' : Ad} {H H' : Hp} (e : Same (hide H O) (hide H' O')) (k : Same H H') : ∀ {vs : List V} {ds : List D}, BwL K O H vs ds → BwL K O' H' vs ds
  | _, _, .nil => .nil
  | _, _, .cons h t => .cons (h.mono e k) (BwL.mono e k t)
theorem ab_nil : AB X [] aN := ⟨_, pa_nil, fun F σ H ρ ds Q R hf k => by cases hf; exact k [] H R (.refl _) .nil⟩
theorem ab_cons {f : Rho → Option D} {g : Rho → Option (List D)} (ha : EP X kd e f) (hr : AB X es g) (hs : starEach (e :: es) X.env = (false, eval e X.env) :: starEach es X.env := by rfl) : AB X (e :: es) (aC f g) := by
  obtain ⟨ta, ha1, ha2⟩ := ha.ex
  obtain ⟨tb, hb1, hb2⟩ := hr.ex
  refine ⟨_, pa_cons ha1 hb1 hs, fun F σ H ρ ds Q R hf k => ?_⟩
  obtain ⟨x, e1, e2⟩ := Option.bind_eq_some_iff.mp hf
  obtain ⟨r, e3, e2⟩ := Option.map_eq_some_iff.mp e2
  cases e2
  refine ha2 F σ H ρ x ρ _ R (lift_some.mpr ⟨e1, rfl⟩) fun v H1 p1 r1 => ?_
  refine hb2 F σ H1 ρ r _ p1.rl e3 fun vs H2 R2 s2 r2 => ?_
  exact k _ H2 R2 ((p1.pu rfl).2.trans s2) (.cons (r1.bw.mono (hide_same s2) s2) r2)
/-! ## displays -/
theorem sameNew {H : Hp} {p : Addr} {o : HO} (h : H p = none) : Same H (upd H p o) := fun b x e => by rw [upd_ne (ne_of_none e h)]; exact e
theorem notOwned {K : Fg} {F : Fx} {σ : L2.St} {H : Hp} {ρ : Rho} {p : Addr} (R : Rl K F σ H ρ) (h : H p = none) : ¬ Ow F σ ρ p := fun z => R.domO p z h
theorem fresh_list {K : Fg} {O : Ad} {H0 H : Hp} {p : Addr} {xs : List V} {ds : List D} (h : H p = none) (dom : ∀ a, H0 a ≠ none → H a ≠ none) (hO : ¬ O p) (t : DnL K (hide H O) xs ds) : Vr K .f O H0 (upd H p (.lst xs)) (.ref p) (.list ds) := by
  refine ⟨p, rfl, ?_, hO, xs, upd_same, t.mono fun b o e => ?_⟩
  · cases q : H0 p with
    | none => rfl
    | some o => exact absurd h (dom p (by rw [q]; simp))
  · obtain ⟨e1, e2⟩ := hide_some.mp e
    have hb : b ≠ p := ne_of_none e2 h
    exact hide_some.mpr ⟨fun z => z.elim e1 hb, by rw [upd_ne hb]; exact e2⟩
theorem new_tuple {K : Fg} {O : Ad} {H : Hp} {p : Addr} {xs : List V} {ds : List D} (h : H p = none) (hO : ¬ O p) (t : DnL K (hide H O) xs ds) : Dn K (hide (upd H p (.tup xs)) O) (.ref p) (.tuple ds) :=
  .tup (hide_some.mpr ⟨hO, upd_same⟩) (t.mono (hide_same (sameNew h)))
def lim : Nat := 16777216
theorem lim_line {n : Nat} (h : n ≤ lim) : n ≤ sizeLine := by rw [sizeLine_eq]; exact h
/-- a list, a tuple of some items: at most 64 are written -/
def mkL (f : Af) : Ef := fun ρ => (f ρ).map fun r => (.list r.1, r.2)
def mkT (f : Af) : Ef := fun ρ => (f ρ).map fun r => (.tuple r.1, r.2)
def mkLP (g : Rho → Option (List D)) : Rho → Option D := fun ρ => (g ρ).map .list
def mkTP (g : Rho → Option (List D)) : Rho → Option D := fun ρ => (g ρ).map .tuple
theorem mkL_lift (g : Rho → Option (List D)) : mkL (liftA g) = lift (mkLP g) := by funext ρ; unfold mkL liftA lift mkLP; cases g ρ <;> rfl
theorem mkT_lift (g : Rho → Option (List D)) : mkT (liftA g) = lift (mkTP g) := by funext ρ; unfold mkT liftA lift mkTP; cases g ρ <;> rfl
theorem eg_lst {f : Af} (h : AG X m es f) (hl : Nat.ble es.length 1000 = true := by rfl) : EG X m .f (.List es pos) (mkL f) := by
  obtain ⟨t, h1, h2⟩ := h.ex
  refine ⟨_, pe_lst h1, fun F σ H ρ d ρ' Q R hf k => ?_⟩
  obtain ⟨⟨ds, ρ1⟩, e1, e2⟩ := Option.map_eq_some_iff.mp hf
  cases e2
  refine h2 F σ H ρ ds _ _ R e1 fun vs H1 p1 r1 => ⟨lim_line ?_, fun p hp => ?_⟩
  · rw [r1.length, h.len _ _ _ e1]
    exact Nat.le_trans (Nat.le_of_ble_eq_true hl) (by decide)
  · exact k _ _ (p1.more (sameNew hp)) (.of p1.rl (sameNew hp) (fresh_list hp (fun _ h => h) (notOwned p1.rl hp) r1) p1.ev.dom)
theorem eg_tup {f : Af} {j} (h : AG X m es f) (hl : Nat.ble es.length 1000 = true := by rfl) : EG X m .k (.Tuple es j pos) (mkT f) := by
  obtain ⟨t, h1, h2⟩ := h.ex
  refine ⟨_, pe_tup h1, fun F σ H ρ d ρ' Q R hf k => ?_⟩
  obtain ⟨⟨ds, ρ1⟩, e1, e2⟩ := Option.map_eq_some_iff.mp hf
  cases e2
  refine h2 F σ H ρ ds _ _ R e1 fun vs H1 p1 r1 => ⟨lim_line ?_, fun p hp => ?_⟩
  · rw [r1.length, h.len _ _ _ e1]
    exact Nat.le_trans (Nat.le_of_ble_eq_true hl) (by decide)
  · exact k _ _ (p1.more (sameNew hp)) (.k (new_tuple hp (notOwned p1.rl hp) r1))
theorem ep_lst {g : Rho → Option (List D)} (h : AP X es g) (hl : Nat.ble es.length 1000 = true := by rfl) : EP X .f (.List es pos) (mkLP g) := (eg_lst h hl).cong (mkL_lift g).symm
theorem ep_tup {g : Rho → Option (List D)} {j} (h : AP X es g) (hl : Nat.ble es.length 1000 = true := by rfl) : EP X .k (.Tuple es j pos) (mkTP g) := (eg_tup h hl).cong (mkT_lift g).symm
/-! ## calls of built-ins and types, methods of values -/
def CallD (X : Cx) (kd : Kd) (f : Value) (g : List D → Option D) : Prop :=
  CallR X f fun xs H Q => ∃ (O : Ad) (ds : List D) (z : D), (∀ a, O a → H a ≠ none) ∧ BwL X.K O H xs ds ∧ g ds = some z ∧ ∀ v H', Same H H' → Vr X.K kd O H H' v z → Q v H'
theorem DnL.bw {K : Fg} {O : Ad} {H : Hp} : ∀ {vs : List V} {ds : List D}, DnL K (hide H O) vs ds → BwL K O H vs ds
  | _, _, .nil => .nil
  | _, _, .cons h t => .cons (.inl h) (DnL.bw t)
def seqA (g : List D → Option D) (f : Af) : Ef := fun ρ => (f ρ).bind fun a => (g a.1).map fun z => (z, a.2)
def puA (g : List D → Option D) (f : Rho → Option (List D)) : Rho → Option D := fun ρ => (f ρ).bind g
theorem seqA_lift (g : List D → Option D) (f : Rho → Option (List D)) : seqA g (liftA f) = lift (puA g f) := by
  funext ρ; unfold seqA liftA lift puA; cases f ρ <;> simp
theorem seqA_some {g : List D → Option D} {f : Af} {ρ ρ' : Rho} {z : D} (h : seqA g f ρ = some (z, ρ')) : ∃ ds, f ρ = some (ds, ρ') ∧ g ds = some z := by
  obtain ⟨⟨a, ρ1⟩, h1, h⟩ := Option.bind_eq_some_iff.mp h
  obtain ⟨c, h3, h⟩ := Option.map_eq_some_iff.mp h
  cases h
  exact ⟨a, h1, h3⟩
section
variable {x : Str} {p : Pos}
theorem eg_callB {id : String} {g : List D → Option D} {f : Af} (hc : CallD X kd (.builtin id) g) (hg : Gl X x) (hm : X.mg x = none) (ha : AG X m (e :: es) f) (hv : bootBuiltins x = some (.builtin id) := by decide +kernel) (hn : x ≠ "__name__" := by decide) (hdb : (x == ("__debug__" : Str)) = false := by decide)
    (he : starEach (e :: es) X.env = (false, eval e X.env) :: starEach es X.env := by rfl) (hpl : (backTo pos (starEach es X.env)).any (·.1) = false := by rfl) : EG X m kd (.Call (.Name x p) (e :: es) [] pos) (seqA g f) := by
  obtain ⟨t, h1, h2⟩ := ha.ex
  refine ⟨_, pe_callB hc hg hm hv h1 hn hdb he hpl, fun F σ H ρ d ρ' Q R hf k => ?_⟩
  obtain ⟨ds, e1, e2⟩ := seqA_some hf
  refine h2 F σ H ρ ds ρ' _ R e1 fun vs H1 p1 r1 => ?_
  exact ⟨Ow F σ ρ', ds, d, p1.rl.domO, r1.bw, e2, fun z H3 s3 r3 => k z H3 (p1.more s3) (.of p1.rl s3 r3 p1.ev.dom)⟩
theorem ep_callB {id : String} {g : List D → Option D} {f : Rho → Option (List D)} (hc : CallD X kd (.builtin id) g) (hg : Gl X x) (hm : X.mg x = none) (ha : AB X (e :: es) f) (hv : bootBuiltins x = some (.builtin id) := by decide +kernel) (hn : x ≠ "__name__" := by decide) (hdb : (x == ("__debug__" : Str)) = false := by decide)
    (he : starEach (e :: es) X.env = (false, eval e X.env) :: starEach es X.env := by rfl) (hpl : (backTo pos (starEach es X.env)).any (·.1) = false := by rfl) : EP X kd (.Call (.Name x p) (e :: es) [] pos) (puA g f) := by
  obtain ⟨t, h1, h2⟩ := ha.ex
  refine ⟨_, pe_callB hc hg hm hv h1 hn hdb he hpl, fun F σ H ρ d ρ' Q R hf k => ?_⟩
  obtain ⟨hf, rfl⟩ := lift_some.mp hf
  obtain ⟨ds, e1, e2⟩ := Option.bind_eq_some_iff.mp hf
  refine h2 F σ H ρ' ds _ R e1 fun vs H1 R1 s1 r1 => ?_
  exact ⟨Ow F σ ρ', ds, d, R1.domO, r1, e2, fun z H3 s3 r3 => k z H3 (.grow R (s1.trans s3)) (.of R1 s3 r3 fun a h => sameDom s1 h)⟩
theorem eg_callT {T : String} {g : List D → Option D} {f : Af} (hc : CallD X kd (.type T) g) (hg : Gl X x) (hm : X.mg x = none) (ha : AG X m (e :: es) f) (hv : bootBuiltins x = some (.type T) := by decide +kernel) (hn : x ≠ "__name__" := by decide) (hdb : (x == ("__debug__" : Str)) = false := by decide)
    (he : starEach (e :: es) X.env = (false, eval e X.env) :: starEach es X.env := by rfl) (hpl : (backTo pos (starEach es X.env)).any (·.1) = false := by rfl) : EG X m kd (.Call (.Name x p) (e :: es) [] pos) (seqA g f) := by
  obtain ⟨t, h1, h2⟩ := ha.ex
  refine ⟨_, pe_callTy hc hg hm hv h1 hn hdb he hpl, fun F σ H ρ d ρ' Q R hf k => ?_⟩
  obtain ⟨ds, e1, e2⟩ := seqA_some hf
  refine h2 F σ H ρ ds ρ' _ R e1 fun vs H1 p1 r1 => ?_
  exact ⟨Ow F σ ρ', ds, d, p1.rl.domO, r1.bw, e2, fun z H3 s3 r3 => k z H3 (p1.more s3) (.of p1.rl s3 r3 p1.ev.dom)⟩
theorem ep_callT {T : String} {g : List D → Option D} {f : Rho → Option (List D)} (hc : CallD X kd (.type T) g) (hg : Gl X x) (hm : X.mg x = none) (ha : AB X (e :: es) f) (hv : bootBuiltins x = some (.type T) := by decide +kernel) (hn : x ≠ "__name__" := by decide) (hdb : (x == ("__debug__" : Str)) = false := by decide)
    (he : starEach (e :: es) X.env = (false, eval e X.env) :: starEach es X.env := by rfl) (hpl : (backTo pos (starEach es X.env)).any (·.1) = false := by rfl) : EP X kd (.Call (.Name x p) (e :: es) [] pos) (puA g f) := by
  obtain ⟨t, h1, h2⟩ := ha.ex
  refine ⟨_, pe_callTy hc hg hm hv h1 hn hdb he hpl, fun F σ H ρ d ρ' Q R hf k => ?_⟩
  obtain ⟨hf, rfl⟩ := lift_some.mp hf
  obtain ⟨ds, e1, e2⟩ := Option.bind_eq_some_iff.mp hf
  refine h2 F σ H ρ' ds _ R e1 fun vs H1 R1 s1 r1 => ?_
  exact ⟨Ow F σ ρ', ds, d, R1.domO, r1, e2, fun z H3 s3 r3 => k z H3 (.grow R (s1.trans s3)) (.of R1 s3 r3 fun a h => sameDom s1 h)⟩
end
end
end DL
namespace DL
open L2 PyProof.Rows PySem PySem.Spec
/-! ## slots set -/
def setP (i : Nat) (d : D) (ρ : Rho) : Option Rho := match ρ[i]? with
  | none => none
  | some (.m _) => none
  | some _ => some (ρ.set i (.p d))
def setO (i : Nat) (d : D) (ρ : Rho) : Option Rho := match ρ[i]? with
  | none => none
  | some (.m _) => none
  | some _ => some (ρ.set i (.o d))
theorem setP_some {i : Nat} {d : D} {ρ ρ' : Rho} (h : setP i d ρ = some ρ') : ∃ s, ρ[i]? = some s ∧ ρ' = ρ.set i (.p d) ∧ ∀ e, s ≠ .m e := by
  unfold setP at h
  split at h
  · cases h
  · cases h
  · rename_i s hn hs
    cases h
    exact ⟨s, hs, rfl, fun e z => hn e z⟩
theorem setO_some {i : Nat} {d : D} {ρ ρ' : Rho} (h : setO i d ρ = some ρ') : ∃ s, ρ[i]? = some s ∧ ρ' = ρ.set i (.o d) ∧ ∀ e, s ≠ .m e := by
  unfold setO at h
  split at h
  · cases h
  · cases h
  · rename_i s hn hs
    cases h
    exact ⟨s, hs, rfl, fun e z => hn e z⟩
section
variable {K : Fg} {F : Fx} {σ : L2.St} {H H' : Hp} {ρ ρ' : Rho} {i : Nat} {s : Sl} {v : V} {d : D} {a : Addr}
theorem lt_of_some {α : Type} {l : List α} {i : Nat} {x : α} (h : l[i]? = some x) : i < l.length := (List.getElem?_eq_some_iff.mp h).1
theorem own_setP {x : Option V} {j : Nat} {b : Addr} {t : Sl} (ht : t.own = false) (h : Own (σ.set i x) (ρ.set i t) j b) : j ≠ i ∧ Own σ ρ j b := by
  obtain ⟨u, h1, h2, h3⟩ := h
  by_cases e : i = j
  · subst e
    have hl : i < ρ.length := by have := lt_of_some h1; simpa using this
    rw [List.getElem?_set_self hl] at h1
    cases h1
    rw [ht] at h2
    cases h2
  · rw [List.getElem?_set_ne e] at h1 h3
    exact ⟨fun z => e z.symm, u, h1, h2, h3⟩
/-- a slot is given plain data (or forgotten) -/
theorem Rl.setAny {t : Sl} {x : Option V} (R : Rl K F σ H ρ) (h : ρ[i]? = some s) (ht : t.own = false) (ok : SlOk K (hide H (Ow F σ ρ)) H F i x t) : Rl K F (σ.set i x) H (ρ.set i t) ∧ Evo F σ H ρ (σ.set i x) H (ρ.set i t) := by
  have hl : i < ρ.length := lt_of_some h
  have hl' : i < σ.length := by rw [R.len]; exact hl
  have less : ∀ b, Ow F (σ.set i x) (ρ.set i t) b → Ow F σ ρ b := fun b hb => by
    rcases hb with hb | ⟨j, hb⟩
    · exact .inl hb
    · exact .inr ⟨j, (own_setP ht hb).2⟩
  have G : Same (hide H (Ow F σ ρ)) (hide H (Ow F (σ.set i x) (ρ.set i t))) := hide_less less
  refine ⟨⟨by simpa using R.len, fun j u hu => ?_, fun j k b h1 h2 => R.inj j k b (own_setP ht h1).2 (own_setP ht h2).2, fun b hb => ⟨(R.oc b hb).1, fun j q => (R.oc b hb).2 j (own_setP ht q).2⟩, R.dom⟩, ⟨G, fun _ _ => rfl, fun _ h => h⟩⟩
  by_cases e : i = j
  · subst e
    rw [List.getElem?_set_self hl] at hu
    cases hu
    exact ⟨x, List.getElem?_set_self hl', ok.mono G fun _ _ _ q => q⟩
  · rw [List.getElem?_set_ne e] at hu
    obtain ⟨y, h1, h2⟩ := R.slot j u hu
    exact ⟨y, by rw [List.getElem?_set_ne e]; exact h1, h2.mono G fun _ _ _ q => q⟩
theorem Rl.setPure (R : Rl K F σ H ρ) (h : setP i d ρ = some ρ') (hd : Dn K (hide H (Ow F σ ρ)) v d) : Rl K F (σ.set i (some v)) H ρ' ∧ Evo F σ H ρ (σ.set i (some v)) H ρ' := by
  obtain ⟨s, h1, rfl, _⟩ := setP_some h
  exact R.setAny h1 rfl ⟨v, rfl, hd⟩
theorem own_setO {j : Nat} {b : Addr} {t : Sl} (ht : t.own = true) (hl : i < σ.length) (h : Own (σ.set i (some (.ref a))) (ρ.set i t) j b) : (j = i ∧ b = a) ∨ (j ≠ i ∧ Own σ ρ j b) := by
  obtain ⟨u, h1, h2, h3⟩ := h
  by_cases e : i = j
  · subst e
    rw [List.getElem?_set_self hl] at h3
    cases h3
    exact .inl ⟨rfl, rfl⟩
  · rw [List.getElem?_set_ne e] at h1 h3
    exact .inr ⟨fun z => e z.symm, u, h1, h2, h3⟩
/-- a slot is given a fresh list or dict of its own; H0: the heap ahead of its making -/
theorem Rl.setOwn {H0 : Hp} (R : Rl K (F.add a) σ H' ρ) (h : setO i d ρ = some ρ') (t : Top K (hide H' (insA (Ow F σ ρ) a)) H' a d) (dom : ∀ b, F.H0 b ≠ none → H0 b ≠ none) (hn : H0 a = none) (ho : ¬ Ow F σ ρ a) :
    Rl K F (σ.set i (some (.ref a))) H' ρ' := by
  obtain ⟨s, h1, rfl, hm⟩ := setO_some h
  have hl : i < ρ.length := lt_of_some h1
  have hl' : i < σ.length := by rw [R.len]; exact hl
  have hFa : F.H0 a = none := by
    cases q : F.H0 a with
    | none => rfl
    | some o => exact absurd hn (dom a (by rw [q]; simp))
  have less : ∀ b, Ow F (σ.set i (some (.ref a))) (ρ.set i (.o d)) b → insA (Ow F σ ρ) a b := fun b hb => by
    rcases hb with hb | ⟨j, hb⟩
    · exact .inl (.inl hb)
    · rcases own_setO (by rfl) hl' hb with ⟨_, e⟩ | ⟨_, q⟩
      · exact .inr e
      · exact .inl (.inr ⟨j, q⟩)
  have G : Same (hide H' (insA (Ow F σ ρ) a)) (hide H' (Ow F (σ.set i (some (.ref a))) (ρ.set i (.o d)))) := hide_less less
  have G' : Same (hide H' (Ow (F.add a) σ ρ)) (hide H' (Ow F (σ.set i (some (.ref a))) (ρ.set i (.o d)))) := hide_less fun b hb => ow_add.mpr (less b hb)
  have na : ∀ j, ¬ Own σ ρ j a := (R.oc a (.inr rfl)).2
  refine ⟨by simpa using R.len, fun j u hu => ?_, fun j k b h1 h2 => ?_, fun b hb => ⟨(R.oc b (.inl hb)).1, fun j q => ?_⟩, R.dom⟩
  · by_cases e : i = j
    · subst e
      rw [List.getElem?_set_self hl] at hu
      cases hu
      exact ⟨_, List.getElem?_set_self hl', a, rfl, t.mono G fun _ q => q, hFa⟩
    · rw [List.getElem?_set_ne e] at hu
      obtain ⟨y, h1, h2⟩ := R.slot j u hu
      exact ⟨y, by rw [List.getElem?_set_ne e]; exact h1, SlOk.mono (F := F) (by cases u <;> exact h2) G' fun _ _ _ q => q⟩
  · rcases own_setO (by rfl) hl' h1 with ⟨e1, e2⟩ | ⟨e1, q1⟩
    · rcases own_setO (by rfl) hl' h2 with ⟨e3, e4⟩ | ⟨e3, q2⟩
      · rw [e1, e3]
      · subst e2; exact absurd q2 (na k)
    · rcases own_setO (by rfl) hl' h2 with ⟨e3, e4⟩ | ⟨e3, q2⟩
      · subst e4; exact absurd q1 (na j)
      · exact R.inj j k b q1 q2
  · rcases own_setO (by rfl) hl' q with ⟨e1, e2⟩ | ⟨e1, q1⟩
    · subst e2
      exact ho (.inl hb)
    · exact (R.oc b (.inl hb)).2 j q1
theorem Rl.setOwnEvo {H0 : Hp} {ρ0 : Rho} (p : Evo F σ H0 ρ0 σ H' ρ) (R : Rl K (F.add a) σ H' ρ) (h : setO i d ρ = some ρ') (hn : H0 a = none) (ho : ¬ Ow F σ ρ a) : Evo F σ H0 ρ0 (σ.set i (some (.ref a))) H' ρ' := by
  obtain ⟨s, h1, rfl, hm⟩ := setO_some h
  have hl' : i < σ.length := by rw [R.len]; exact lt_of_some h1
  refine ⟨fun b o e => ?_, p.oc, p.dom⟩
  obtain ⟨e1, e2⟩ := hide_some.mp (p.kept b o e)
  refine hide_some.mpr ⟨fun z => ?_, e2⟩
  rcases z with z | ⟨j, z⟩
  · exact e1 (.inl z)
  · rcases own_setO (by rfl) hl' z with ⟨_, e3⟩ | ⟨_, q⟩
    · subst e3
      exact absurd hn (ne_none_of (hide_some.mp e).2)
    · exact e1 (.inr ⟨j, q⟩)
/-- the slot's own list gives up being owned: it may be walked, handed on, but no more changed -/
def frz (i : Nat) (ρ : Rho) : Rho := match ρ[i]? with
  | some (.o d) => ρ.set i (.p d)
  | _ => ρ
theorem Rl.freeze (R : Rl K F σ H ρ) (i : Nat) : Rl K F σ H (frz i ρ) ∧ Evo F σ H ρ σ H (frz i ρ) := by
  unfold frz
  split
  · rename_i d e
    obtain ⟨x, h1, a, h2, t, h3⟩ := R.slot i _ e
    subst h2
    have ho : Own σ ρ i a := ⟨_, e, rfl, h1⟩
    have hs : σ.set i (some (.ref a)) = σ := by
      refine List.ext_getElem? fun j => ?_
      by_cases z : i = j
      · subst z
        rw [List.getElem?_set_self (lt_of_some h1)]
        exact h1.symm
      · rw [List.getElem?_set_ne z]
    have less : ∀ b, Ow F (σ.set i (some (.ref a))) (ρ.set i (.p d)) b → Ow F σ ρ b := fun b hb => by
      rcases hb with hb | ⟨j, hb⟩
      · exact .inl hb
      · exact .inr ⟨j, (own_setP rfl hb).2⟩
    have na : ¬ Ow F (σ.set i (some (.ref a))) (ρ.set i (.p d)) a := fun z => by
      rcases z with z | ⟨j, z⟩
      · exact (R.oc a z).2 i ho
      · obtain ⟨h4, h5⟩ := own_setP rfl z
        exact h4 (R.inj j i a h5 ho)
    have G : Same (hide H (Ow F σ ρ)) (hide H (Ow F (σ.set i (some (.ref a))) (ρ.set i (.p d)))) := hide_less less
    have dn : Dn K (hide H (Ow F (σ.set i (some (.ref a))) (ρ.set i (.p d)))) (.ref a) d := by
      cases d with
      | list ds => obtain ⟨xs, q1, q2⟩ := t; exact .lst (.of (hide_some.mpr ⟨na, q1⟩)) (q2.mono G)
      | dict ds =>
        rcases t with ⟨ks, q1, q2⟩ | ⟨ks, q1, q2⟩
        · exact .dic (hide_some.mpr ⟨na, q1⟩) (q2.mono G)
        · exact .dct (hide_some.mpr ⟨na, q1⟩) (q2.mono G)
      | _ => exact t.elim
    have hl : i < ρ.length := lt_of_some e
    rw [hs] at less na G dn
    refine ⟨⟨by simpa using R.len, fun j u hu => ?_, fun j k b h1 h2 => ?_, fun b hb => ⟨(R.oc b hb).1, fun j q => ?_⟩, R.dom⟩, ⟨G, fun _ _ => rfl, fun _ h => h⟩⟩
    · by_cases z : i = j
      · subst z
        rw [List.getElem?_set_self hl] at hu
        cases hu
        exact ⟨_, h1, _, rfl, dn⟩
      · rw [List.getElem?_set_ne z] at hu
        obtain ⟨y, q1, q2⟩ := R.slot j u hu
        exact ⟨y, q1, q2.mono G fun _ _ _ q => q⟩
    · rw [← hs] at h1 h2
      exact R.inj j k b (own_setP rfl h1).2 (own_setP rfl h2).2
    · rw [← hs] at q
      exact (R.oc b hb).2 j (own_setP rfl q).2
  · exact ⟨R, .refl⟩
/-- what a slot owns -/
def ownd (i : Nat) (ρ : Rho) : Option D := match ρ[i]? with
  | some (.o d) => some d
  | some (.m d) => some d
  | _ => none
def Sl.put : Sl → D → Sl
  | .o _, d => .o d
  | .m _, d => .m d
  | s, _ => s
def wr (i : Nat) (d : D) (ρ : Rho) : Rho := match ρ[i]? with
  | some s => ρ.set i (s.put d)
  | none => ρ
theorem ownd_some (R : Rl K F σ H ρ) (h : ownd i ρ = some d) : ∃ a s, ρ[i]? = some s ∧ s.own = true ∧ σ[i]? = some (some (.ref a)) ∧ Top K (hide H (Ow F σ ρ)) H a d := by
  unfold ownd at h
  split at h
  · rename_i e q
    cases h
    obtain ⟨x, h1, a, h2, t, _⟩ := R.slot i _ q
    subst h2
    exact ⟨a, _, q, rfl, h1, t⟩
  · rename_i e q
    cases h
    obtain ⟨x, h1, a, h2, t, _⟩ := R.slot i _ q
    subst h2
    exact ⟨a, _, q, rfl, h1, t⟩
  · cases h
theorem own_put {s : Sl} {d : D} : (s.put d).own = s.own := by cases s <;> rfl
theorem own_wr {σ : L2.St} {ρ : Rho} {i j : Nat} {b : Addr} {d : D} : Own σ (wr i d ρ) j b ↔ Own σ ρ j b := by
  unfold wr
  split
  · rename_i s e
    by_cases z : i = j
    · subst z
      unfold Own
      rw [List.getElem?_set_self (lt_of_some e), e]
      constructor
      · rintro ⟨u, h1, h2, h3⟩
        cases h1
        exact ⟨s, rfl, by rw [own_put] at h2; exact h2, h3⟩
      · rintro ⟨u, h1, h2, h3⟩
        cases h1
        exact ⟨_, rfl, by rw [own_put]; exact h2, h3⟩
    · unfold Own
      rw [List.getElem?_set_ne z]
  · exact Iff.rfl
theorem ow_wr {F : Fx} {σ : L2.St} {ρ : Rho} {i : Nat} {d : D} : Ow F σ (wr i d ρ) = Ow F σ ρ := by
  funext b
  unfold Ow
  refine propext ⟨fun h => h.imp id fun ⟨j, q⟩ => ⟨j, own_wr.mp q⟩, fun h => h.imp id fun ⟨j, q⟩ => ⟨j, own_wr.mpr q⟩⟩
/-- the slot's own list or dict is changed -/
theorem Rl.write {s : Sl} {o : HO} (R : Rl K F σ H ρ) (hs : ρ[i]? = some s) (hw : s.own = true) (ha : σ[i]? = some (some (.ref a))) (t : Top K (hide H (Ow F σ ρ)) (upd H a o) a d) :
    Rl K F σ (upd H a o) (wr i d ρ) ∧ Evo F σ H ρ σ (upd H a o) (wr i d ρ) := by
  have ow : Own σ ρ i a := ⟨s, hs, hw, ha⟩
  have hO : Ow F σ ρ a := .inr ⟨i, ow⟩
  have G : Same (hide H (Ow F σ ρ)) (hide (upd H a o) (Ow F σ (wr i d ρ))) := by
    rw [ow_wr]
    refine hide_both fun b u nb hb => ⟨nb, ?_⟩
    rw [upd_ne (fun z => nb (by rw [z]; exact hO))]
    exact hb
  have dom : ∀ b, H b ≠ none → upd H a o b ≠ none := fun b hb => by
    by_cases z : b = a
    · subst z; rw [upd_same]; simp
    · rw [upd_ne z]; exact hb
  have nOc : ¬ F.Oc a := fun z => (R.oc a z).2 i ow
  refine ⟨⟨?_, fun j u hu => ?_, fun j k b h1 h2 => R.inj j k b (own_wr.mp h1) (own_wr.mp h2), fun b hb => ⟨dom b (R.oc b hb).1, fun j q => (R.oc b hb).2 j (own_wr.mp q)⟩, fun b hb => dom b (R.dom b hb)⟩, ⟨G, fun b hb => upd_ne (fun z => nOc (by rw [← z]; exact hb)), dom⟩⟩
  · unfold wr
    rw [hs]
    simpa using R.len
  · by_cases z : i = j
    · subst z
      unfold wr at hu
      rw [hs] at hu
      simp only at hu
      rw [List.getElem?_set_self (lt_of_some hs)] at hu
      cases hu
      obtain ⟨x, h1, h2⟩ := R.slot i s hs
      rw [ha] at h1
      cases h1
      refine ⟨_, ha, ?_⟩
      have G' : Same (hide H (Ow F σ ρ)) (hide (upd H a o) (Ow F σ (wr i d ρ))) := G
      cases s with
      | un => cases hw
      | p e => cases hw
      | o e => obtain ⟨b, e1, _, e3⟩ := h2; cases e1; exact ⟨a, rfl, t.mono G' fun _ q => q, e3⟩
      | m e => obtain ⟨b, e1, _, e3⟩ := h2; cases e1; exact ⟨a, rfl, t.mono G' fun _ q => q, e3⟩
    · have hu' : ρ[j]? = some u := by
        unfold wr at hu
        rw [hs] at hu
        simp only at hu
        rw [List.getElem?_set_ne z] at hu
        exact hu
      obtain ⟨x, h1, h2⟩ := R.slot j u hu'
      refine ⟨x, h1, ?_⟩
      have keep : ∀ b, Own σ ρ j b → ∀ q, H b = some q → upd H a o b = some q := fun b hb q e => by
        rw [upd_ne (fun y => z (R.inj i j a ow (by rw [← y]; exact hb)))]
        exact e
      cases u with
      | un => trivial
      | p e => obtain ⟨v, e1, e2⟩ := h2; exact ⟨v, e1, e2.mono G⟩
      | o e => obtain ⟨b, e1, e2, e3⟩ := h2; subst e1; exact ⟨b, rfl, e2.mono G (keep b ⟨_, hu', rfl, h1⟩), e3⟩
      | m e => obtain ⟨b, e1, e2, e3⟩ := h2; subst e1; exact ⟨b, rfl, e2.mono G (keep b ⟨_, hu', rfl, h1⟩), e3⟩
end
end DL
namespace DL
open L2 PyProof.Rows PySem PySem.Spec
/-! ## statements -/
inductive Out where
  | nx (ρ : Rho)
  | rt (d : D) (ρ : Rho)
  | bk (ρ : Rho)
  | ct (ρ : Rho)
abbrev Sf := Rho → Option Out
/-- what the callers own, what was handed in to be changed -/
def Om (F : Fx) (ρ : Rho) : Ad := fun a => F.Oc a ∨ ∃ (i : Nat) (d : D), ρ[i]? = some (Sl.m d) ∧ F.a0[i]? = some (some (V.ref a))
theorem om_ow {K : Fg} {F : Fx} {σ : L2.St} {H : Hp} {ρ : Rho} (R : Rl K F σ H ρ) : ∀ a, Om F ρ a → Ow F σ ρ a := fun a h => by
  rcases h with h | ⟨i, d, e, h⟩
  · exact .inl h
  · obtain ⟨x, h1, b, h2, t, h3⟩ := R.slot i _ e
    subst h2
    rw [h] at h3
    cases h3
    exact .inr ⟨i, _, e, rfl, h1⟩
def EndOk (K : Fg) (F : Fx) (kr : Kd) (σ : L2.St) (H : Hp) (ρ : Rho) (E : Ends) : Out → Prop
  | .nx ρ' => ∀ σ' H', Rl K F σ' H' ρ' → Evo F σ H ρ σ' H' ρ' → E.nx σ' H'
  | .bk ρ' => ∀ σ' H', Rl K F σ' H' ρ' → Evo F σ H ρ σ' H' ρ' → E.bk σ' H'
  | .ct ρ' => ∀ σ' H', Rl K F σ' H' ρ' → Evo F σ H ρ σ' H' ρ' → E.ct σ' H'
  | .rt d ρ' => ∀ v σ' H', Rl K F σ' H' ρ' → Evo F σ H ρ σ' H' ρ' → Vr K kr (Om F ρ') F.H0 H' v d → E.rt v H'
structure SG (X : Cx) (kr : Kd) (st : Stmt) (f : Sf) : Prop where
  ex : ∃ t : TS, PS X st t ∧ ∀ (F : Fx) (σ : L2.St) (H : Hp) (ρ : Rho) (o : Out) (E : Ends), Rl X.K F σ H ρ → f ρ = some o → EndOk X.K F kr σ H ρ E o → t E σ H
structure SB (X : Cx) (kr : Kd) (sts : List Stmt) (f : Sf) : Prop where
  ex : ∃ t : TS, PSs X sts t ∧ ∀ (F : Fx) (σ : L2.St) (H : Hp) (ρ : Rho) (o : Out) (E : Ends), Rl X.K F σ H ρ → f ρ = some o → EndOk X.K F kr σ H ρ E o → t E σ H
theorem EndOk.later {K : Fg} {F : Fx} {kr : Kd} {σ σ1 : L2.St} {H H1 : Hp} {ρ ρ1 : Rho} {E : Ends} {o : Out} (k : EndOk K F kr σ H ρ E o) (ev : Evo F σ H ρ σ1 H1 ρ1) : EndOk K F kr σ1 H1 ρ1 E o := by
  cases o with
  | nx ρ' => exact fun σ' H' R e => k σ' H' R (ev.trans e)
  | bk ρ' => exact fun σ' H' R e => k σ' H' R (ev.trans e)
  | ct ρ' => exact fun σ' H' R e => k σ' H' R (ev.trans e)
  | rt d ρ' => exact fun v σ' H' R e r => k v σ' H' R (ev.trans e) r
def sNx : Sf := fun ρ => some (.nx ρ)
def sSeq (f g : Sf) : Sf := fun ρ => (f ρ).bind fun o => match o with
  | .nx ρ1 => g ρ1
  | o => some o
section
variable {X : Cx} {kr kd : Kd} {m m1 m2 : Bool} {st : Stmt} {rest a b : List Stmt} {e c : Expr} {pos pos' : Pos} {f g : Sf} {fe : Ef}
theorem SG.cong {f' : Sf} (h : SG X kr st f) (q : f' = f) : SG X kr st f' := by rw [q]; exact h
theorem sb_nil : SB X kr [] sNx := ⟨_, pss_nil, fun F σ H ρ o E R hf k => by cases hf; exact k σ H R .refl⟩
theorem sb_cons (h1 : SG X kr st f) (h2 : SB X kr rest g) : SB X kr (st :: rest) (sSeq f g) := by
  obtain ⟨ta, ha1, ha2⟩ := h1.ex
  obtain ⟨tb, hb1, hb2⟩ := h2.ex
  refine ⟨_, pss_cons ha1 hb1, fun F σ H ρ o E R hf k => ?_⟩
  obtain ⟨o1, e1, e2⟩ := Option.bind_eq_some_iff.mp hf
  refine ha2 F σ H ρ o1 _ R e1 ?_
  cases o1 with
  | nx ρ1 => exact fun σ1 H1 R1 ev => hb2 F σ1 H1 ρ1 o E R1 e2 (k.later ev)
  | bk ρ1 => cases e2; exact k
  | ct ρ1 => cases e2; exact k
  | rt d ρ1 => cases e2; exact k
theorem sb_one (h1 : SG X kr st f) : SB X kr [st] f := by
  obtain ⟨ta, ha1, ha2⟩ := h1.ex
  exact ⟨_, pss_one ha1, ha2⟩
theorem sg_pass : SG X kr (.Pass pos) sNx := ⟨_, ps_pass, fun F σ H ρ o E R hf k => by cases hf; exact k σ H R .refl⟩
def sBk : Sf := fun ρ => some (.bk ρ)
def sCt : Sf := fun ρ => some (.ct ρ)
theorem sg_break : SG X kr (.Break pos) sBk := ⟨_, ps_break, fun F σ H ρ o E R hf k => by cases hf; exact k σ H R .refl⟩
theorem sg_continue : SG X kr (.Continue pos) sCt := ⟨_, ps_continue, fun F σ H ρ o E R hf k => by cases hf; exact k σ H R .refl⟩
/-- return e -/
def sRt (f : Ef) : Sf := fun ρ => (f ρ).map fun a => .rt a.1 a.2
theorem Vr.home {K : Fg} {F : Fx} {kd : Kd} {σ : L2.St} {H H' : Hp} {ρ : Rho} {v : V} {d : D} (hk : kd = .k ∨ kd = .f) (R : Rl K F σ H' ρ) (dom : ∀ a, F.H0 a ≠ none → H a ≠ none) (h : Vr K kd (Ow F σ ρ) H H' v d) : Vr K kd (Om F ρ) F.H0 H' v d := by
  rcases hk with rfl | rfl
  · exact Dn.mono (hide_less (om_ow R)) h
  · obtain ⟨a, e, n, ho, t⟩ := h.since dom
    exact ⟨a, e, n, fun z => ho (om_ow R a z), t.mono (hide_less fun b hb => hb.imp (om_ow R b) id) fun _ q => q⟩
theorem sg_ret (h : EG X m kr e fe) (hk : kr = .k ∨ kr = .f := by first | exact .inl rfl | exact .inr rfl) : SG X kr (.Return (some e) pos) (sRt fe) := by
  obtain ⟨t, h1, h2⟩ := h.ex
  refine ⟨_, ps_ret h1, fun F σ H ρ o E R hf k => ?_⟩
  obtain ⟨⟨d, ρ1⟩, e1, e2⟩ := Option.map_eq_some_iff.mp hf
  cases e2
  refine h2 F σ H ρ d ρ1 _ R e1 fun v H' p r => ?_
  exact k v σ H' p.rl p.ev (Vr.home hk p.rl R.dom r.vr)
/-- return of the def's own list -/
def sRtO (i : Nat) : Sf := fun ρ => match ρ[i]? with
  | some (.o d) => some (.rt d ρ)
  | _ => none
theorem sg_retO {i : Nat} {x : Str} {p : Pos} (h : PE X (.Name x p) (tVar i)) : SG X .f (.Return (some (.Name x p)) pos) (sRtO i) := by
  refine ⟨_, ps_ret h, fun F σ H ρ o E R hf k => ?_⟩
  unfold sRtO at hf
  split at hf
  · rename_i d q
    cases hf
    obtain ⟨y, h1, a, h2, t, h3⟩ := R.slot i _ q
    subst h2
    have ow : Own σ ρ i a := ⟨_, q, rfl, h1⟩
    have no : ¬ Om F ρ a := fun z => by
      rcases z with z | ⟨j, d', q1, q2⟩
      · exact (R.oc a z).2 i ow
      · obtain ⟨y', g1, b, g2, _, g3⟩ := R.slot j _ q1
        subst g2
        rw [q2] at g3
        cases g3
        have ij := R.inj i j a ow ⟨_, q1, rfl, g1⟩
        subst ij
        rw [q] at q1
        cases q1
    refine ⟨.ref a, h1, k _ σ H R .refl ⟨a, rfl, h3, no, t.mono (hide_less fun b hb => ?_) fun _ z => z⟩⟩
    rcases hb with hb | rfl
    · exact om_ow R b hb
    · exact .inr ⟨i, ow⟩
  · cases hf
/-- the own list handed back as plain data -/
theorem sg_retOK {i : Nat} {x : Str} {p : Pos} (h : PE X (.Name x p) (tVar i)) : SG X .k (.Return (some (.Name x p)) pos) (sRtO i) := by
  obtain ⟨t, h1, h2⟩ := (sg_retO (X := X) (pos := pos) h).ex
  refine ⟨t, h1, fun F σ H ρ o E R hf k => h2 F σ H ρ o E R hf ?_⟩
  cases o with
  | nx ρ' => exact k
  | bk ρ' => exact k
  | ct ρ' => exact k
  | rt d ρ' => exact fun v σ' H' R' ev r => k v σ' H' R' ev (Vr.weak r)
def sRtN : Sf := fun ρ => some (.rt .none ρ)
theorem sg_retN : SG X .k (.Return none pos) sRtN := ⟨_, ps_retN, fun F σ H ρ o E R hf k => by cases hf; exact k _ σ H R .refl .non⟩
/-- if -/
def sIf (t : Tf) (f g : Sf) : Sf := fun ρ => (t ρ).bind fun c => if c.1 = true then f c.2 else g c.2
theorem sg_if {t : Tf} (hc : TG X m c t) (ha : SB X kr a f) (hb : SB X kr b g) : SG X kr (.If c a b pos) (sIf t f g) := by
  obtain ⟨tc, hc1, hc2⟩ := hc.ex
  obtain ⟨ta, ha1, ha2⟩ := ha.ex
  obtain ⟨tb, hb1, hb2⟩ := hb.ex
  refine ⟨_, ps_if hc1 ha1 hb1, fun F σ H ρ o E R hf k => ?_⟩
  obtain ⟨⟨x, ρ1⟩, e1, e2⟩ := Option.bind_eq_some_iff.mp hf
  refine hc2 F σ H ρ x ρ1 _ R e1 fun H1 p1 => ?_
  cases x with
  | true =>
    rw [if_pos rfl] at e2 ⊢
    exact ha2 F σ H1 ρ1 o E p1.rl e2 (k.later p1.ev)
  | false =>
    rw [if_neg Bool.false_ne_true] at e2 ⊢
    exact hb2 F σ H1 ρ1 o E p1.rl e2 (k.later p1.ev)
/-- the slot i's own list is given up ahead of the statement -/
def sFz (i : Nat) (f : Sf) : Sf := fun ρ => f (frz i ρ)
theorem SG.frz (i : Nat) (h : SG X kr st f) : SG X kr st (sFz i f) := by
  obtain ⟨t, h1, h2⟩ := h.ex
  refine ⟨t, h1, fun F σ H ρ o E R hf k => ?_⟩
  obtain ⟨R1, ev⟩ := R.freeze i
  exact h2 F σ H _ o E R1 hf (k.later ev)
/-- an expression whose value is dropped -/
def sEx (f : Ef) : Sf := fun ρ => (f ρ).map fun a => .nx a.2
theorem sg_expr (h : EG X m kd e fe) (hs : swapsWith e none pos.line X.env = pure false := by rfl) : SG X kr (.Expr e pos) (sEx fe) := by
  obtain ⟨t, h1, h2⟩ := h.ex
  refine ⟨_, ps_expr h1 hs, fun F σ H ρ o E R hf k => ?_⟩
  obtain ⟨⟨d, ρ1⟩, e1, e2⟩ := Option.map_eq_some_iff.mp hf
  cases e2
  exact h2 F σ H ρ d ρ1 _ R e1 fun v H' p r => k σ H' p.rl p.ev
/-! ## assignments to a name -/
def sSetP (i : Nat) (f : Ef) : Sf := fun ρ => (f ρ).bind fun a => (setP i a.1 a.2).map .nx
def sSetO (i : Nat) (f : Ef) : Sf := fun ρ => (f ρ).bind fun a => (setO i a.1 a.2).map .nx
/-- the pattern: an expression, its value stored -/
theorem set_pure {te : TE} {i : Nat} (h2 : ∀ (F : Fx) (σ : L2.St) (H : Hp) (ρ : Rho) (d : D) (ρ' : Rho) (Q : VK), Rl X.K F σ H ρ → fe ρ = some (d, ρ') → (∀ v H', Po X.K F m σ H ρ H' ρ' → Er X.K F σ ρ' .k H H' v d → Q v H') → te σ H Q)
    (F : Fx) (σ : L2.St) (H : Hp) (ρ : Rho) (o : Out) (E : Ends) (R : Rl X.K F σ H ρ) (hf : sSetP i fe ρ = some o) (k : EndOk X.K F kr σ H ρ E o) : tAsg te (gName i) E σ H := by
  obtain ⟨⟨d, ρ1⟩, e1, e2⟩ := Option.bind_eq_some_iff.mp hf
  obtain ⟨ρ2, e3, e4⟩ := Option.map_eq_some_iff.mp e2
  cases e4
  refine h2 F σ H ρ d ρ1 _ R e1 fun v H' p r => ?_
  obtain ⟨R2, ev⟩ := p.rl.setPure e3 r.vr
  exact k _ _ R2 (p.ev.trans ev)
theorem set_own {te : TE} {i : Nat} (h2 : ∀ (F : Fx) (σ : L2.St) (H : Hp) (ρ : Rho) (d : D) (ρ' : Rho) (Q : VK), Rl X.K F σ H ρ → fe ρ = some (d, ρ') → (∀ v H', Po X.K F m σ H ρ H' ρ' → Er X.K F σ ρ' .f H H' v d → Q v H') → te σ H Q)
    (F : Fx) (σ : L2.St) (H : Hp) (ρ : Rho) (o : Out) (E : Ends) (R : Rl X.K F σ H ρ) (hf : sSetO i fe ρ = some o) (k : EndOk X.K F kr σ H ρ E o) : tAsg te (gName i) E σ H := by
  obtain ⟨⟨d, ρ1⟩, e1, e2⟩ := Option.bind_eq_some_iff.mp hf
  obtain ⟨ρ2, e3, e4⟩ := Option.map_eq_some_iff.mp e2
  cases e4
  refine h2 F σ H ρ d ρ1 _ R e1 fun v H' p r => ?_
  obtain ⟨a, e, n, ho, t⟩ := r.vr
  subst e
  have R1 := r.fr rfl a rfl
  exact k _ _ (R1.setOwn e3 t R.dom n ho) (Rl.setOwnEvo p.ev R1 e3 n ho)
section
variable {i : Nat} {x : Str} (hN : X.N.Nodup) (hi : X.N[i]? = some x) (hx : Loc X.env.scope x)
theorem sg_set (hN : X.N.Nodup) (hi : X.N[i]? = some x) (hx : Loc X.env.scope x) (h : EG X m .k e fe) (hs : swapsWith e (some (.Name x pos')) pos.line X.env = pure false := by rfl) (hf : X.fn x = true ∨ X.env.scope.names.lookup x = some .local := by first | exact .inl rfl | exact .inr rfl | assumption) :
    SG X kr (.Assign [.Name x pos'] e pos) (sSetP i fe) := by
  obtain ⟨t, h1, h2⟩ := h.ex
  exact ⟨_, ps_set hN hi hx h1 hs hf, set_pure h2⟩
theorem sg_setO (hN : X.N.Nodup) (hi : X.N[i]? = some x) (hx : Loc X.env.scope x) (h : EG X m .f e fe) (hs : swapsWith e (some (.Name x pos')) pos.line X.env = pure false := by rfl) (hf : X.fn x = true ∨ X.env.scope.names.lookup x = some .local := by first | exact .inl rfl | exact .inr rfl | assumption) :
    SG X kr (.Assign [.Name x pos'] e pos) (sSetO i fe) := by
  obtain ⟨t, h1, h2⟩ := h.ex
  exact ⟨_, ps_set hN hi hx h1 hs hf, set_own h2⟩
end
/-! ## targets of loops, unpacking: the slots that they write are told -/
abbrev Gf := D → Rho → Option Rho
structure GG (X : Cx) (ws : List Nat) (tg : Expr) (f : Gf) : Prop where
  ex : ∃ t : L2.TG, PG X tg t ∧ ∀ (F : Fx) (σ : L2.St) (H : Hp) (ρ ρ' : Rho) (v : V) (d : D) (Q : L2.St → Hp → Prop), Rl X.K F σ H ρ → Dn X.K (hide H (Ow F σ ρ)) v d → f d ρ = some ρ' →
    (∀ σ', Rl X.K F σ' H ρ' → Evo F σ H ρ σ' H ρ' → (∀ j, j ∉ ws → σ'[j]? = σ[j]?) → Q σ' H) → t v σ H Q
  out : ∀ d ρ ρ', f d ρ = some ρ' → ρ'.length = ρ.length ∧ (∀ j, j ∉ ws → ρ'[j]? = ρ[j]?) ∧ ∀ j, j ∈ ws → ∃ e, ρ'[j]? = some (.p e)
structure GGs (X : Cx) (ws : List Nat) (tgs : List Expr) (f : List D → Rho → Option Rho) : Prop where
  ex : ∃ t : L2.TGs, PGs X tgs t ∧ ∀ (F : Fx) (σ : L2.St) (H : Hp) (ρ ρ' : Rho) (vs : List V) (ds : List D) (Q : L2.St → Hp → Prop), Rl X.K F σ H ρ → DnL X.K (hide H (Ow F σ ρ)) vs ds → f ds ρ = some ρ' →
    (∀ σ', Rl X.K F σ' H ρ' → Evo F σ H ρ σ' H ρ' → (∀ j, j ∉ ws → σ'[j]? = σ[j]?) → Q σ' H) → t vs σ H Q
  out : ∀ d ρ ρ', f d ρ = some ρ' → ρ'.length = ρ.length ∧ (∀ j, j ∉ ws → ρ'[j]? = ρ[j]?) ∧ ∀ j, j ∈ ws → ∃ e, ρ'[j]? = some (.p e)
def gNil : List D → Rho → Option Rho
  | [], ρ => some ρ
  | _ :: _, _ => none
def gCons (f : Gf) (g : List D → Rho → Option Rho) : List D → Rho → Option Rho
  | [], _ => none
  | d :: ds, ρ => (f d ρ).bind (g ds)
def gTup (n : Nat) (g : List D → Rho → Option Rho) : Gf
  | .tuple ds, ρ => if ds.length = n then g ds ρ else none
  | _, _ => none
theorem gg_name {i : Nat} {x : Str} (hN : X.N.Nodup) (hi : X.N[i]? = some x) (hx : Loc X.env.scope x) (hf : X.fn x = true ∨ X.env.scope.names.lookup x = some .local := by first | exact .inl rfl | exact .inr rfl | assumption) : GG X [i] (.Name x pos) (setP i) := by
  refine ⟨⟨_, pg_name hN hi hx hf, fun F σ H ρ ρ' v d Q R hd hf k => ?_⟩, fun d ρ ρ' hf => ?_⟩
  · obtain ⟨R2, ev⟩ := R.setPure hf hd
    obtain ⟨s, h1, rfl, _⟩ := setP_some hf
    exact k _ R2 ev fun j hj => List.getElem?_set_ne (fun z => hj (by simp [z]))
  · obtain ⟨s, h1, rfl, _⟩ := setP_some hf
    refine ⟨by simp, fun j hj => List.getElem?_set_ne (fun z => hj (by simp [z])), fun j hj => ⟨d, ?_⟩⟩
    obtain rfl : j = i := by simpa using hj
    exact List.getElem?_set_self (lt_of_some h1)
theorem ggs_nil : GGs X [] [] gNil := by
  refine ⟨⟨_, pgs_nil, fun F σ H ρ ρ' vs ds Q R hd hf k => ?_⟩, fun d ρ ρ' hf => ?_⟩
  · cases hd with
    | nil => cases hf; exact ⟨rfl, k _ R .refl fun _ _ => rfl⟩
    | cons _ _ => cases hf
  · cases d with
    | nil => cases hf; exact ⟨rfl, fun _ _ => rfl, fun _ z => absurd z (by simp)⟩
    | cons _ _ => cases hf
theorem ggs_cons {e : Expr} {es : List Expr} {w1 w2 : List Nat} {f : Gf} {g : List D → Rho → Option Rho} (h1 : GG X w1 e f) (h2 : GGs X w2 es g)
    (hs : (assignEach (e :: es) X.env).map (·.2) = assign e X.env :: (assignEach es X.env).map (·.2) := by rfl) : GGs X (w1 ++ w2) (e :: es) (gCons f g) := by
  obtain ⟨ta, ha1, ha2⟩ := h1.ex
  obtain ⟨tb, hb1, hb2⟩ := h2.ex
  refine ⟨⟨_, pgs_cons ha1 hb1 hs, fun F σ H ρ ρ' vs ds Q R hd hf k => ?_⟩, fun ds ρ ρ' hf => ?_⟩
  · cases hd with
    | nil => cases hf
    | cons h t =>
      obtain ⟨ρ1, e1, e2⟩ := Option.bind_eq_some_iff.mp hf
      refine ⟨_, _, rfl, ha2 F σ H ρ ρ1 _ _ _ R h e1 fun σ1 R1 ev1 o1 => ?_⟩
      refine hb2 F σ1 H ρ1 ρ' _ _ _ R1 (DnL.mono ev1.kept t) e2 fun σ2 R2 ev2 o2 => ?_
      refine k σ2 R2 (ev1.trans ev2) fun j hj => ?_
      have j1 : j ∉ w1 := fun z => hj (List.mem_append_left _ z)
      have j2 : j ∉ w2 := fun z => hj (List.mem_append_right _ z)
      exact (o2 j j2).trans (o1 j j1)
  · cases ds with
    | nil => cases hf
    | cons d ds =>
      obtain ⟨ρ1, e1, e2⟩ := Option.bind_eq_some_iff.mp hf
      obtain ⟨l1, o1⟩ := h1.out _ _ _ e1
      obtain ⟨l2, o2⟩ := h2.out _ _ _ e2
      refine ⟨l2.trans l1, fun j hj => ?_, fun j hj => ?_⟩
      · have j1 : j ∉ w1 := fun z => hj (List.mem_append_left _ z)
        have j2 : j ∉ w2 := fun z => hj (List.mem_append_right _ z)
        exact (o2.1 j j2).trans (o1.1 j j1)
      · by_cases j2 : j ∈ w2
        · exact o2.2 j j2
        · obtain ⟨e, he⟩ := o1.2 j ((List.mem_append.mp hj).elim id fun z => absurd z j2)
          exact ⟨e, (o2.1 j j2).trans he⟩
theorem gg_tup {es : List Expr} {n k : Nat} {ws : List Nat} {g : List D → Rho → Option Rho} (hc : X.calm = true) (h : GGs X ws es g) (hn : (assignEach es X.env).length = n := by rfl) (hst : (assignEach es X.env).findIdx? (·.1) = none := by rfl) : GG X ws (.Tuple es k pos) (gTup n g) := by
  obtain ⟨ta, ha1, ha2⟩ := h.ex
  refine ⟨⟨_, pg_tup hc ha1 hn hst, fun F σ H ρ ρ' v d Q R hd hf k => ?_⟩, fun d ρ ρ' hf => ?_⟩
  · cases d with
    | tuple ds =>
      have hf' : (if ds.length = n then g ds ρ else none) = some ρ' := hf
      by_cases e : ds.length = n
      · rw [if_pos e] at hf'
        cases hd with
        | tup h1 h2 =>
          exact ⟨_, _, rfl, .of (hide_sub _ _ h1), by rw [h2.length]; exact e, ha2 F σ H ρ ρ' _ ds Q R h2 hf' k⟩
      · rw [if_neg e] at hf'
        cases hf'
    | _ => cases hf
  · cases d with
    | tuple ds =>
      have hf' : (if ds.length = n then g ds ρ else none) = some ρ' := hf
      by_cases e : ds.length = n
      · rw [if_pos e] at hf'
        exact h.out _ _ _ hf'
      · rw [if_neg e] at hf'
        cases hf'
    | _ => cases hf
/-- target = e -/
def sAsg (g : Gf) (f : Ef) : Sf := fun ρ => (f ρ).bind fun a => (g a.1 a.2).map .nx
theorem sg_asg {tg : Expr} {ws : List Nat} {g : Gf} (h : EG X m .k e fe) (hg : GG X ws tg g) (hs : swapsWithSole [tg] e pos.line X.env = pure false := by rfl) (hw : swappedStores [tg] e X.env = pure none := by rfl)
    (h1 : (assignEach [tg] X.env).map (·.2) = [assign tg X.env] := by rfl) : SG X kr (.Assign [tg] e pos) (sAsg g fe) := by
  obtain ⟨t, ht1, ht2⟩ := h.ex
  obtain ⟨tg', hg1, hg2⟩ := hg.ex
  refine ⟨_, ps_asg ht1 hg1 hs hw h1, fun F σ H ρ o E R hf k => ?_⟩
  obtain ⟨⟨d, ρ1⟩, e1, e2⟩ := Option.bind_eq_some_iff.mp hf
  obtain ⟨ρ2, e3, e4⟩ := Option.map_eq_some_iff.mp e2
  cases e4
  refine ht2 F σ H ρ d ρ1 _ R e1 fun v H' p r => ?_
  exact hg2 F σ H' ρ1 ρ2 v d _ p.rl r.vr e3 fun σ' R' ev' _ => k σ' H' R' (p.ev.trans ev')
/-- a, b = x, y: both values first -/
def sPar (i j : Nat) (f : Af) : Sf := fun ρ => (f ρ).bind fun a => match a.1 with
  | [x, y] => (setP i x a.2).bind fun ρ1 => (setP j y ρ1).map .nx
  | _ => none
theorem sg_par {i j : Nat} {x y : Str} {a b : Expr} {fa : Af} {px py pt : Pos} {kt k2 pt2} (hc : X.calm = true) (hN : X.N.Nodup) (hi : X.N[i]? = some x) (hj : X.N[j]? = some y) (hij : i ≠ j)
    (hx : X.env.scope.names.lookup x = some .local) (hy : X.env.scope.names.lookup y = some .local) (ha : AG X m [a, b] fa)
    (hw : swappedStores [.Tuple [.Name x px, .Name y py] kt pt] (.Tuple [a, b] k2 pt2) X.env = pure (some [x, y])) (hs : swapsWithSole [.Tuple [.Name x px, .Name y py] kt pt] (.Tuple [a, b] k2 pt2) pos.line X.env = pure false := by rfl) :
    SG X kr (.Assign [.Tuple [.Name x px, .Name y py] kt pt] (.Tuple [a, b] k2 pt2) pos) (sPar i j fa) := by
  obtain ⟨t, h1, h2⟩ := ha.ex
  refine ⟨_, ps_par hc hN hi hj hij hx hy h1 hw hs, fun F σ H ρ o E R hf k => ?_⟩
  obtain ⟨⟨ds, ρ1⟩, e1, e2⟩ := Option.bind_eq_some_iff.mp hf
  refine h2 F σ H ρ ds ρ1 _ R e1 fun vs H' p r => ?_
  cases r with
  | nil => cases e2
  | cons r1 r =>
    cases r with
    | nil => cases e2
    | cons r2 r =>
      cases r with
      | cons _ _ => cases e2
      | nil =>
        obtain ⟨ρ2, e3, e4⟩ := Option.bind_eq_some_iff.mp e2
        obtain ⟨ρ3, e5, e6⟩ := Option.map_eq_some_iff.mp e4
        cases e6
        obtain ⟨R2, ev2⟩ := p.rl.setPure e3 r1
        obtain ⟨R3, ev3⟩ := R2.setPure e5 (Dn.mono ev2.kept r2)
        exact ⟨_, _, rfl, k _ _ R3 ((p.ev.trans ev2).trans ev3)⟩
end
end DL
namespace DL
open L2 PyProof.Rows PySem PySem.Spec
/-! ## what is walked -/
structure ItOk (K : Fg) (bw : Bool) (G' H' : Hp) (J : It) (ds : List D) : Prop where
  go : ∀ i H2 O2, Same G' (hide H2 O2) → (bw = true → Same H' H2) → i < ds.length → J.go i H2
  stop : ∀ i H2 O2, Same G' (hide H2 O2) → (bw = true → Same H' H2) → ds.length ≤ i → J.stop i H2
  yld : ∀ i H2 O2 x H3, Same G' (hide H2 O2) → (bw = true → Same H' H2) → (∀ a, O2 a → H2 a ≠ none) → i < ds.length → J.yld i H2 x H3 → Same H2 H3 ∧ ∃ d, ds[i]? = some d ∧ Dn K (hide H3 O2) x d
structure IG (X : Cx) (m bw : Bool) (tg iter : Expr) (f : Af) : Prop where
  ex : ∃ wi : TI, PI X tg iter wi ∧ ∀ (F : Fx) (σ : L2.St) (H : Hp) (ρ : Rho) (ds : List D) (ρ' : Rho) (R : It → Hp → Prop), Rl X.K F σ H ρ → f ρ = some (ds, ρ') →
    (∀ J H', Po X.K F m σ H ρ H' ρ' → ItOk X.K bw (hide H' (Ow F σ ρ')) H' J ds → R J H') → wi σ H R
theorem IG.cong {X : Cx} {m bw : Bool} {tg iter : Expr} {f f' : Af} (h : IG X m bw tg iter f) (q : f' = f) : IG X m bw tg iter f' := by rw [q]; exact h
def chars (x : Str) : List D := x.cps.toList.map fun c => .str ⟨#[c]⟩
/-- the items of what can be walked -/
def items : D → Option (List D)
  | .list ds => some ds
  | .tuple ds => some ds
  | .str x => some (chars x)
  | _ => none
def iAny (K : Fg) (tl : TE) : TI := fun σ H R => tl σ H fun x H1 => (∃ a xs, x = .ref a ∧ SqL K H1 a xs ∧ R (Itl K a) H1) ∨ (∃ a xs, x = .ref a ∧ SqT K H1 a xs ∧ R (Itt K a) H1) ∨ ∃ z, x = .str z ∧ R (Its z) H1
theorem pi_any {X : Cx} {tg l : Expr} {tl : TE} (hl : PE X l tl) : PI X tg l (iAny X.K tl) := by
  refine ⟨fun pins s σ H R I h => thn (hl.run pins s σ H _ I h) fun v s1 ⟨x, H1, I1, r1, q1⟩ => ?_⟩
  rcases q1 with ⟨a, xs, e, hq, q⟩ | ⟨a, xs, e, hq, q⟩ | ⟨z, e, q⟩ <;> subst e
  · cases r1
    obtain ⟨its, rv, p, hz⟩ := I1.list hq
    exact wpAny_pyIter_list p.isList (pi_one (tk := s1.toks) I1 _ (turn_list a _) ⟨_, Heap.get?_push_size _ rfl, rfl, rfl⟩ q)
  · cases r1
    obtain ⟨its, rv, p, hz⟩ := I1.tuple hq
    exact wpAny_pyIter_tuple (show s1.heap.IsTuple a its.toArray from p) (pi_one (tk := s1.toks) I1 _ (turn_tuple a _) ⟨_, Heap.get?_push_size _ rfl, rfl, rfl⟩ q)
  · obtain ⟨t, rfl⟩ := r1
    cases ha : z.cps.all (· < 128)
    · exact wpAny_pyIter_wide ha (pi_one (tk := s1.toks) I1 _ (turn_str _ z t "str_iterator" (.inr rfl)) ⟨_, Heap.get?_push_size _ rfl, rfl, rfl⟩ q)
    · exact wpAny_pyIter_ascii ha (pi_one (tk := s1.toks) I1 _ (turn_str _ z t "str_ascii_iterator" (.inl rfl)) ⟨_, Heap.get?_push_size _ rfl, rfl, rfl⟩ q)
def seqI (f : Ef) : Af := fun ρ => (f ρ).bind fun a => (items a.1).map fun r => (r, a.2)
def puI (f : Rho → Option D) : Rho → Option (List D) := fun ρ => (f ρ).bind items
theorem seqI_lift (f : Rho → Option D) : seqI (lift f) = liftA (puI f) := by funext ρ; unfold seqI lift liftA puI; cases f ρ <;> simp
def isB : Kd → Bool
  | .b => true
  | _ => false
theorem itOk_list {K : Fg} {bw : Bool} {G' H' : Hp} {a : Addr} {xs : List V} {ds : List D} (hq : ∀ H2 O2, Same G' (hide H2 O2) → (bw = true → Same H' H2) → SqL K H2 a xs) (t : DnL K G' xs ds) : ItOk K bw G' H' (Itl K a) ds where
  go := fun i H2 O2 g b hi => by
    obtain ⟨u, h1, _⟩ := t.get (List.getElem?_eq_getElem hi)
    exact ⟨xs, u, hq H2 O2 g b, h1⟩
  stop := fun i H2 O2 g b hi => ⟨xs, hq H2 O2 g b, by rw [t.length]; exact hi⟩
  yld := fun i H2 O2 x H3 g b _ hi y => by
    obtain ⟨e, y⟩ := y
    subst e
    obtain ⟨u, h1, h2⟩ := t.get (List.getElem?_eq_getElem hi)
    have e := y xs (hq H3 O2 g b)
    rw [h1] at e
    cases e
    exact ⟨.refl _, ds[i], List.getElem?_eq_getElem hi, h2.mono g⟩
theorem itOk_tup {K : Fg} {bw : Bool} {G' H' : Hp} {a : Addr} {xs : List V} {ds : List D} (hq : ∀ H2 O2, Same G' (hide H2 O2) → (bw = true → Same H' H2) → SqT K H2 a xs) (t : DnL K G' xs ds) : ItOk K bw G' H' (Itt K a) ds where
  go := fun i H2 O2 g b hi => by
    obtain ⟨u, h1, _⟩ := t.get (List.getElem?_eq_getElem hi)
    exact ⟨xs, u, hq H2 O2 g b, h1⟩
  stop := fun i H2 O2 g b hi => ⟨xs, hq H2 O2 g b, by rw [t.length]; exact hi⟩
  yld := fun i H2 O2 x H3 g b _ hi y => by
    obtain ⟨e, y⟩ := y
    subst e
    obtain ⟨u, h1, h2⟩ := t.get (List.getElem?_eq_getElem hi)
    have e := y xs (hq H3 O2 g b)
    rw [h1] at e
    cases e
    exact ⟨.refl _, ds[i], List.getElem?_eq_getElem hi, h2.mono g⟩
theorem itOk_str {K : Fg} {bw : Bool} {G' H' : Hp} {z : Str} : ItOk K bw G' H' (Its z) (chars z) where
  go := fun i H2 O2 g b hi => by
    have hi : i < z.cps.size := by simpa [chars] using hi
    exact hi
  stop := fun i H2 O2 g b hi => by
    have hi : z.cps.size ≤ i := by simpa [chars] using hi
    exact hi
  yld := fun i H2 O2 x H3 g b _ hi y => by
    obtain ⟨e, c, hc, hx⟩ := y
    subst e hx
    refine ⟨.refl _, .str ⟨#[c]⟩, ?_, .str _⟩
    unfold chars
    rw [List.getElem?_map, Array.getElem?_toList, hc]
    rfl
theorem seqT_sub {K : Fg} {H H' : Hp} {a : Addr} {xs : List V} (e : Same H H') (h : SqT K H a xs) : SqT K H' a xs := by
  rcases h with (h | ⟨o, h⟩) | h
  · exact .inl (.inl (e _ _ h))
  · exact .inl (.inr ⟨o, e _ _ h⟩)
  · exact .inr h
section
variable {X : Cx} {m : Bool} {kd : Kd} {tg e : Expr} {fe : Ef}
theorem it_kept {bw : Bool} {G H' : Hp} {R : It → Hp → Prop} {d : D} {ds : List D} {v : V} (hG : Same G H') (hd : Dn X.K G v d) (hi : items d = some ds) (k : ∀ J, ItOk X.K bw G H' J ds → R J H') :
    (∃ a xs, v = .ref a ∧ SqL X.K H' a xs ∧ R (Itl X.K a) H') ∨ (∃ a xs, v = .ref a ∧ SqT X.K H' a xs ∧ R (Itt X.K a) H') ∨ ∃ z, v = .str z ∧ R (Its z) H' := by
  cases hd with
  | lst q t => cases hi; exact .inl ⟨_, _, rfl, hG.seq q, k _ (itOk_list (fun H2 O2 g _ => hide_sub.seq (g.seq q)) t)⟩
  | tup q t => cases hi; exact .inr (.inl ⟨_, _, rfl, .of (hG _ _ q), k _ (itOk_tup (fun H2 O2 g _ => .of (hide_sub _ _ (g _ _ q))) t)⟩)
  | str z => cases hi; exact .inr (.inr ⟨z, rfl, k _ itOk_str⟩)
  | _ => cases hi
theorem it_borrowed {H' : Hp} {O : Ad} {R : It → Hp → Prop} {d : D} {ds : List D} {v : V} (hd : Bw X.K O H' v d) (hi : items d = some ds) (k : ∀ J, ItOk X.K true (hide H' O) H' J ds → R J H') :
    (∃ a xs, v = .ref a ∧ SqL X.K H' a xs ∧ R (Itl X.K a) H') ∨ (∃ a xs, v = .ref a ∧ SqT X.K H' a xs ∧ R (Itt X.K a) H') ∨ ∃ z, v = .str z ∧ R (Its z) H' := by
  cases d with
  | list ds' => cases hi; obtain ⟨a, xs, e, q, t⟩ := hd.list; exact .inl ⟨a, xs, e, q, k _ (itOk_list (fun H2 O2 g b => (b rfl).seq q) t)⟩
  | tuple ds' => cases hi; obtain ⟨a, xs, e, q, t⟩ := hd.tuple; exact .inr (.inl ⟨a, xs, e, .of (hide_sub _ _ q), k _ (itOk_tup (fun H2 O2 g b => .of (b rfl _ _ (hide_sub _ _ q))) t)⟩)
  | str z => cases hi; exact .inr (.inr ⟨z, hd.str, k _ itOk_str⟩)
  | _ => cases hi
/-- a list, a tuple, a text; a borrowed one for what changes nothing -/
theorem ig_any (h : EG X m kd e fe) : IG X m (isB kd) tg e (seqI fe) := by
  obtain ⟨t, h1, h2⟩ := h.ex
  refine ⟨_, pi_any h1, fun F σ H ρ ds ρ' R Rr hf k => ?_⟩
  obtain ⟨⟨d, ρ1⟩, e1, e2⟩ := Option.bind_eq_some_iff.mp hf
  obtain ⟨r, e3, e4⟩ := Option.map_eq_some_iff.mp e2
  cases e4
  refine h2 F σ H ρ d ρ1 _ Rr e1 fun v H' p r => ?_
  cases kd with
  | k => exact it_kept hide_sub r.vr e3 fun J ok => k J H' p ok
  | f => exact it_kept hide_sub (Vr.weak r.vr) e3 fun J ok => k J H' p ok
  | b => exact it_borrowed r.vr e3 fun J ok => k J H' p ok
theorem ip_any {g : Rho → Option D} (h : EP X kd e g) : IG X true (isB kd) tg e (liftA (puI g)) := (ig_any h).cong (seqI_lift g).symm
/-! ranges -/
def bnd (i : Int) : Bool := Nat.blt i.natAbs 4611686018427387904
theorem bnd_iff {i : Int} : bnd i = true ↔ -(2 ^ 62) < i ∧ i < 2 ^ 62 := by
  unfold bnd
  rw [Nat.blt_eq]
  omega
theorem bnd_of {i : Int} (h : bnd i = true) : -(2 ^ 62) ≤ i ∧ i < 2 ^ 62 := by
  have := bnd_iff.mp h
  exact ⟨Int.le_of_lt this.1, this.2⟩
def rgI (lo : Int) (n : Nat) : List D := (List.range n).map fun i => .int (lo + (i : Nat))
def rgC (lo c : Int) (n : Nat) : List D := (List.range n).map fun i => .int (lo + (i : Nat) * c)
/-- range(..): one or two rgI, or downward by ones -/
def rng : List D → Option (List D)
  | [.int j] => if bnd j = true then some (rgI 0 j.toNat) else none
  | [.int i, .int j] => if (bnd i && bnd j) = true then some (rgI i (j - i).toNat) else none
  | [.int i, .int j, .int c] => if (bnd i && bnd j && decide (c = -1)) = true then some (rgC i (-1) (i - j).toNat) else none
  | _ => none
theorem itOk_range {K : Fg} {bw : Bool} {G' H' : Hp} {lo : Int} {n : Nat} : ItOk K bw G' H' (Itr lo n) (rgI lo n) where
  go := fun i H2 O2 g b hi => by
    have hi : i < n := by simpa [rgI] using hi
    exact hi
  stop := fun i H2 O2 g b hi => by
    have hi : n ≤ i := by simpa [rgI] using hi
    exact hi
  yld := fun i H2 O2 x H3 g b _ hi y => by
    have hi : i < n := by simpa [rgI] using hi
    obtain ⟨e, y⟩ := y
    subst e y
    exact ⟨.refl _, .int (lo + i), by simp [rgI, hi], .int _⟩
theorem itOk_rangeC {K : Fg} {bw : Bool} {G' H' : Hp} {lo c : Int} {n : Nat} : ItOk K bw G' H' (Itc lo c n) (rgC lo c n) where
  go := fun i H2 O2 g b hi => by
    have hi : i < n := by simpa [rgC] using hi
    exact hi
  stop := fun i H2 O2 g b hi => by
    have hi : n ≤ i := by simpa [rgC] using hi
    exact hi
  yld := fun i H2 O2 x H3 g b _ hi y => by
    have hi : i < n := by simpa [rgC] using hi
    obtain ⟨e, y⟩ := y
    subst e y
    exact ⟨.refl _, .int (lo + i * c), by simp [rgC, hi], .int _⟩
def seqR (f : Af) : Af := fun ρ => (f ρ).bind fun a => (rng a.1).map fun r => (r, a.2)
def puR (f : Rho → Option (List D)) : Rho → Option (List D) := fun ρ => (f ρ).bind rng
theorem seqR_lift (f : Rho → Option (List D)) : seqR (liftA f) = liftA (puR f) := by funext ρ; unfold seqR liftA puR; cases f ρ <;> simp
theorem dnl1 {K : Fg} {G : Hp} {vs : List V} {i : Int} (h : DnL K G vs [.int i]) : vs = [.int i] := by
  cases h with
  | cons h t => cases h; cases t; rfl
theorem dnl2 {K : Fg} {G : Hp} {vs : List V} {i j : Int} (h : DnL K G vs [.int i, .int j]) : vs = [.int i, .int j] := by
  cases h with
  | cons h t => cases h; rw [dnl1 t]
theorem dnl3 {K : Fg} {G : Hp} {vs : List V} {i j c : Int} (h : DnL K G vs [.int i, .int j, .int c]) : vs = [.int i, .int j, .int c] := by
  cases h with
  | cons h t => cases h; rw [dnl2 t]
variable {p pos : Pos} {a b c : Expr} {f : Af}
theorem ig_range1 (hg : Gl X "range") (hm : X.mg "range" = none) (h : AG X m [a] f) (hs : starEach [a] X.env = [(false, eval a X.env)] := by rfl) : IG X m false tg (.Call (.Name "range" p) [a] [] pos) (seqR f) := by
  obtain ⟨t, h1, h2⟩ := h.ex
  refine ⟨_, pi_range1 hg hm h1 hs, fun F σ H ρ ds ρ' R Rr hf k => ?_⟩
  obtain ⟨⟨es, ρ1⟩, e1, e2⟩ := Option.bind_eq_some_iff.mp hf
  obtain ⟨r, e3, e4⟩ := Option.map_eq_some_iff.mp e2
  cases e4
  have hl := h.len _ _ _ e1
  refine h2 F σ H ρ es ρ1 _ Rr e1 fun vs H' p r => ?_
  match es, hl with
  | [x], _ =>
    cases x with
    | int j =>
      have e3' : (if bnd j = true then some (rgI 0 j.toNat) else none) = some ds := e3
      by_cases hb : bnd j = true
      · rw [if_pos hb] at e3'
        cases e3'
        obtain ⟨b1, b2⟩ := bnd_of hb
        exact ⟨j, dnl1 r, b1, b2, k _ H' p itOk_range⟩
      · rw [if_neg hb] at e3'
        cases e3'
    | _ => cases e3
theorem ig_range2 (hg : Gl X "range") (hm : X.mg "range" = none) (h : AG X m [a, b] f) (hs : starEach [a, b] X.env = [(false, eval a X.env), (false, eval b X.env)] := by rfl) (hs2 : starEach [b] X.env = [(false, eval b X.env)] := by rfl) : IG X m false tg (.Call (.Name "range" p) [a, b] [] pos) (seqR f) := by
  obtain ⟨t, h1, h2⟩ := h.ex
  refine ⟨_, pi_range2 hg hm h1 hs hs2, fun F σ H ρ ds ρ' R Rr hf k => ?_⟩
  obtain ⟨⟨es, ρ1⟩, e1, e2⟩ := Option.bind_eq_some_iff.mp hf
  obtain ⟨r, e3, e4⟩ := Option.map_eq_some_iff.mp e2
  cases e4
  have hl := h.len _ _ _ e1
  refine h2 F σ H ρ es ρ1 _ Rr e1 fun vs H' p r => ?_
  match es, hl with
  | [x, y], _ =>
    cases x with
    | int i =>
      cases y with
      | int j =>
        have e3' : (if (bnd i && bnd j) = true then some (rgI i (j - i).toNat) else none) = some ds := e3
        by_cases hb : (bnd i && bnd j) = true
        · rw [if_pos hb] at e3'
          cases e3'
          obtain ⟨z1, z2⟩ := Bool.and_eq_true_iff.mp hb
          obtain ⟨b1, b2⟩ := bnd_of z1
          obtain ⟨b3, b4⟩ := bnd_of z2
          exact ⟨i, j, dnl2 r, ⟨b1, b2, b3, b4⟩, k _ H' p itOk_range⟩
        · rw [if_neg hb] at e3'
          cases e3'
      | _ => cases e3
    | _ => cases e3
theorem ig_range3 (hg : Gl X "range") (hm : X.mg "range" = none) (h : AG X m [a, b, c] f) (hs : starEach [a, b, c] X.env = (false, eval a X.env) :: starEach [b, c] X.env := by rfl) (hpl : (backTo pos (starEach [b, c] X.env)).any (·.1) = false := by rfl) :
    IG X m false tg (.Call (.Name "range" p) [a, b, c] [] pos) (seqR f) := by
  obtain ⟨t, h1, h2⟩ := h.ex
  refine ⟨_, pi_range3 hg hm h1 hs hpl, fun F σ H ρ ds ρ' R Rr hf k => ?_⟩
  obtain ⟨⟨es, ρ1⟩, e1, e2⟩ := Option.bind_eq_some_iff.mp hf
  obtain ⟨r, e3, e4⟩ := Option.map_eq_some_iff.mp e2
  cases e4
  have hl := h.len _ _ _ e1
  refine h2 F σ H ρ es ρ1 _ Rr e1 fun vs H' p r => ?_
  match es, hl with
  | [x, y, z], _ =>
    cases x with
    | int i =>
      cases y with
      | int j =>
        cases z with
        | int c =>
          have e3' : (if (bnd i && bnd j && decide (c = -1)) = true then some (rgC i (-1) (i - j).toNat) else none) = some ds := e3
          by_cases hb : (bnd i && bnd j && decide (c = -1)) = true
          · rw [if_pos hb] at e3'
            cases e3'
            obtain ⟨z1, z3⟩ := Bool.and_eq_true_iff.mp hb
            obtain ⟨z1, z2⟩ := Bool.and_eq_true_iff.mp z1
            obtain ⟨b1, b2⟩ := bnd_of z1
            obtain ⟨b3, b4⟩ := bnd_of z2
            have z3 := of_decide_eq_true z3
            subst z3
            exact ⟨i, j, -1, (i - j).toNat, dnl3 r, .neg b1 b2 b3 b4, k _ H' p itOk_rangeC⟩
          · rw [if_neg hb] at e3'
            cases e3'
        | _ => cases e3
      | _ => cases e3
    | _ => cases e3
end
/-! ## for -/
def forS (g : Gf) (b : Sf) : List D → Sf
  | [] => fun ρ => some (.nx ρ)
  | d :: ds => fun ρ => (g d ρ).bind fun ρ1 => (b ρ1).bind fun o => match o with
    | .nx ρ2 => forS g b ds ρ2
    | .ct ρ2 => forS g b ds ρ2
    | .bk ρ2 => some (.nx ρ2)
    | .rt d ρ2 => some (.rt d ρ2)
def sFor (it : Af) (g : Gf) (b : Sf) : Sf := fun ρ => (it ρ).bind fun a => forS g b a.1 a.2
section
variable {X : Cx} {kr : Kd} {m : Bool} {pos : Pos}
theorem sg_for {tg iter : Expr} {body : List Stmt} {it : Af} {g : Gf} {b : Sf} {ws : List Nat} (hp : PassesOwn (model X.prog X.w) X.A X.env X.xe) (hc : X.calm = true) (hi : IG X m false tg iter it) (hg : GG X ws tg g) (hb : SB X kr body b)
    (hs : ∀ x, foldedSetIterable iter X.env x = pure x := by intro _; rfl) : SG X kr (.For tg iter body [] pos) (sFor it g b) := by
  obtain ⟨wi, hi1, hi2⟩ := hi.ex
  obtain ⟨tg', hg1, hg2⟩ := hg.ex
  obtain ⟨tb, hb1, hb2⟩ := hb.ex
  refine ⟨_, ps_for hp hc hi1 hg1 hb1 hs, fun F σ H ρ o E R hf k => ?_⟩
  obtain ⟨⟨ds, ρ1⟩, e1, e2⟩ := Option.bind_eq_some_iff.mp hf
  refine hi2 F σ H ρ ds ρ1 _ R e1 fun J H1 p ok => ?_
  refine ⟨fun i n σ2 H2 => n = ds.length - i ∧ i ≤ ds.length ∧ ∃ ρ2, Rl X.K F σ2 H2 ρ2 ∧ Evo F σ H1 ρ1 σ2 H2 ρ2 ∧ forS g b (ds.drop i) ρ2 = some o, ⟨_, rfl, Nat.zero_le _, ρ1, p.rl, .refl, e2⟩, ?_⟩
  rintro i n σ2 H2 ⟨rfl, hle, ρ2, R2, ev2, hf2⟩
  have nb : (false = true → Same H1 H2) := fun z => by cases z
  by_cases hlt : i < ds.length
  · refine .inr ⟨ok.go i H2 _ ev2.kept nb hlt, ?_⟩
    rw [List.drop_eq_getElem_cons hlt] at hf2
    obtain ⟨ρ3, e3, e4⟩ := Option.bind_eq_some_iff.mp hf2
    obtain ⟨o1, e5, e6⟩ := Option.bind_eq_some_iff.mp e4
    refine ⟨fun σ' H' => ∃ ρ', Rl X.K F σ' H' ρ' ∧ Evo F σ H1 ρ1 σ' H' ρ' ∧ forS g b (ds.drop (i + 1)) ρ' = some o, fun σ' H' ⟨ρ', q1, q2, q3⟩ => ⟨ds.length - (i + 1), by omega, rfl, hlt, ρ', q1, q2, q3⟩, fun x H3 y => ?_⟩
    obtain ⟨s3, d, ed, dn⟩ := ok.yld i H2 _ x H3 ev2.kept nb R2.domO hlt y
    rw [List.getElem?_eq_getElem hlt] at ed
    cases ed
    have R3 := R2.grow s3
    have ev3 : Evo F σ H1 ρ1 σ2 H3 ρ2 := ev2.trans (R2.evo s3)
    refine hg2 F σ2 H3 ρ2 ρ3 x _ _ R3 dn e3 fun σ4 R4 ev4 _ => ?_
    refine hb2 F σ4 H3 ρ3 o1 _ R4 e5 ?_
    have ev5 : Evo F σ H1 ρ1 σ4 H3 ρ3 := ev3.trans ev4
    cases o1 with
    | nx ρ5 => exact fun σ' H' R' e => ⟨ρ5, R', ev5.trans e, e6⟩
    | ct ρ5 => exact fun σ' H' R' e => ⟨ρ5, R', ev5.trans e, e6⟩
    | bk ρ5 =>
      cases e6
      exact fun σ' H' R' e => k σ' H' R' ((p.ev.trans ev5).trans e)
    | rt d ρ5 =>
      cases e6
      exact fun v σ' H' R' e r => k v σ' H' R' ((p.ev.trans ev5).trans e) r
  · have ei : i = ds.length := by omega
    subst ei
    rw [List.drop_length] at hf2
    cases hf2
    exact .inl ⟨ok.stop _ H2 _ ev2.kept nb (Nat.le_refl _), k σ2 H2 R2 (p.ev.trans ev2)⟩
/-! ## while -/
def whileS (c : Tf) (b : Sf) : Nat → Sf
  | 0 => fun _ => none
  | n + 1 => fun ρ => (c ρ).bind fun t => if t.1 = true then (b t.2).bind fun o => match o with
    | .nx ρ2 => whileS c b n ρ2
    | .ct ρ2 => whileS c b n ρ2
    | .bk ρ2 => some (.nx ρ2)
    | .rt d ρ2 => some (.rt d ρ2)
    else some (.nx t.2)
def whileX (c : Tf) (b : Sf) (ρ : Rho) : Option Out := do
  let t ← c ρ
  if t.1 = true then do
    let o ← b t.2
    match o with
    | .nx ρ2 => whileX c b ρ2
    | .ct ρ2 => whileX c b ρ2
    | .bk ρ2 => some (.nx ρ2)
    | .rt d ρ2 => some (.rt d ρ2)
  else some (.nx t.2)
partial_fixpoint
theorem whileX_ends {c : Tf} {b : Sf} {ρ : Rho} {o : Out} (h : whileX c b ρ = some o) : ∃ n, whileS c b n ρ = some o := by
  refine whileX.partial_correctness c b (fun ρ o => ∃ n, whileS c b n ρ = some o) ?_ ρ o h
  intro f ih ρ o h
  obtain ⟨⟨t, ρ1⟩, e1, e2⟩ := Option.bind_eq_some_iff.mp h
  cases t with
  | false =>
    refine ⟨1, ?_⟩
    show (c ρ).bind _ = some o
    rw [e1]
    exact e2
  | true =>
    have e2' : ((b ρ1).bind fun o => match o with
      | .nx ρ2 => f ρ2
      | .ct ρ2 => f ρ2
      | .bk ρ2 => some (.nx ρ2)
      | .rt d ρ2 => some (.rt d ρ2)) = some o := e2
    obtain ⟨o1, e3, e4⟩ := Option.bind_eq_some_iff.mp e2'
    cases o1 with
    | nx ρ2 =>
      obtain ⟨n, hn⟩ := ih ρ2 o e4
      refine ⟨n + 1, ?_⟩
      show (c ρ).bind _ = some o
      rw [e1]
      show (b ρ1).bind _ = some o
      rw [e3]
      exact hn
    | ct ρ2 =>
      obtain ⟨n, hn⟩ := ih ρ2 o e4
      refine ⟨n + 1, ?_⟩
      show (c ρ).bind _ = some o
      rw [e1]
      show (b ρ1).bind _ = some o
      rw [e3]
      exact hn
    | bk ρ2 =>
      refine ⟨1, ?_⟩
      show (c ρ).bind _ = some o
      rw [e1]
      show (b ρ1).bind _ = some o
      rw [e3]
      exact e4
    | rt d ρ2 =>
      refine ⟨1, ?_⟩
      show (c ρ).bind _ = some o
      rw [e1]
      show (b ρ1).bind _ = some o
      rw [e3]
      exact e4
theorem sg_while {c : Expr} {body : List Stmt} {t : Tf} {b : Sf} (hp : PassesOwn (model X.prog X.w) X.A X.env X.xe) (hc : TG X m c t) (hb : SB X kr body b) : SG X kr (.While c body [] pos) (whileX t b) := by
  obtain ⟨tc, hc1, hc2⟩ := hc.ex
  obtain ⟨tb, hb1, hb2⟩ := hb.ex
  refine ⟨_, ps_while hp hc1 hb1, fun F σ H ρ o E R hf k => ?_⟩
  obtain ⟨n, hn⟩ := whileX_ends hf
  refine ⟨fun n σ2 H2 => ∃ ρ2, Rl X.K F σ2 H2 ρ2 ∧ Evo F σ H ρ σ2 H2 ρ2 ∧ whileS t b n ρ2 = some o, ⟨n, ρ, R, .refl, hn⟩, ?_⟩
  rintro n σ2 H2 ⟨ρ2, R2, ev2, hf2⟩
  cases n with
  | zero => cases hf2
  | succ n =>
    obtain ⟨⟨x, ρ3⟩, e1, e2⟩ := Option.bind_eq_some_iff.mp hf2
    refine hc2 F σ2 H2 ρ2 x ρ3 _ R2 e1 fun H3 p3 => ?_
    cases x with
    | false =>
      rw [if_neg Bool.false_ne_true] at e2 ⊢
      cases e2
      exact k σ2 H3 p3.rl (ev2.trans p3.ev)
    | true =>
      rw [if_pos rfl] at e2 ⊢
      obtain ⟨o1, e3, e4⟩ := Option.bind_eq_some_iff.mp e2
      refine ⟨fun σ' H' => ∃ ρ', Rl X.K F σ' H' ρ' ∧ Evo F σ H ρ σ' H' ρ' ∧ whileS t b n ρ' = some o, fun σ' H' ⟨ρ', q1, q2, q3⟩ => ⟨n, Nat.lt_succ_self n, ρ', q1, q2, q3⟩, ?_⟩
      refine hb2 F σ2 H3 ρ3 o1 _ p3.rl e3 ?_
      have ev5 : Evo F σ H ρ σ2 H3 ρ3 := ev2.trans p3.ev
      cases o1 with
      | nx ρ5 => exact fun σ' H' R' e => ⟨ρ5, R', ev5.trans e, e4⟩
      | ct ρ5 => exact fun σ' H' R' e => ⟨ρ5, R', ev5.trans e, e4⟩
      | bk ρ5 => cases e4; exact fun σ' H' R' e => k σ' H' R' (ev5.trans e)
      | rt d ρ5 => cases e4; exact fun v σ' H' R' e r => k v σ' H' R' (ev5.trans e) r
end
end DL
namespace DL
open L2 PyProof.Rows PySem PySem.Spec
/-! ## the readings as the pure meanings themselves -/
def canE (K : Fg) (m : Bool) (kd : Kd) (f : Ef) : TE := fun σ H Q => ∃ F ρ d ρ', Rl K F σ H ρ ∧ f ρ = some (d, ρ') ∧ ∀ v H', Po K F m σ H ρ H' ρ' → Er K F σ ρ' kd H H' v d → Q v H'
def canT (K : Fg) (m : Bool) (f : Tf) : L2.TT := fun σ H Q => ∃ F ρ d ρ', Rl K F σ H ρ ∧ f ρ = some (d, ρ') ∧ ∀ H', Po K F m σ H ρ H' ρ' → Q d H'
def canG (K : Fg) (ws : List Nat) (f : Gf) : L2.TG := fun v σ H Q => ∃ F ρ d ρ', Rl K F σ H ρ ∧ Dn K (hide H (Ow F σ ρ)) v d ∧ f d ρ = some ρ' ∧
  ∀ σ', Rl K F σ' H ρ' → Evo F σ H ρ σ' H ρ' → (∀ j, j ∉ ws → σ'[j]? = σ[j]?) → Q σ' H
theorem EG.can {X : Cx} {m : Bool} {kd : Kd} {e : Expr} {f : Ef} (h : EG X m kd e f) : PE X e (canE X.K m kd f) := by
  obtain ⟨t, h1, h2⟩ := h.ex
  exact ⟨fun pins s σ H Q I ⟨F, ρ, d, ρ', R, hf, k⟩ => h1.run pins s σ H Q I (h2 F σ H ρ d ρ' Q R hf k)⟩
theorem GG.can {X : Cx} {ws : List Nat} {e : Expr} {f : Gf} (h : GG X ws e f) : PG X e (canG X.K ws f) := by
  obtain ⟨t, h1, h2⟩ := h.ex
  exact ⟨fun pins s σ H v u Q I r ⟨F, ρ, d, ρ', R, hd, hf, k⟩ => h1.run pins s σ H v u Q I r (h2 F σ H ρ ρ' v d Q R hd hf k)⟩
/-- the tests of a comprehension -/
structure TsG (X : Cx) (m : Bool) (ifs : List Expr) (f : Tf) : Prop where
  ex : ∃ t : L2.TT, PTs X ifs t ∧ ∀ (F : Fx) (σ : L2.St) (H : Hp) (ρ : Rho) (b : Bool) (ρ' : Rho) (Q : Bool → Hp → Prop), Rl X.K F σ H ρ → f ρ = some (b, ρ') →
    (∀ H', Po X.K F m σ H ρ H' ρ' → Q b H') → t σ H Q
theorem TsG.can {X : Cx} {m : Bool} {ifs : List Expr} {f : Tf} (h : TsG X m ifs f) : PTs X ifs (canT X.K m f) := by
  obtain ⟨t, h1, h2⟩ := h.ex
  exact ⟨fun pins s σ H Q I ⟨F, ρ, d, ρ', R, hf, k⟩ => h1.run pins s σ H Q I (h2 F σ H ρ d ρ' Q R hf k)⟩
def tsN : Rho → Option Bool := fun _ => some true
theorem ts_nil {X : Cx} : TsG X true [] (liftT tsN) := ⟨_, pts_nil, fun F σ H ρ b ρ' Q R hf k => by
  obtain ⟨h, rfl⟩ := liftT_some.mp hf
  cases h
  exact k H (.refl R)⟩
theorem ts_one {X : Cx} {m : Bool} {c : Expr} {f : Tf} (h : TG X m c f) : TsG X m [c] f := by
  obtain ⟨t, h1, h2⟩ := h.ex
  exact ⟨t, pts_one h1, h2⟩
/-! ## the block's own slots -/
def unw (ρ : Rho) : List Nat → Rho
  | [] => ρ
  | v :: vs => (unw ρ vs).set v .un
def rst (ρ0 ρ : Rho) : List Nat → Rho
  | [] => ρ
  | v :: vs => (rst ρ0 ρ vs).set v (ρ0.getD v .un)
def free (vs : List Nat) (ρ : Rho) : Bool := vs.all fun v => match ρ[v]? with
  | some s => !s.own
  | none => false
theorem free_at {vs : List Nat} {ρ : Rho} (h : free vs ρ = true) {v : Nat} (hv : v ∈ vs) : ∃ s, ρ[v]? = some s ∧ s.own = false := by
  have := List.all_eq_true.mp h v hv
  split at this
  · rename_i s e
    exact ⟨s, e, by simpa using this⟩
  · cases this
theorem unw_length (ρ : Rho) : ∀ vs, (unw ρ vs).length = ρ.length
  | [] => rfl
  | v :: vs => by simp [unw, unw_length ρ vs]
theorem unw_out {ρ : Rho} {j : Nat} : ∀ {vs : List Nat}, j ∉ vs → (unw ρ vs)[j]? = ρ[j]?
  | [], _ => rfl
  | v :: vs, h => by
    unfold unw
    rw [List.getElem?_set_ne (fun z => h (by simp [z]))]
    exact unw_out fun z => h (List.mem_cons_of_mem _ z)
theorem unw_in {ρ : Rho} {j : Nat} (hj : j < ρ.length) : ∀ {vs : List Nat}, j ∈ vs → (unw ρ vs)[j]? = some .un
  | v :: vs, h => by
    unfold unw
    by_cases z : v = j
    · subst z
      exact List.getElem?_set_self (by rw [unw_length]; exact hj)
    · rw [List.getElem?_set_ne z]
      exact unw_in hj ((List.mem_cons.mp h).elim (fun e => absurd e.symm z) id)
theorem rst_length (ρ0 ρ : Rho) : ∀ vs, (rst ρ0 ρ vs).length = ρ.length
  | [] => rfl
  | v :: vs => by simp [rst, rst_length ρ0 ρ vs]
theorem rst_out {ρ0 ρ : Rho} {j : Nat} : ∀ {vs : List Nat}, j ∉ vs → (rst ρ0 ρ vs)[j]? = ρ[j]?
  | [], _ => rfl
  | v :: vs, h => by
    unfold rst
    rw [List.getElem?_set_ne (fun z => h (by simp [z]))]
    exact rst_out fun z => h (List.mem_cons_of_mem _ z)
theorem rst_in {ρ0 ρ : Rho} {j : Nat} (hj : j < ρ.length) : ∀ {vs : List Nat}, j ∈ vs → (rst ρ0 ρ vs)[j]? = some (ρ0.getD j .un)
  | v :: vs, h => by
    unfold rst
    by_cases z : v = j
    · subst z
      exact List.getElem?_set_self (by rw [rst_length]; exact hj)
    · rw [List.getElem?_set_ne z]
      exact rst_in hj ((List.mem_cons.mp h).elim (fun e => absurd e.symm z) id)
theorem rst_unw (ρ : Rho) (vs : List Nat) : rst ρ (unw ρ vs) vs = ρ := by
  refine List.ext_getElem? fun j => ?_
  by_cases hj : j ∈ vs
  · by_cases hl : j < ρ.length
    · rw [rst_in (by rw [unw_length]; exact hl) hj, List.getElem?_eq_getElem hl]
      simp [List.getD, List.getElem?_eq_getElem hl]
    · rw [List.getElem?_eq_none (by rw [rst_length, unw_length]; omega), List.getElem?_eq_none (by omega)]
  · rw [rst_out hj, unw_out hj]
theorem unw_eq {ρ ρ' : Rho} {vs : List Nat} (hl : ρ'.length = ρ.length) (h : ∀ j, j ∉ vs → ρ'[j]? = ρ[j]?) : unw ρ' vs = unw ρ vs := by
  refine List.ext_getElem? fun j => ?_
  by_cases hj : j ∈ vs
  · by_cases hl' : j < ρ.length
    · rw [unw_in hl' hj, unw_in (by omega) hj]
    · rw [List.getElem?_eq_none (by rw [unw_length]; omega), List.getElem?_eq_none (by rw [unw_length]; omega)]
  · rw [unw_out hj, unw_out hj, h j hj]
theorem wipe_in {σ : L2.St} {j : Nat} (hj : j < σ.length) : ∀ {vs : List Nat}, j ∈ vs → (wipe σ vs)[j]? = some none
  | v :: vs, h => by
    unfold wipe
    by_cases z : v = j
    · subst z
      exact List.getElem?_set_self (by rw [wipe_length]; exact hj)
    · rw [List.getElem?_set_ne z]
      exact wipe_in hj ((List.mem_cons.mp h).elim (fun e => absurd e.symm z) id)
theorem wipe_eq {σ σ' : L2.St} {vs : List Nat} (hl : σ'.length = σ.length) (h : ∀ j, j ∉ vs → σ'[j]? = σ[j]?) : wipe σ' vs = wipe σ vs := by
  refine List.ext_getElem? fun j => ?_
  by_cases hj : j ∈ vs
  · by_cases hl' : j < σ.length
    · rw [wipe_in hl' hj, wipe_in (by omega) hj]
    · rw [List.getElem?_eq_none (by rw [wipe_length]; omega), List.getElem?_eq_none (by rw [wipe_length]; omega)]
  · rw [wipe_out hj, wipe_out hj, h j hj]
section
variable {K : Fg} {F : Fx} {σ : L2.St} {H H' : Hp} {ρ ρ' : Rho} {a : Addr}
theorem Rl.wiped (R : Rl K F σ H ρ) : ∀ {vs : List Nat}, (∀ v ∈ vs, ∃ s, ρ[v]? = some s) → Rl K F (wipe σ vs) H (unw ρ vs) ∧ Evo F σ H ρ (wipe σ vs) H (unw ρ vs)
  | [], _ => ⟨R, .refl⟩
  | v :: vs, h => by
    obtain ⟨R1, e1⟩ := Rl.wiped R (vs := vs) fun u hu => h u (List.mem_cons_of_mem _ hu)
    obtain ⟨s, hs⟩ := h v List.mem_cons_self
    have hl : v < (unw ρ vs).length := by rw [unw_length]; exact lt_of_some hs
    obtain ⟨R2, e2⟩ := R1.setAny (i := v) (t := .un) (x := none) (List.getElem?_eq_getElem hl) rfl trivial
    exact ⟨R2, e1.trans e2⟩
theorem Rl.drop (R : Rl K (F.add a) σ H ρ) : Rl K F σ H ρ where
  len := R.len
  slot := fun i s h => by
    obtain ⟨x, h1, h2⟩ := R.slot i s h
    refine ⟨x, h1, ?_⟩
    have h3 : SlOk K (hide H (Ow (F.add a) σ ρ)) H F i x s := by cases s <;> exact h2
    exact h3.mono (hide_less fun b hb => ow_add.mpr (.inl hb)) fun _ _ _ q => q
  inj := R.inj
  oc := fun b hb => R.oc b (.inl hb)
  dom := R.dom
/-- what a caller owns may turn -/
theorem Rl.outer {o : HO} (R : Rl K F σ H ρ) (ha : F.Oc a) : Rl K F σ (upd H a o) ρ ∧ Same (hide H (Ow F σ ρ)) (hide (upd H a o) (Ow F σ ρ)) := by
  have G : Same (hide H (Ow F σ ρ)) (hide (upd H a o) (Ow F σ ρ)) := hide_both fun b u nb hb => ⟨nb, by rw [upd_ne (fun z => nb (by rw [z]; exact .inl ha))]; exact hb⟩
  have dom : ∀ b, H b ≠ none → upd H a o b ≠ none := fun b hb => by
    by_cases z : b = a
    · subst z; rw [upd_same]; simp
    · rw [upd_ne z]; exact hb
  refine ⟨⟨R.len, fun i s h => ?_, R.inj, fun b hb => ⟨dom b (R.oc b hb).1, (R.oc b hb).2⟩, fun b hb => dom b (R.dom b hb)⟩, G⟩
  obtain ⟨x, h1, h2⟩ := R.slot i s h
  refine ⟨x, h1, ?_⟩
  have nx : ∀ b, Own σ ρ i b → b ≠ a := fun b hb z => (R.oc a ha).2 i (by rw [← z]; exact hb)
  cases s with
  | un => trivial
  | p e => obtain ⟨v, e1, e2⟩ := h2; exact ⟨v, e1, e2.mono G⟩
  | o e => obtain ⟨b, e1, e2, e3⟩ := h2; subst e1; exact ⟨b, rfl, e2.mono G (fun q z => by rw [upd_ne (nx b ⟨_, h, rfl, h1⟩)]; exact z), e3⟩
  | m e => obtain ⟨b, e1, e2, e3⟩ := h2; subst e1; exact ⟨b, rfl, e2.mono G (fun q z => by rw [upd_ne (nx b ⟨_, h, rfl, h1⟩)]; exact z), e3⟩
/-- behind the block: the own slots as they were -/
theorem Rl.restore {F' : Fx} {H1 : Hp} {ρ1 ρe : Rho} {vs : List Nat} (R1 : Rl K F σ H1 ρ1) (hv : free vs ρ1 = true) (Rw : Rl K F' (wipe σ vs) H' ρe) (g : Same (hide H1 (Ow F σ ρ1)) (hide H' (Ow F' (wipe σ vs) ρe))) :
    Rl K F' σ H' (rst ρ1 ρe vs) ∧ ∀ b, Ow F' σ (rst ρ1 ρe vs) b ↔ Ow F' (wipe σ vs) ρe b := by
  have hl : σ.length = ρe.length := by rw [← Rw.len, wipe_length]
  have hl1 : ρ1.length = ρe.length := by rw [← R1.len]; exact hl
  have ow : ∀ i b, Own σ (rst ρ1 ρe vs) i b ↔ Own (wipe σ vs) ρe i b := fun i b => by
    by_cases hi : i ∈ vs
    · constructor
      · rintro ⟨s, h1, h2, h3⟩
        have hlt : i < ρe.length := by rw [← hl]; exact lt_of_some h3
        rw [rst_in hlt hi] at h1
        obtain ⟨t, e1, e2⟩ := free_at hv hi
        have : ρ1.getD i .un = t := by simp [List.getD, e1]
        rw [this] at h1
        cases h1
        rw [e2] at h2
        cases h2
      · rintro ⟨s, h1, h2, h3⟩
        have hlt : i < σ.length := by rw [hl]; exact lt_of_some h1
        rw [wipe_in hlt hi] at h3
        cases h3
    · unfold Own
      rw [rst_out hi, wipe_out hi]
  have owE : ∀ b, Ow F' σ (rst ρ1 ρe vs) b ↔ Ow F' (wipe σ vs) ρe b := fun b => ⟨fun h => h.imp id fun ⟨i, q⟩ => ⟨i, (ow i b).mp q⟩, fun h => h.imp id fun ⟨i, q⟩ => ⟨i, (ow i b).mpr q⟩⟩
  have G : Same (hide H' (Ow F' (wipe σ vs) ρe)) (hide H' (Ow F' σ (rst ρ1 ρe vs))) := hide_less fun b hb => (owE b).mp hb
  refine ⟨⟨by rw [rst_length]; exact hl, fun i s h => ?_, fun i j b h1 h2 => Rw.inj i j b ((ow i b).mp h1) ((ow j b).mp h2), fun b hb => ⟨(Rw.oc b hb).1, fun i q => (Rw.oc b hb).2 i ((ow i b).mp q)⟩, Rw.dom⟩, owE⟩
  by_cases hi : i ∈ vs
  · have hlt : i < ρe.length := by have := lt_of_some h; rwa [rst_length] at this
    rw [rst_in hlt hi] at h
    cases h
    obtain ⟨t, e1, e2⟩ := free_at hv hi
    have et : ρ1.getD i .un = t := by simp [List.getD, e1]
    rw [et]
    obtain ⟨x, h1, h2⟩ := R1.slot i t e1
    refine ⟨x, h1, ?_⟩
    cases t with
    | un => trivial
    | p d => obtain ⟨v, q1, q2⟩ := h2; exact ⟨v, q1, (q2.mono g).mono G⟩
    | o d => cases e2
    | m d => cases e2
  · rw [rst_out hi] at h
    obtain ⟨x, h1, h2⟩ := Rw.slot i s h
    rw [wipe_out hi] at h1
    exact ⟨x, h1, h2.mono G fun _ _ _ q => q⟩
end
end DL
namespace DL
open L2 PyProof.Rows PySem PySem.Spec
/-! ## list comprehensions -/
def unwO (vs : List Nat) (ρ : Rho) : Option Rho := if free vs ρ = true then some (unw ρ vs) else none
def compS (g : Gf) (p : Tf) (e : Ef) (vs : List Nat) : List D → Rho → Option (List D × Rho)
  | [] => fun ρ => some ([], ρ)
  | d :: ds => fun ρ => (g d ρ).bind fun ρ1 => (p ρ1).bind fun c => if c.1 = true then
      (e c.2).bind fun a => (unwO vs a.2).bind fun ρ2 => (compS g p e vs ds ρ2).map fun r => (a.1 :: r.1, r.2)
    else (unwO vs c.2).bind fun ρ2 => compS g p e vs ds ρ2
def compE (it : Af) (g : Gf) (p : Tf) (e : Ef) (vs : List Nat) : Ef := fun ρ => (it ρ).bind fun a => (unwO vs a.2).bind fun ρw => (compS g p e vs a.1 ρw).bind fun r =>
  if r.1.length ≤ lim then some (.list r.1, rst a.2 r.2 vs) else none
def compPs (g : Gf) (p : Rho → Option Bool) (e : Rho → Option D) (ρ : Rho) : List D → Option (List D)
  | [] => some []
  | d :: ds => (g d ρ).bind fun ρ1 => (p ρ1).bind fun c => if c = true then (e ρ1).bind fun a => (compPs g p e ρ ds).map fun r => a :: r else compPs g p e ρ ds
def compPE (it : Rho → Option (List D)) (g : Gf) (p : Rho → Option Bool) (e : Rho → Option D) (vs : List Nat) : Rho → Option D := fun ρ => (it ρ).bind fun ds => (unwO vs ρ).bind fun ρw => (compPs g p e ρw ds).bind fun r =>
  if r.length ≤ lim then some (.list r) else none
theorem unwO_some {vs : List Nat} {ρ ρ' : Rho} (h : unwO vs ρ = some ρ') : free vs ρ = true ∧ ρ' = unw ρ vs := by
  unfold unwO at h
  split at h
  · rename_i e
    cases h
    exact ⟨e, rfl⟩
  · cases h
/-- what a target of slots vs does -/
def OutOk (vs : List Nat) (g : Gf) : Prop := ∀ d ρ ρ', g d ρ = some ρ' → ρ'.length = ρ.length ∧ (∀ j, j ∉ vs → ρ'[j]? = ρ[j]?) ∧ ∀ j, j ∈ vs → ∃ e, ρ'[j]? = some (.p e)
theorem unwO_of {vs : List Nat} {g : Gf} (h : OutOk vs g) {d : D} {ρ ρ' : Rho} (e : g d ρ = some ρ') : unwO vs ρ' = some (unw ρ vs) := by
  obtain ⟨l, h1, h2⟩ := h d ρ ρ' e
  unfold unwO
  rw [if_pos, unw_eq l h1]
  refine List.all_eq_true.mpr fun v hv => ?_
  obtain ⟨x, hx⟩ := h2 v hv
  rw [hx]
  rfl
theorem compS_lift {vs : List Nat} {g : Gf} (h : OutOk vs g) (p : Rho → Option Bool) (e : Rho → Option D) {ρ : Rho} (hρ : unw ρ vs = ρ) : ∀ ds, compS g (liftT p) (lift e) vs ds ρ = (compPs g p e ρ ds).map fun r => (r, ρ)
  | [] => rfl
  | d :: ds => by
    have ih := compS_lift h p e hρ ds
    show (g d ρ).bind _ = ((g d ρ).bind _).map _
    cases h1 : g d ρ with
    | none => rfl
    | some ρ1 =>
      have u := unwO_of h h1
      rw [hρ] at u
      show (liftT p ρ1).bind _ = ((p ρ1).bind _).map _
      unfold liftT
      cases h2 : p ρ1 with
      | none => rfl
      | some c =>
        cases c with
        | false =>
          show (unwO vs ρ1).bind _ = (compPs g p e ρ ds).map _
          rw [u]
          exact ih
        | true =>
          show (lift e ρ1).bind _ = ((e ρ1).bind _).map _
          unfold lift
          cases h3 : e ρ1 with
          | none => rfl
          | some a =>
            show (unwO vs ρ1).bind _ = ((compPs g p e ρ ds).map _).map _
            rw [u]
            show (compS g (liftT p) (lift e) vs ds ρ).map _ = _
            rw [ih]
            cases compPs g p e ρ ds <;> rfl
theorem unw_unw (ρ : Rho) (vs : List Nat) : unw (unw ρ vs) vs = unw ρ vs := unw_eq (unw_length ρ vs) fun j hj => unw_out hj
theorem compE_lift {vs : List Nat} {g : Gf} (h : OutOk vs g) (it : Rho → Option (List D)) (p : Rho → Option Bool) (e : Rho → Option D) : compE (liftA it) g (liftT p) (lift e) vs = lift (compPE it g p e vs) := by
  funext ρ
  show ((it ρ).map fun d => (d, ρ)).bind _ = ((it ρ).bind _).map _
  cases it ρ with
  | none => rfl
  | some ds =>
    show (unwO vs ρ).bind _ = ((unwO vs ρ).bind _).map _
    cases hu : unwO vs ρ with
    | none => rfl
    | some ρw =>
      obtain ⟨_, rfl⟩ := unwO_some hu
      show (compS g (liftT p) (lift e) vs ds (unw ρ vs)).bind _ = ((compPs g p e (unw ρ vs) ds).bind _).map _
      rw [compS_lift h p e (unw_unw ρ vs) ds]
      cases compPs g p e (unw ρ vs) ds with
      | none => rfl
      | some r =>
        show (if r.length ≤ lim then some (PyData.list r, rst ρ (unw ρ vs) vs) else none) = Option.map _ (if r.length ≤ lim then some (PyData.list r) else none)
        rw [rst_unw]
        split <;> rfl
theorem wipe_wipe (σ : L2.St) (vs : List Nat) : wipe (wipe σ vs) vs = wipe σ vs := wipe_eq (wipe_length σ vs) fun j hj => wipe_out hj
theorem oo_name (i : Nat) : OutOk [i] (setP i) := fun d ρ ρ' hf => by
  obtain ⟨s, h1, rfl, _⟩ := setP_some hf
  refine ⟨by simp, fun j hj => List.getElem?_set_ne (fun z => hj (by simp [z])), fun j hj => ⟨d, ?_⟩⟩
  obtain rfl : j = i := by simpa using hj
  exact List.getElem?_set_self (lt_of_some h1)
def OutOks (vs : List Nat) (g : List D → Rho → Option Rho) : Prop := ∀ d ρ ρ', g d ρ = some ρ' → ρ'.length = ρ.length ∧ (∀ j, j ∉ vs → ρ'[j]? = ρ[j]?) ∧ ∀ j, j ∈ vs → ∃ e, ρ'[j]? = some (.p e)
theorem oos_nil : OutOks [] gNil := fun d ρ ρ' hf => by
  cases d with
  | nil => cases hf; exact ⟨rfl, fun _ _ => rfl, fun _ z => absurd z (by simp)⟩
  | cons _ _ => cases hf
theorem oos_cons {w1 w2 : List Nat} {f : Gf} {g : List D → Rho → Option Rho} (h1 : OutOk w1 f) (h2 : OutOks w2 g) : OutOks (w1 ++ w2) (gCons f g) := fun ds ρ ρ' hf => by
  cases ds with
  | nil => cases hf
  | cons d ds =>
    obtain ⟨ρ1, e1, e2⟩ := Option.bind_eq_some_iff.mp hf
    obtain ⟨l1, o1⟩ := h1 _ _ _ e1
    obtain ⟨l2, o2⟩ := h2 _ _ _ e2
    refine ⟨l2.trans l1, fun j hj => ?_, fun j hj => ?_⟩
    · have j1 : j ∉ w1 := fun z => hj (List.mem_append_left _ z)
      have j2 : j ∉ w2 := fun z => hj (List.mem_append_right _ z)
      exact (o2.1 j j2).trans (o1.1 j j1)
    · by_cases j2 : j ∈ w2
      · exact o2.2 j j2
      · obtain ⟨e, he⟩ := o1.2 j ((List.mem_append.mp hj).elim id fun z => absurd z j2)
        exact ⟨e, (o2.1 j j2).trans he⟩
theorem oo_tup {ws : List Nat} {n : Nat} {g : List D → Rho → Option Rho} (h : OutOks ws g) : OutOk ws (gTup n g) := fun d ρ ρ' hf => by
  cases d with
  | tuple ds =>
    have hf' : (if ds.length = n then g ds ρ else none) = some ρ' := hf
    by_cases e : ds.length = n
    · rw [if_pos e] at hf'
      exact h _ _ _ hf'
    · rw [if_neg e] at hf'
      cases hf'
  | _ => cases hf
theorem GG.ok {X : Cx} {ws : List Nat} {e : Expr} {f : Gf} (h : GG X ws e f) : OutOk ws f := h.out
section
variable {X : Cx} {m1 m2 m3 bw : Bool}
/-- what holds ahead of turn i: Dd the new list -/
structure LcW (K : Fg) (F : Fx) (Dd : Addr) (vs : List Nat) (σ : L2.St) (H1 : Hp) (ρ1 : Rho) (pu : Bool) (g : Gf) (p : Tf) (e : Ef) (ds total : List D) (ρe : Rho) (i n : Nat) (H2 : Hp) : Prop where
  n : n = ds.length - i
  le : i ≤ ds.length
  st : ∃ ρi acc out rest, Rl K (F.add Dd) (wipe σ vs) H2 ρi ∧ Same (hide H1 (Ow F σ ρ1)) (hide H2 (Ow (F.add Dd) (wipe σ vs) ρi)) ∧ H2 Dd = some (.lst acc) ∧ DnL K (hide H2 (Ow (F.add Dd) (wipe σ vs) ρi)) acc out ∧
    compS g p e vs (ds.drop i) ρi = some (rest, ρe) ∧ out ++ rest = total ∧ (pu = true → ρi = unw ρ1 vs ∧ Same H1 H2)
  oc : ∀ a, F.Oc a → H2 a = H1 a
  dom : ∀ a, H1 a ≠ none → H2 a ≠ none
theorem eg_lc {elt tg iter : Expr} {ifs : List Expr} {scope : Scope} {own : List (Str × Nat)} {pos : Pos} {it : Af} {g : Gf} {p : Tf} {e : Ef} (hc : X.calm = true) (hN : X.N.Nodup) (hi : IG X m1 bw tg iter it) (ok : BlkOk X.N X.env.scope scope own)
    (hg : ∀ (s : Shared) (H : Hp) (C : Addr) (cl : List (Str × Addr)) (fp : List Addr), GG (X.blk s H scope (compEnvC scope cl C X.env) fp) (own.map (·.2)) tg g)
    (ht : ∀ (s : Shared) (H : Hp) (C : Addr) (cl : List (Str × Addr)) (fp : List Addr), TsG (X.blk s H scope (compEnvC scope cl C X.env) fp) m2 ifs p)
    (he : ∀ (s : Shared) (H : Hp) (C : Addr) (cl : List (Str × Addr)) (fp : List Addr), EG (X.blk s H scope (compEnvC scope cl C X.env) fp) m3 .k elt e)
    (hb : bw = true → (m2 && m3) = true) (gout : OutOk (own.map (·.2)) g) (hs : ∀ x, foldedSetIterable iter X.env x = pure x := by intro _; rfl) :
    ∃ t, PE X (.ListComp elt [⟨tg, iter, ifs, 0⟩] scope pos) t ∧ (∀ {i : Nat} {y : Str} {py spos : Pos}, X.N[i]? = some y → X.env.scope.names.lookup y = some .local → swapsWith (.ListComp elt [⟨tg, iter, ifs, 0⟩] scope pos) (some (.Name y py)) spos.line X.env = pure true →
        PS X (.Assign [.Name y py] (.ListComp elt [⟨tg, iter, ifs, 0⟩] scope pos) spos) (tAsg t (gName i))) ∧
      ∀ (F : Fx) (σ : L2.St) (H : Hp) (ρ : Rho) (d : D) (ρ' : Rho) (Q : VK), Rl X.K F σ H ρ → compE it g p e (own.map (·.2)) ρ = some (d, ρ') →
        (∀ v H', Po X.K F (m1 && (m2 && m3)) σ H ρ H' ρ' → Er X.K F σ ρ' .f H H' v d → Q v H') → t σ H Q := by
  obtain ⟨wi, hi1, hi2⟩ := hi.ex
  refine ⟨tLc wi (canG X.K (own.map (·.2)) g) (canT X.K m2 p) (canE X.K m3 .k e) (own.map (·.2)), pe_lc hc hN hi1 ok (fun s H C cl fp => (hg s H C cl fp).can) (fun s H C cl fp => (ht s H C cl fp).can) (fun s H C cl fp => (he s H C cl fp).can) hs,
    fun hy hyl hsw => ps_setLc hc hN hy hyl hsw hi1 ok (fun s H C cl fp => (hg s H C cl fp).can) (fun s H C cl fp => (ht s H C cl fp).can) (fun s H C cl fp => (he s H C cl fp).can) hs, fun F σ H ρ d ρ' Q R hf k => ?_⟩
  generalize hvs : own.map (·.2) = vs at *
  obtain ⟨⟨ds, ρ1⟩, e1, e2⟩ := Option.bind_eq_some_iff.mp hf
  obtain ⟨ρw, e3, e4⟩ := Option.bind_eq_some_iff.mp e2
  obtain ⟨⟨total, ρe⟩, e5, e6⟩ := Option.bind_eq_some_iff.mp e4
  obtain ⟨hfree, rfl⟩ := unwO_some e3
  have e6 : (if total.length ≤ lim then some (PyData.list total, rst ρ1 ρe vs) else none) = some (d, ρ') := e6
  by_cases hlim : total.length ≤ lim
  case neg => rw [if_neg hlim] at e6; cases e6
  rw [if_pos hlim] at e6
  cases e6
  have hthere : ∀ v ∈ vs, ∃ s, ρ1[v]? = some s := fun v hv => let ⟨s, h1, _⟩ := free_at hfree hv; ⟨s, h1⟩
  refine hi2 F σ H ρ ds ρ1 _ R e1 fun J H1 p1 iok => fun Dd hD => ?_
  have noD : ¬ Ow F σ ρ1 Dd := notOwned p1.rl hD
  -- the start
  have start : LcW X.K F Dd vs σ H1 ρ1 (m2 && m3) g p e ds total ρe 0 ds.length (upd H1 Dd (.lst [])) := by
    have Ra : Rl X.K (F.add Dd) σ (upd H1 Dd (.lst [])) ρ1 := p1.rl.addNew (sameNew hD) hD (by rw [upd_same]; simp)
    obtain ⟨Rw, ew⟩ := Ra.wiped hthere
    refine ⟨rfl, Nat.zero_le _, ⟨unw ρ1 vs, [], [], total, Rw, ?_, upd_same, .nil, e5, rfl, fun _ => ⟨rfl, sameNew hD⟩⟩, fun a ha => ?_, fun a ha => sameDom (sameNew hD) ha⟩
    · refine Same.trans ?_ ew.kept
      exact hide_both fun b o nb hb => ⟨fun z => (ow_add.mp z).elim nb (ne_of_none hb hD), sameNew hD _ _ hb⟩
    · exact upd_ne fun z => (p1.rl.oc a ha).1 (by rw [z]; exact hD)
  refine ⟨fun i n H2 => LcW X.K F Dd vs σ H1 ρ1 (m2 && m3) g p e ds total ρe i n H2, ⟨_, start⟩, fun i n H2 w => ?_⟩
  obtain ⟨hn, hle, ⟨ρi, acc, out, rest, Ri, kept, hacc, hdn, hcomp, happ, hpu⟩, hoc, hdom⟩ := w
  have nb : bw = true → Same H1 H2 := fun z => (hpu (hb z)).2
  by_cases hlt : i < ds.length
  · refine .inr ⟨iok.go i H2 _ kept nb hlt, fun H' => ∃ m', LcW X.K F Dd vs σ H1 ρ1 (m2 && m3) g p e ds total ρe (i + 1) m' H', fun H' ⟨m', w'⟩ => ⟨m', by have := w'.n; omega, w'⟩, fun x H3 y => ?_⟩
    obtain ⟨s3, d, ed, dn⟩ := iok.yld i H2 _ x H3 kept nb Ri.domO hlt y
    rw [List.getElem?_eq_getElem hlt] at ed
    cases ed
    rw [List.drop_eq_getElem_cons hlt] at hcomp
    obtain ⟨ρ2, c1, c2⟩ := Option.bind_eq_some_iff.mp hcomp
    obtain ⟨⟨c, ρ3⟩, c3, c4⟩ := Option.bind_eq_some_iff.mp c2
    have R3 := Ri.grow s3
    have k3 : Same (hide H1 (Ow F σ ρ1)) (hide H3 (Ow (F.add Dd) (wipe σ vs) ρi)) := kept.trans (hide_same s3)
    refine ⟨F.add Dd, ρi, ds[i], ρ2, R3, dn, c1, fun σ2 R4 ev4 o4 => ?_⟩
    have hw : wipe σ2 vs = wipe σ vs := by
      have l2 : σ2.length = (wipe σ vs).length := by rw [R4.len, R3.len]; exact (gout _ _ _ c1).1
      have := wipe_eq l2 o4
      rw [this, wipe_wipe]
    refine ⟨hw, F.add Dd, ρ2, c, ρ3, R4, c3, fun H4 p4 => ?_⟩
    have hD4 : H4 Dd = some (.lst acc) := by rw [p4.ev.oc Dd (.inr rfl), s3 _ _ hacc]
    have k4 : Same (hide H1 (Ow F σ ρ1)) (hide H4 (Ow (F.add Dd) σ2 ρ3)) := (k3.trans ev4.kept).trans p4.ev.kept
    have oc4 : ∀ a, F.Oc a → H4 a = H1 a := fun a ha => ((p4.ev.oc a (.inl ha)).trans (sameAt s3 (by rw [hoc a ha]; exact (p1.rl.oc a ha).1))).trans (hoc a ha)
    have dom4 : ∀ a, H1 a ≠ none → H4 a ≠ none := fun a ha => p4.ev.dom a (sameDom s3 (hdom a ha))
    have dn4 : DnL X.K (hide H4 (Ow (F.add Dd) σ2 ρ3)) acc out := DnL.mono (((hide_same s3).trans ev4.kept).trans p4.ev.kept) hdn
    -- the next turn's state, from a heap H5 and its slots ρ4
    have next : ∀ (H5 : Hp) (ρ4 ρ5 : Rho), Rl X.K (F.add Dd) σ2 H5 ρ4 → unwO vs ρ4 = some ρ5 → Rl X.K (F.add Dd) (wipe σ vs) H5 ρ5 ∧ Same (hide H5 (Ow (F.add Dd) σ2 ρ4)) (hide H5 (Ow (F.add Dd) (wipe σ vs) ρ5)) := fun H5 ρ4 ρ5 R5 hu => by
      obtain ⟨hf4, rfl⟩ := unwO_some hu
      obtain ⟨Rw, ew⟩ := R5.wiped (vs := vs) fun v hv => let ⟨s, h1, _⟩ := free_at hf4 hv; ⟨s, h1⟩
      rw [hw] at Rw
      have := ew.kept
      rw [hw] at this
      exact ⟨Rw, this⟩
    cases c with
    | false =>
      refine L2.iteF ?_
      rw [if_neg Bool.false_ne_true] at c4
      obtain ⟨ρ5, c5, c6⟩ := Option.bind_eq_some_iff.mp c4
      obtain ⟨Rn, kn⟩ := next H4 ρ3 ρ5 p4.rl c5
      refine ⟨_, ⟨rfl, hlt, ⟨ρ5, acc, out, rest, Rn, k4.trans kn, hD4, DnL.mono kn dn4, c6, happ, fun z => ?_⟩, oc4, dom4⟩⟩
      obtain ⟨z1, z2⟩ := Bool.and_eq_true_iff.mp z
      obtain ⟨q1, q2⟩ := p4.pu z1
      obtain ⟨q3, q4⟩ := hpu z
      subst q1
      refine ⟨?_, (q4.trans s3).trans q2⟩
      have u := unwO_of gout c1
      rw [c5] at u
      rw [Option.some.inj u, q3, unw_unw]
    | true =>
      refine L2.iteT ?_
      rw [if_pos rfl] at c4
      obtain ⟨⟨a, ρ4⟩, c5, c6⟩ := Option.bind_eq_some_iff.mp c4
      obtain ⟨ρ5, c7, c8⟩ := Option.bind_eq_some_iff.mp c6
      obtain ⟨⟨r, ρ6⟩, c9, c10⟩ := Option.map_eq_some_iff.mp c8
      cases c10
      refine ⟨F.add Dd, ρ3, a, ρ4, p4.rl, c5, fun yv H5 p5 r5 => ?_⟩
      have hD5 : H5 Dd = some (.lst acc) := by rw [p5.ev.oc Dd (.inr rfl)]; exact hD4
      obtain ⟨Rn, kn⟩ := next H5 ρ4 ρ5 p5.rl c7
      obtain ⟨Ru, ku⟩ := Rn.outer (a := Dd) (o := .lst (acc ++ [yv])) (.inr rfl)
      have dn5 : DnL X.K (hide H5 (Ow (F.add Dd) (wipe σ vs) ρ5)) (acc ++ [yv]) (out ++ [a]) := (DnL.mono (p5.ev.kept.trans kn) dn4).append (.one (Dn.mono kn r5.vr))
      have hlen : acc.length < lim := by
        have h1 := dn4.length
        have h2 := congrArg List.length happ
        rw [List.length_append, List.length_cons] at h2
        omega
      refine ⟨acc, hD5, by rw [sizeLine_eq]; exact hlen, _, ⟨rfl, hlt, ⟨ρ5, _, out ++ [a], r, Ru, ((k4.trans p5.ev.kept).trans kn).trans ku, upd_same, DnL.mono ku dn5, c9, by rw [List.append_assoc]; exact happ, fun z => ?_⟩, fun b hb => ?_, fun b hb => ?_⟩⟩
      · obtain ⟨z1, z2⟩ := Bool.and_eq_true_iff.mp z
        obtain ⟨q1, q2⟩ := p4.pu z1
        obtain ⟨q5, q6⟩ := p5.pu z2
        obtain ⟨q3, q4⟩ := hpu z
        subst q1
        subst q5
        refine ⟨?_, fun b o hb => ?_⟩
        · have u := unwO_of gout c1
          rw [c7] at u
          rw [Option.some.inj u, q3, unw_unw]
        · rw [upd_ne (ne_of_none hb hD)]
          exact q6 _ _ (q2 _ _ (s3 _ _ (q4 _ _ hb)))
      · rw [upd_ne (fun z => (p1.rl.oc b hb).1 (by rw [z]; exact hD)), p5.ev.oc b (.inl hb)]
        exact oc4 b hb
      · by_cases z : b = Dd
        · subst z; rw [upd_same]; simp
        · rw [upd_ne z]; exact p5.ev.dom b (dom4 b hb)
  · have ei : i = ds.length := by omega
    subst ei
    rw [List.drop_length] at hcomp
    cases hcomp
    rw [List.append_nil] at happ
    subst happ
    refine .inl ⟨iok.stop _ H2 _ kept nb (Nat.le_refl _), ?_⟩
    obtain ⟨Rr, owE⟩ := p1.rl.restore hfree Ri kept
    have Rf : Rl X.K F σ H2 (rst ρ1 ρe vs) := Rr.drop
    have owF : ∀ b, insA (Ow F σ (rst ρ1 ρe vs)) Dd b ↔ Ow (F.add Dd) σ (rst ρ1 ρe vs) b := fun b => ow_add.symm
    have noD2 : ¬ Ow F σ (rst ρ1 ρe vs) Dd := fun z => by
      rcases z with z | ⟨j, z⟩
      · exact noD (.inl z)
      · exact (Rr.oc Dd (.inr rfl)).2 j z
    have k5 : Same (hide H1 (Ow F σ ρ1)) (hide H2 (Ow F σ (rst ρ1 ρe vs))) := kept.trans (hide_less fun b hb => (owE b).mp (ow_add.mpr (.inl hb)))
    have hDn : H Dd = none := by
      cases q : H Dd with
      | none => rfl
      | some o => exact absurd hD (p1.ev.dom Dd (by rw [q]; simp))
    refine k _ H2 ⟨Rf, ⟨p1.ev.kept.trans k5, fun b hb => (hoc b hb).trans (p1.ev.oc b hb), fun b hb => hdom b (p1.ev.dom b hb)⟩, fun z => ?_⟩ ⟨⟨Dd, rfl, hDn, noD2, acc, hacc, DnL.mono (hide_less fun b hb => (owE b).mp ((owF b).mp hb)) hdn⟩, fun _ b hb => ?_⟩
    · obtain ⟨z1, z2⟩ := Bool.and_eq_true_iff.mp z
      obtain ⟨q1, q2⟩ := p1.pu z1
      obtain ⟨q3, q4⟩ := hpu z2
      rw [q3, rst_unw]
      exact ⟨q1, q2.trans q4⟩
    · cases hb
      exact Rr
end
end DL
namespace DL
open L2 PyProof.Rows PySem PySem.Spec
/-! ## comprehensions as expressions, as assignments -/
section
variable {X : Cx} {m1 m2 m3 bw : Bool} {kr : Kd}
section
variable {elt tg iter : Expr} {ifs : List Expr} {scope : Scope} {own : List (Str × Nat)} {pos : Pos} {it : Af} {g : Gf} {p : Tf} {e : Ef} (hc : X.calm = true) (hN : X.N.Nodup) (hi : IG X m1 bw tg iter it) (ok : BlkOk X.N X.env.scope scope own)
    (hg : ∀ (s : Shared) (H : Hp) (C : Addr) (cl : List (Str × Addr)) (fp : List Addr), GG (X.blk s H scope (compEnvC scope cl C X.env) fp) (own.map (·.2)) tg g)
    (ht : ∀ (s : Shared) (H : Hp) (C : Addr) (cl : List (Str × Addr)) (fp : List Addr), TsG (X.blk s H scope (compEnvC scope cl C X.env) fp) m2 ifs p)
    (he : ∀ (s : Shared) (H : Hp) (C : Addr) (cl : List (Str × Addr)) (fp : List Addr), EG (X.blk s H scope (compEnvC scope cl C X.env) fp) m3 .k elt e)
    (gout : OutOk (own.map (·.2)) g)
include hc hN hi ok hg ht he gout
theorem eg_comp (hb : bw = true → (m2 && m3) = true) (hs : ∀ x, foldedSetIterable iter X.env x = pure x := by intro _; rfl) : EG X (m1 && (m2 && m3)) .f (.ListComp elt [⟨tg, iter, ifs, 0⟩] scope pos) (compE it g p e (own.map (·.2))) := by
  obtain ⟨t, h1, _, h3⟩ := eg_lc (pos := pos) hc hN hi ok hg ht he hb gout hs
  exact ⟨t, h1, h3⟩
theorem sg_comp {i : Nat} {y : Str} {py spos : Pos} (hy : X.N[i]? = some y) (hyl : X.env.scope.names.lookup y = some .local) (hsw : swapsWith (.ListComp elt [⟨tg, iter, ifs, 0⟩] scope pos) (some (.Name y py)) spos.line X.env = pure true)
    (hb : bw = true → (m2 && m3) = true) (hs : ∀ x, foldedSetIterable iter X.env x = pure x := by intro _; rfl) : SG X kr (.Assign [.Name y py] (.ListComp elt [⟨tg, iter, ifs, 0⟩] scope pos) spos) (sSetP i (compE it g p e (own.map (·.2)))) := by
  obtain ⟨t, h1, h2, h3⟩ := eg_lc (pos := pos) hc hN hi ok hg ht he hb gout hs
  refine ⟨_, h2 hy hyl hsw, set_pure (m := m1 && (m2 && m3)) fun F σ H ρ d ρ' Q R hf k => h3 F σ H ρ d ρ' Q R hf fun v H' p r => k v H' p (.k (Vr.weak r.vr))⟩
theorem sg_compO {i : Nat} {y : Str} {py spos : Pos} (hy : X.N[i]? = some y) (hyl : X.env.scope.names.lookup y = some .local) (hsw : swapsWith (.ListComp elt [⟨tg, iter, ifs, 0⟩] scope pos) (some (.Name y py)) spos.line X.env = pure true)
    (hb : bw = true → (m2 && m3) = true) (hs : ∀ x, foldedSetIterable iter X.env x = pure x := by intro _; rfl) : SG X kr (.Assign [.Name y py] (.ListComp elt [⟨tg, iter, ifs, 0⟩] scope pos) spos) (sSetO i (compE it g p e (own.map (·.2)))) := by
  obtain ⟨t, h1, h2, h3⟩ := eg_lc (pos := pos) hc hN hi ok hg ht he hb gout hs
  exact ⟨_, h2 hy hyl hsw, set_own (m := m1 && (m2 && m3)) h3⟩
end
section
variable {elt tg iter : Expr} {ifs : List Expr} {scope : Scope} {own : List (Str × Nat)} {pos : Pos} {it : Rho → Option (List D)} {g : Gf} {p : Rho → Option Bool} {e : Rho → Option D} (hc : X.calm = true) (hN : X.N.Nodup) (hi : IG X true bw tg iter (liftA it)) (ok : BlkOk X.N X.env.scope scope own)
    (hg : ∀ (s : Shared) (H : Hp) (C : Addr) (cl : List (Str × Addr)) (fp : List Addr), GG (X.blk s H scope (compEnvC scope cl C X.env) fp) (own.map (·.2)) tg g)
    (ht : ∀ (s : Shared) (H : Hp) (C : Addr) (cl : List (Str × Addr)) (fp : List Addr), TsG (X.blk s H scope (compEnvC scope cl C X.env) fp) true ifs (liftT p))
    (he : ∀ (s : Shared) (H : Hp) (C : Addr) (cl : List (Str × Addr)) (fp : List Addr), EP (X.blk s H scope (compEnvC scope cl C X.env) fp) .k elt e)
    (gout : OutOk (own.map (·.2)) g)
include hc hN hi ok hg ht he gout
theorem ep_comp (hs : ∀ x, foldedSetIterable iter X.env x = pure x := by intro _; rfl) : EP X .f (.ListComp elt [⟨tg, iter, ifs, 0⟩] scope pos) (compPE it g p e (own.map (·.2))) :=
  (eg_comp hc hN hi ok hg ht he gout (fun _ => rfl) hs).cong (compE_lift gout it p e).symm
theorem sp_comp {i : Nat} {y : Str} {py spos : Pos} (hy : X.N[i]? = some y) (hyl : X.env.scope.names.lookup y = some .local) (hsw : swapsWith (.ListComp elt [⟨tg, iter, ifs, 0⟩] scope pos) (some (.Name y py)) spos.line X.env = pure true)
    (hs : ∀ x, foldedSetIterable iter X.env x = pure x := by intro _; rfl) : SG X kr (.Assign [.Name y py] (.ListComp elt [⟨tg, iter, ifs, 0⟩] scope pos) spos) (sSetP i (lift (compPE it g p e (own.map (·.2))))) :=
  (sg_comp hc hN hi ok hg ht he gout hy hyl hsw (fun _ => rfl) hs).cong (by rw [compE_lift gout it p e])
theorem sp_compO {i : Nat} {y : Str} {py spos : Pos} (hy : X.N[i]? = some y) (hyl : X.env.scope.names.lookup y = some .local) (hsw : swapsWith (.ListComp elt [⟨tg, iter, ifs, 0⟩] scope pos) (some (.Name y py)) spos.line X.env = pure true)
    (hs : ∀ x, foldedSetIterable iter X.env x = pure x := by intro _; rfl) : SG X kr (.Assign [.Name y py] (.ListComp elt [⟨tg, iter, ifs, 0⟩] scope pos) spos) (sSetO i (lift (compPE it g p e (own.map (·.2))))) :=
  (sg_compO hc hN hi ok hg ht he gout hy hyl hsw (fun _ => rfl) hs).cong (by rw [compE_lift gout it p e])
end
end
/-! ## defs -/
/-- a def that changes nothing of its caller's: n parameters -/
def spP (K : Fg) (n : Nat) (kr : Kd) (g : List D → Option D) : Sp := fun vs H Q _ => ∃ (O : Ad) (ds : List D) (d : D), vs.length = n ∧ (∀ a, O a → H a ≠ none) ∧ DnL K (hide H O) vs ds ∧ g ds = some d ∧ ∀ v H', Same H H' → Vr K kr O H H' v d → Q v H'
/-- a def that changes the list at its parameter k: c the list ahead, the others' data -/
def ins {α : Type} (k : Nat) (x : α) (l : List α) : List α := l.take k ++ x :: l.drop k
def spM (K : Fg) (n k : Nat) (g : D → List D → Option (D × D)) : Sp := fun vs H Q _ => ∃ (O : Ad) (a : Addr) (ws : List V) (ds : List D) (c r c' : D), vs = ins k (.ref a) ws ∧ k ≤ ws.length ∧ vs.length = n ∧ (∀ b, O b → H b ≠ none) ∧ ¬ O a ∧
  Top K (hide H (insA O a)) H a c ∧ DnL K (hide H (insA O a)) ws ds ∧ g c ds = some (r, c') ∧
  ∀ v H', Same (hide H (insA O a)) (hide H' (insA O a)) → (∀ b, O b → H' b = H b) → (∀ b, H b ≠ none → H' b ≠ none) → Top K (hide H' (insA O a)) H' a c' → Dn K (hide H' (insA O a)) v r → Q v H'
def outD : Out → Option D
  | .rt d _ => some d
  | .nx _ => some .none
  | _ => none
def fnP (N : Nat) (b : Sf) (ds : List D) : Option D := (b (ds.map Sl.p ++ List.replicate (N - ds.length) .un)).bind outD
def outM (k : Nat) : Out → Option (D × D)
  | .rt d ρ => (match ρ[k]? with
    | some (.m c) => some (d, c)
    | _ => none)
  | .nx ρ => (match ρ[k]? with
    | some (.m c) => some (.none, c)
    | _ => none)
  | _ => none
def fnM (N k : Nat) (b : Sf) (c : D) (ds : List D) : Option (D × D) := (b (ins k (.m c) (ds.map Sl.p) ++ List.replicate (N - (ds.length + 1)) .un)).bind (outM k)
theorem own_start {vs : List V} {ρ : Rho} {n : Nat} {i : Nat} {a : Addr} : Own (vs.map some ++ List.replicate n none) ρ i a → vs[i]? = some (.ref a) ∧ ∃ s, ρ[i]? = some s ∧ s.own = true := by
  rintro ⟨s, h1, h2, h3⟩
  refine ⟨?_, s, h1, h2⟩
  by_cases hi : i < vs.length
  · rw [List.getElem?_append_left (by simpa using hi), List.getElem?_map] at h3
    cases q : vs[i]? with
    | none => rw [q] at h3; cases h3
    | some v => rw [q] at h3; cases h3; rfl
  · rw [List.getElem?_append_right (by simpa using hi)] at h3
    by_cases hj : i - (vs.map some).length < n
    · rw [List.getElem?_replicate_of_lt hj] at h3; cases h3
    · rw [List.getElem?_eq_none (by simpa using hj)] at h3; cases h3
section
variable {P : Program} {w : World} {K : Fg} {mg : Str → Option Value} {base : Heap} {x qual : Str} {st : Stmt} {f : Addr} {fd : FuncData} {N ps : List Str} {k : Nat} {kr : Kd}
theorem pure_start {K : Fg} {O : Ad} {H : Hp} {vs : List V} {ds : List D} (n : Nat) (dom : ∀ a, O a → H a ≠ none) (h : DnL K (hide H O) vs ds) :
    Rl K ⟨O, vs.map some, H⟩ (vs.map some ++ List.replicate n none) H (ds.map Sl.p ++ List.replicate n .un) ∧ ∀ b, Ow ⟨O, vs.map some, H⟩ (vs.map some ++ List.replicate n none) (ds.map Sl.p ++ List.replicate n .un) b ↔ O b := by
  have no : ∀ i a, ¬ Own (vs.map some ++ List.replicate n none) (ds.map Sl.p ++ List.replicate n .un) i a := fun i a ⟨s, h1, h2, _⟩ => by
    have hm := List.mem_of_getElem? h1
    rcases List.mem_append.mp hm with hm | hm
    · obtain ⟨d, _, rfl⟩ := List.mem_map.mp hm
      cases h2
    · rw [List.eq_of_mem_replicate hm] at h2
      cases h2
  have owE : ∀ b, Ow ⟨O, vs.map some, H⟩ (vs.map some ++ List.replicate n none) (ds.map Sl.p ++ List.replicate n .un) b ↔ O b := fun b => ⟨fun z => z.elim id fun ⟨i, q⟩ => absurd q (no i b), fun z => .inl z⟩
  refine ⟨⟨by simp [h.length], fun i s hs => ?_, fun i j a h1 _ => absurd h1 (no i a), fun a ha => ⟨dom a ha, fun i => no i a⟩, fun a ha => ha⟩, owE⟩
  by_cases hi : i < ds.length
  · rw [List.getElem?_append_left (by simpa using hi), List.getElem?_map, List.getElem?_eq_getElem hi] at hs
    cases hs
    obtain ⟨u, e1, e2⟩ := h.get (List.getElem?_eq_getElem hi)
    refine ⟨some u, ?_, u, rfl, e2.mono (hide_less fun b hb => (owE b).mp hb)⟩
    rw [List.getElem?_append_left (by rw [List.length_map]; exact lt_of_some e1), List.getElem?_map, e1]
    rfl
  · rw [List.getElem?_append_right (by simpa using hi)] at hs
    have hj := lt_of_some hs
    rw [List.length_replicate, List.length_map] at hj
    rw [List.getElem?_replicate_of_lt (by simpa using hj)] at hs
    cases hs
    refine ⟨none, ?_, trivial⟩
    have hl := h.length
    rw [List.getElem?_append_right (by rw [List.length_map]; omega), List.getElem?_replicate_of_lt (by rw [List.length_map]; omega)]
theorem fn_pure (hk : kr = .k ∨ kr = .f) {b : Sf} (F : Fun K x qual st f fd) (S : FnScope N ps (defScope st))
    (hbody : ∀ (cdv : Value) (A : Around) (outer : List Env) (s : Shared) (H : Hp) (E : XK), Room k (A.deeper (envOfC qual (defScope st) s.heap.objs.size f cdv)) → SB (cxOf CX0 P w K mg base N qual (defScope st) f cdv A outer s H E).nox kr (defBody st) b)
    (hn : kr = .f → ∀ ρ ρ', b ρ ≠ some (.nx ρ') := by intro h; cases h) : FnOk P w K mg base CX0 (k + 1) f fd ps (spP K ps.length kr (fnP N.length b)) := by
  refine F.ok S (fun vs H Q E h => ?_) fun cdv A outer s H vs Q E hr h => ?_
  · obtain ⟨O, ds, d, h1, _⟩ := h
    exact h1
  · obtain ⟨O, ds, d, hl, dom, hd, hg, q⟩ := h
    obtain ⟨t, ht1, ht2⟩ := (hbody cdv A outer s H E hr).ex
    refine ⟨t, ht1, ?_⟩
    obtain ⟨o, e1, e2⟩ := Option.bind_eq_some_iff.mp hg
    obtain ⟨R0, owE⟩ := pure_start (N.length - ds.length) dom hd
    have hst : start N vs = vs.map some ++ List.replicate (N.length - ds.length) none := by unfold L2.start; rw [hd.length]
    rw [hst]
    have grow : ∀ {σ' : L2.St} {H' : Hp} {ρ' : Rho}, Evo ⟨O, vs.map some, H⟩ (vs.map some ++ List.replicate (N.length - ds.length) none) H (ds.map Sl.p ++ List.replicate (N.length - ds.length) .un) σ' H' ρ' → Same H H' := fun {σ' H' ρ'} ev b u hb => by
      by_cases z : O b
      · rw [ev.oc b z]; exact hb
      · exact (hide_some.mp (ev.kept b u (hide_some.mpr ⟨fun y => z ((owE b).mp y), hb⟩))).2
    refine ht2 ⟨O, vs.map some, H⟩ _ H _ o _ R0 e1 ?_
    have om : ∀ ρ', (∀ b, O b → Om ⟨O, vs.map some, H⟩ ρ' b) := fun ρ' b hb => .inl hb
    cases o with
    | bk ρ' => cases e2
    | ct ρ' => cases e2
    | rt d' ρ' =>
      cases e2
      intro v σ' H' R' ev r
      refine q v H' (grow ev) ?_
      rcases hk with rfl | rfl
      · exact Dn.mono (hide_less (om ρ')) r
      · obtain ⟨a, e, n, no, t⟩ := r
        exact ⟨a, e, n, fun z => no (om ρ' a z), t.mono (hide_less fun b hb => hb.imp (om ρ' b) id) fun _ q => q⟩
    | nx ρ' =>
      cases e2
      intro σ' H' R' ev
      rcases hk with rfl | rfl
      · exact q _ H' (grow ev) .non
      · exact absurd e1 (hn rfl _ _)
end
end DL
namespace DL
open L2 PyProof.Rows PySem PySem.Spec
theorem ins_length {α : Type} {k : Nat} {x : α} {l : List α} (h : k ≤ l.length) : (ins k x l).length = l.length + 1 := by unfold ins; simp; omega
theorem ins_at {α : Type} {k : Nat} {x : α} {l : List α} (h : k ≤ l.length) : (ins k x l)[k]? = some x := by
  unfold ins
  rw [List.getElem?_append_right (by rw [List.length_take]; omega), List.length_take, Nat.min_eq_left h, Nat.sub_self]
  rfl
theorem ins_lt {α : Type} {k i : Nat} {x : α} {l : List α} (h : k ≤ l.length) (hi : i < k) : (ins k x l)[i]? = l[i]? := by
  unfold ins
  rw [List.getElem?_append_left (by rw [List.length_take]; omega), List.getElem?_take_of_lt hi]
theorem ins_gt {α : Type} {k i : Nat} {x : α} {l : List α} (h : k ≤ l.length) (hi : k ≤ i) : (ins k x l)[i + 1]? = l[i]? := by
  unfold ins
  rw [List.getElem?_append_right (by rw [List.length_take]; omega), List.length_take, Nat.min_eq_left h, show i + 1 - k = (i - k) + 1 by omega, List.getElem?_cons_succ, List.getElem?_drop]
  congr 1
  omega
/-- the i-th of a list with one put in -/
theorem ins_cases {α : Type} {k i : Nat} {x y : α} {l : List α} (h : k ≤ l.length) (e : (ins k x l)[i]? = some y) : (i = k ∧ y = x) ∨ (i < k ∧ l[i]? = some y) ∨ ∃ j, i = j + 1 ∧ k ≤ j ∧ l[j]? = some y := by
  by_cases h1 : i = k
  · subst h1
    rw [ins_at h] at e
    exact .inl ⟨rfl, (Option.some.inj e).symm⟩
  · by_cases h2 : i < k
    · rw [ins_lt h h2] at e
      exact .inr (.inl ⟨h2, e⟩)
    · obtain ⟨j, rfl⟩ : ∃ j, i = j + 1 := ⟨i - 1, by omega⟩
      rw [ins_gt h (by omega)] at e
      exact .inr (.inr ⟨j, rfl, by omega, e⟩)
theorem ins_map {α β : Type} (g : α → β) {k : Nat} {x : α} {l : List α} : (ins k x l).map g = ins k (g x) (l.map g) := by
  unfold ins
  rw [List.map_append, List.map_cons, List.map_take, List.map_drop]
section
variable {P : Program} {w : World} {K : Fg} {mg : Str → Option Value} {base : Heap} {x qual : Str} {st : Stmt} {f : Addr} {fd : FuncData} {N ps : List Str} {k j : Nat}
theorem mut_start {K : Fg} {O : Ad} {H : Hp} {a : Addr} {ws : List V} {ds : List D} {c : D} (n : Nat) (dom : ∀ b, O b → H b ≠ none) (ha : ¬ O a) (t : Top K (hide H (insA O a)) H a c) (h : DnL K (hide H (insA O a)) ws ds) (hj : j ≤ ws.length) :
    Rl K ⟨O, (ins j (.ref a) ws).map some, H⟩ ((ins j (.ref a) ws).map some ++ List.replicate n none) H (ins j (.m c) (ds.map Sl.p) ++ List.replicate n .un) ∧
      ∀ b, Ow ⟨O, (ins j (.ref a) ws).map some, H⟩ ((ins j (.ref a) ws).map some ++ List.replicate n none) (ins j (.m c) (ds.map Sl.p) ++ List.replicate n .un) b ↔ insA O a b := by
  have hl := h.length
  have hj' : j ≤ (ds.map Sl.p).length := by rw [List.length_map]; omega
  have l1 : (ins j (.ref a) ws).length = ws.length + 1 := ins_length hj
  have l2 : (ins j (Sl.m c) (ds.map Sl.p)).length = ws.length + 1 := by rw [ins_length hj', List.length_map, hl]
  have at1 : ∀ i, i < ws.length + 1 → ((ins j (.ref a) ws).map some ++ List.replicate n none)[i]? = ((ins j (.ref a) ws).map some)[i]? := fun i hi => List.getElem?_append_left (by rw [List.length_map]; omega)
  have at2 : ∀ i, i < ws.length + 1 → (ins j (Sl.m c) (ds.map Sl.p) ++ List.replicate n .un)[i]? = (ins j (Sl.m c) (ds.map Sl.p))[i]? := fun i hi => List.getElem?_append_left (by omega)
  have slots : ∀ i s, (ins j (Sl.m c) (ds.map Sl.p) ++ List.replicate n .un)[i]? = some s → (i = j ∧ s = .m c) ∨ (∃ d v, s = .p d ∧ ((ins j (.ref a) ws).map some ++ List.replicate n none)[i]? = some (some v) ∧ Dn K (hide H (insA O a)) v d) ∨ (s = .un ∧ ∃ y, ((ins j (.ref a) ws).map some ++ List.replicate n none)[i]? = some y) := fun i s hs => by
    by_cases hi : i < ws.length + 1
    · rw [at2 i hi] at hs
      rcases ins_cases hj' hs with ⟨e1, e2⟩ | ⟨e1, e2⟩ | ⟨i', rfl, e1, e2⟩
      · exact .inl ⟨e1, e2⟩
      · rw [List.getElem?_map] at e2
        obtain ⟨d, e3, e4⟩ := Option.map_eq_some_iff.mp e2
        obtain ⟨v, e5, e6⟩ := h.get e3
        refine .inr (.inl ⟨d, v, e4.symm, ?_, e6⟩)
        rw [at1 i hi, List.getElem?_map, ins_lt hj e1, e5]
        rfl
      · rw [List.getElem?_map] at e2
        obtain ⟨d, e3, e4⟩ := Option.map_eq_some_iff.mp e2
        obtain ⟨v, e5, e6⟩ := h.get e3
        refine .inr (.inl ⟨d, v, e4.symm, ?_, e6⟩)
        rw [at1 _ hi, List.getElem?_map, ins_gt hj e1, e5]
        rfl
    · rw [List.getElem?_append_right (by omega)] at hs
      have hr := lt_of_some hs
      rw [List.length_replicate] at hr
      rw [List.getElem?_replicate_of_lt hr] at hs
      cases hs
      refine .inr (.inr ⟨rfl, none, ?_⟩)
      rw [List.getElem?_append_right (by rw [List.length_map]; omega), List.getElem?_replicate_of_lt (by rw [List.length_map]; omega)]
  have atj : ((ins j (.ref a) ws).map some ++ List.replicate n none)[j]? = some (some (.ref a)) := by rw [at1 j (by omega), List.getElem?_map, ins_at hj]; rfl
  have atjm : (ins j (Sl.m c) (ds.map Sl.p) ++ List.replicate n .un)[j]? = some (.m c) := by rw [at2 j (by omega), ins_at hj']
  have ow : ∀ i b, Own ((ins j (.ref a) ws).map some ++ List.replicate n none) (ins j (Sl.m c) (ds.map Sl.p) ++ List.replicate n .un) i b → i = j ∧ b = a := fun i b ⟨s, h1, h2, h3⟩ => by
    rcases slots i s h1 with ⟨e1, e2⟩ | ⟨d, v, e1, _⟩ | ⟨e1, _⟩
    · subst e1
      rw [atj] at h3
      cases h3
      exact ⟨rfl, rfl⟩
    · subst e1; cases h2
    · subst e1; cases h2
  have owE : ∀ b, Ow ⟨O, (ins j (.ref a) ws).map some, H⟩ ((ins j (.ref a) ws).map some ++ List.replicate n none) (ins j (.m c) (ds.map Sl.p) ++ List.replicate n .un) b ↔ insA O a b := fun b =>
    ⟨fun z => z.imp id fun ⟨i, q⟩ => (ow i b q).2, fun z => z.elim .inl fun e => .inr ⟨j, _, atjm, rfl, by rw [e]; exact atj⟩⟩
  refine ⟨⟨by simp only [List.length_append, List.length_map, List.length_replicate, l1, l2], fun i s hs => ?_, fun i i' b h1 h2 => by rw [(ow i b h1).1, (ow i' b h2).1], fun b hb => ⟨dom b hb, fun i q => ha (by rw [← (ow i b q).2]; exact hb)⟩, fun b hb => hb⟩, owE⟩
  have G : Same (hide H (insA O a)) (hide H (Ow ⟨O, (ins j (.ref a) ws).map some, H⟩ ((ins j (.ref a) ws).map some ++ List.replicate n none) (ins j (.m c) (ds.map Sl.p) ++ List.replicate n .un))) := hide_less fun b hb => (owE b).mp hb
  rcases slots i s hs with ⟨rfl, rfl⟩ | ⟨d, v, rfl, e1, e2⟩ | ⟨rfl, y, e1⟩
  · exact ⟨_, atj, a, rfl, t.mono G fun _ q => q, by show ((ins i (.ref a) ws).map some)[i]? = _; rw [List.getElem?_map, ins_at hj]; rfl⟩
  · exact ⟨_, e1, v, rfl, e2.mono G⟩
  · exact ⟨y, e1, trivial⟩
theorem fn_mut {b : Sf} (F : Fun K x qual st f fd) (S : FnScope N ps (defScope st))
    (hbody : ∀ (cdv : Value) (A : Around) (outer : List Env) (s : Shared) (H : Hp) (E : XK), Room k (A.deeper (envOfC qual (defScope st) s.heap.objs.size f cdv)) → SB (cxOf CX0 P w K mg base N qual (defScope st) f cdv A outer s H E).nox .k (defBody st) b) :
    FnOk P w K mg base CX0 (k + 1) f fd ps (spM K ps.length j (fnM N.length j b)) := by
  refine F.ok S (fun vs H Q E h => ?_) fun cdv A outer s H vs Q E hr h => ?_
  · obtain ⟨O, a, ws, ds, c, r, c', _, _, h1, _⟩ := h
    exact h1
  · obtain ⟨O, a, ws, ds, c, r, c', rfl, hj, hl, dom, ha, t, hd, hg, q⟩ := h
    obtain ⟨tt, ht1, ht2⟩ := (hbody cdv A outer s H E hr).ex
    refine ⟨tt, ht1, ?_⟩
    obtain ⟨o, e1, e2⟩ := Option.bind_eq_some_iff.mp hg
    obtain ⟨R0, owE⟩ := mut_start (N.length - (ds.length + 1)) dom ha t hd hj
    have hst : start N (ins j (.ref a) ws) = (ins j (.ref a) ws).map some ++ List.replicate (N.length - (ds.length + 1)) none := by unfold L2.start; rw [ins_length hj, hd.length]
    rw [hst]
    -- the end, whatever came back
    have fin : ∀ {σ' : L2.St} {H' : Hp} {ρ' : Rho} {v : V}, Rl K ⟨O, (ins j (.ref a) ws).map some, H⟩ σ' H' ρ' → Evo ⟨O, (ins j (.ref a) ws).map some, H⟩ ((ins j (.ref a) ws).map some ++ List.replicate (N.length - (ds.length + 1)) none) H (ins j (.m c) (ds.map Sl.p) ++ List.replicate (N.length - (ds.length + 1)) .un) σ' H' ρ' →
        ρ'[j]? = some (.m c') → Dn K (hide H' (Om ⟨O, (ins j (.ref a) ws).map some, H⟩ ρ')) v r → Q v H' := fun {σ' H' ρ' v} R' ev hm hv => by
      have hja : ((ins j (.ref a) ws).map some)[j]? = some (some (.ref a)) := by rw [List.getElem?_map, ins_at hj]; rfl
      obtain ⟨y, g1, b', g2, g3, g4⟩ := R'.slot j _ hm
      subst g2
      have eb : b' = a := by
        have g5 := hja.symm.trans g4
        cases g5
        rfl
      subst eb
      have ow : Own σ' ρ' j b' := ⟨_, hm, rfl, g1⟩
      have less : ∀ z, insA O b' z → Ow ⟨O, (ins j (.ref b') ws).map some, H⟩ σ' ρ' z := fun z hz => hz.elim .inl fun e => .inr ⟨j, by rw [e]; exact ow⟩
      have less2 : ∀ z, insA O b' z → Om ⟨O, (ins j (.ref b') ws).map some, H⟩ ρ' z := fun z hz => hz.elim .inl fun e => .inr ⟨j, c', hm, by rw [e]; exact hja⟩
      refine q v H' (fun z u e => ?_) ev.oc ev.dom (g3.mono (hide_less less) fun _ q => q) (hv.mono (hide_less less2))
      obtain ⟨e3, e4⟩ := hide_some.mp e
      obtain ⟨e5, e6⟩ := hide_some.mp (ev.kept z u (hide_some.mpr ⟨fun y => e3 ((owE z).mp y), e4⟩))
      exact hide_some.mpr ⟨e3, e6⟩
    refine ht2 ⟨O, (ins j (V.ref a) ws).map some, H⟩ _ H _ o _ R0 e1 ?_
    cases o with
    | bk ρ' => cases e2
    | ct ρ' => cases e2
    | rt d' ρ' =>
      have e2 : (match ρ'[j]? with | some (.m c) => some (d', c) | _ => none) = some (r, c') := e2
      split at e2
      · rename_i c1 hm
        cases e2
        exact fun v σ' H' R' ev hv => fin R' ev hm hv
      · cases e2
    | nx ρ' =>
      have e2 : (match ρ'[j]? with | some (.m c) => some (PyData.none, c) | _ => none) = some (r, c') := e2
      split at e2
      · rename_i c1 hm
        cases e2
        exact fun σ' H' R' ev => fin R' ev hm .non
      · cases e2
end
/-! ## calls -/
section
variable {X : Cx} {m : Bool} {kr kd : Kd} {k n j i : Nat} {f : Addr} {fd : FuncData} {ps : List Str} {x : Str} {p pos : Pos} {e : Expr} {es : List Expr}
theorem eg_call {g : List D → Option D} {fa : Af} (F : FnOk X.prog X.w X.K X.mg X.base CX0 k f fd ps (spP X.K n kr g)) (hr : Room k X.A) (hg : Gl X x) (hm : X.mg x = some (.ref f)) (hk : PySem.W.keepIn X.K (.ref f) = true) (hb : Binds X.K fd ps [])
    (ha : AG X m (e :: es) fa) (hn : Nat.beq (e :: es).length n = true := by rfl) (hdb : (x == ("__debug__" : Str)) = false := by decide) (he : starEach (e :: es) X.env = (false, eval e X.env) :: starEach es X.env := by rfl) (hpl : (backTo pos (starEach es X.env)).any (·.1) = false := by rfl) :
    EG X m kr (.Call (.Name x p) (e :: es) [] pos) (seqA g fa) := by
  obtain ⟨t, h1, h2⟩ := ha.ex
  refine ⟨_, pe_call F hr hg hm hk hb .nil pass0 h1 hdb he hpl, fun F σ H ρ d ρ' Q R hf k => ?_⟩
  obtain ⟨ds, e1, e2⟩ := seqA_some hf
  refine h2 F σ H ρ ds ρ' _ R e1 fun vs H1 p1 r1 => ?_
  refine ⟨Ow F σ ρ', ds, d, ?_, p1.rl.domO, by rw [List.append_nil]; exact r1, e2, fun z H3 s3 r3 => k z H3 (p1.more s3) (.of p1.rl s3 r3 p1.ev.dom)⟩
  rw [List.append_nil, r1.length, ha.len _ _ _ e1]
  exact Nat.eq_of_beq_eq_true hn
theorem ep_call {g : List D → Option D} {fa : Rho → Option (List D)} (F : FnOk X.prog X.w X.K X.mg X.base CX0 k f fd ps (spP X.K n kr g)) (hr : Room k X.A) (hg : Gl X x) (hm : X.mg x = some (.ref f)) (hk : PySem.W.keepIn X.K (.ref f) = true) (hb : Binds X.K fd ps [])
    (ha : AP X (e :: es) fa) (hn : Nat.beq (e :: es).length n = true := by rfl) (hdb : (x == ("__debug__" : Str)) = false := by decide) (he : starEach (e :: es) X.env = (false, eval e X.env) :: starEach es X.env := by rfl) (hpl : (backTo pos (starEach es X.env)).any (·.1) = false := by rfl) :
    EP X kr (.Call (.Name x p) (e :: es) [] pos) (puA g fa) := (eg_call F hr hg hm hk hb ha hn hdb he hpl).cong (seqA_lift g fa).symm
/-- no argument -/
def pu0 (g : List D → Option D) : Rho → Option D := fun _ => g []
theorem ep_call0 {g : List D → Option D} (F : FnOk X.prog X.w X.K X.mg X.base CX0 k f fd ps (spP X.K n kr g)) (hr : Room k X.A) (hg : Gl X x) (hm : X.mg x = some (.ref f)) (hk : PySem.W.keepIn X.K (.ref f) = true) (hb : Binds X.K fd ps [])
    (hn : Nat.beq 0 n = true := by rfl) (hdb : (x == ("__debug__" : Str)) = false := by decide) : EP X kr (.Call (.Name x p) [] [] pos) (pu0 g) := by
  refine ⟨_, pe_call0 F hr hg hm hk hb .nil pass0 hdb, fun F σ H ρ d ρ' Q R hf k => ?_⟩
  obtain ⟨hf, rfl⟩ := lift_some.mp hf
  exact ⟨Ow F σ ρ', [], d, Nat.eq_of_beq_eq_true hn, R.domO, .nil, hf, fun z H3 s3 r3 => k z H3 (.grow R s3) (.of R s3 r3 fun _ h => h)⟩
/-- arguments, one of which, at place j, is the name of the slot i that owns a list -/
structure AM (X : Cx) (j i : Nat) (es : List Expr) (f : Af) : Prop where
  ex : ∃ t : TA, PA X es t ∧ ∀ (F : Fx) (σ : L2.St) (H : Hp) (ρ : Rho) (ds : List D) (ρ' : Rho) (a : Addr) (Q : List V → Hp → Prop), Rl X.K F σ H ρ → σ[i]? = some (some (.ref a)) → f ρ = some (ds, ρ') →
    (∀ ws H', Po X.K F false σ H ρ H' ρ' → DnL X.K (hide H' (Ow F σ ρ')) ws ds → Q (ins j (.ref a) ws) H') → t σ H Q
  len : ∀ ρ ds ρ', f ρ = some (ds, ρ') → ds.length + 1 = es.length ∧ j ≤ ds.length
theorem am_here {y : Str} {py : Pos} {fa : Af} (h : PE X (.Name y py) (tVar i)) (hr : AG X m es fa) (hs : starEach (.Name y py :: es) X.env = (false, eval (.Name y py) X.env) :: starEach es X.env := by rfl) : AM X 0 i (.Name y py :: es) fa := by
  obtain ⟨t, h1, h2⟩ := hr.ex
  refine ⟨⟨_, pa_cons h h1 hs, fun F σ H ρ ds ρ' a Q R hi hf k => ?_⟩, fun ρ ds ρ' hf => ⟨by rw [hr.len _ _ _ hf]; rfl, Nat.zero_le _⟩⟩
  exact ⟨.ref a, hi, h2 F σ H ρ ds ρ' _ R hf fun vs H' p r => k vs H' (p.weak fun z => by cases z) r⟩
theorem am_cons {fe : Ef} {fa : Af} (h : EG X m .k e fe) (hr : AM X j i es fa) (hs : starEach (e :: es) X.env = (false, eval e X.env) :: starEach es X.env := by rfl) : AM X (j + 1) i (e :: es) (aS fe fa) := by
  obtain ⟨ta, ha1, ha2⟩ := h.ex
  obtain ⟨t, h1, h2⟩ := hr.ex
  refine ⟨⟨_, pa_cons ha1 h1 hs, fun F σ H ρ ds ρ' a Q R hi hf k => ?_⟩, fun ρ ds ρ' hf => ?_⟩
  · obtain ⟨⟨y, ρ1⟩, e1, e2⟩ := Option.bind_eq_some_iff.mp hf
    obtain ⟨⟨r, ρ2⟩, e3, e2⟩ := Option.map_eq_some_iff.mp e2
    cases e2
    refine ha2 F σ H ρ y ρ1 _ R e1 fun v H1 p1 r1 => ?_
    refine h2 F σ H1 ρ1 r _ a _ p1.rl hi e3 fun vs H2 p2 r2 => ?_
    exact k (v :: vs) H2 ((p1.weak (n := false) (by simp)).trans p2) (.cons (Dn.mono p2.ev.kept r1.vr) r2)
  · obtain ⟨⟨y, ρ1⟩, e1, e2⟩ := Option.bind_eq_some_iff.mp hf
    obtain ⟨⟨r, ρ2⟩, e3, e2⟩ := Option.map_eq_some_iff.mp e2
    cases e2
    obtain ⟨l1, l2⟩ := hr.len _ _ _ e3
    exact ⟨by rw [List.length_cons, List.length_cons, l1], Nat.succ_le_succ l2⟩
/-- f(.., draws, ..) -/
def callM (i : Nat) (g : D → List D → Option (D × D)) (fa : Af) : Ef := fun ρ => (ownd i ρ).bind fun _ => (fa ρ).bind fun a => (ownd i a.2).bind fun c => (g c a.1).map fun r => (r.1, wr i r.2 a.2)
theorem top_upd {K : Fg} {F : Fx} {σ : L2.St} {H H' : Hp} {ρ : Rho} {a : Addr} {d : D} {s : Sl} (R : Rl K F σ H ρ) (hs : ρ[i]? = some s) (hw : s.own = true) (ha : σ[i]? = some (some (.ref a)))
    (g : Same (hide H (Ow F σ ρ)) (hide H' (Ow F σ ρ))) (oc : ∀ b, Ow F σ ρ b → b ≠ a → H' b = H b) (dom : ∀ b, H b ≠ none → H' b ≠ none) (t : Top K (hide H' (Ow F σ ρ)) H' a d) :
    Rl K F σ H' (wr i d ρ) ∧ Evo F σ H ρ σ H' (wr i d ρ) := by
  have ow : Own σ ρ i a := ⟨s, hs, hw, ha⟩
  have nOc : ∀ b, F.Oc b → b ≠ a := fun b hb z => (R.oc b hb).2 i (by rw [z]; exact ow)
  have G : Same (hide H (Ow F σ ρ)) (hide H' (Ow F σ (wr i d ρ))) := by rw [ow_wr]; exact g
  have T : Top K (hide H' (Ow F σ (wr i d ρ))) H' a d := by rw [ow_wr]; exact t
  have ocE : ∀ b, F.Oc b → H' b = H b := fun b hb => oc b (.inl hb) (nOc b hb)
  refine ⟨⟨?_, fun l u hu => ?_, fun l l' b h1 h2 => R.inj l l' b (own_wr.mp h1) (own_wr.mp h2), fun b hb => ⟨dom b (R.oc b hb).1, fun l q => (R.oc b hb).2 l (own_wr.mp q)⟩, fun b hb => dom b (R.dom b hb)⟩, ⟨G, ocE, dom⟩⟩
  · unfold wr
    rw [hs]
    simpa using R.len
  · by_cases z : i = l
    · subst z
      unfold wr at hu
      rw [hs] at hu
      simp only at hu
      rw [List.getElem?_set_self (lt_of_some hs)] at hu
      cases hu
      obtain ⟨y, h1, h2⟩ := R.slot i s hs
      rw [ha] at h1
      cases h1
      refine ⟨_, ha, ?_⟩
      cases s with
      | un => cases hw
      | p e => cases hw
      | o e => obtain ⟨b, e1, _, e3⟩ := h2; cases e1; exact ⟨a, rfl, T, e3⟩
      | m e => obtain ⟨b, e1, _, e3⟩ := h2; cases e1; exact ⟨a, rfl, T, e3⟩
    · have hu' : ρ[l]? = some u := by
        unfold wr at hu
        rw [hs] at hu
        simp only at hu
        rw [List.getElem?_set_ne z] at hu
        exact hu
      obtain ⟨y, h1, h2⟩ := R.slot l u hu'
      refine ⟨y, h1, ?_⟩
      have keep : ∀ b, Own σ ρ l b → ∀ q, H b = some q → H' b = some q := fun b hb q e => by
        rw [oc b (.inr ⟨l, hb⟩) (fun y => z (R.inj i l a ow (by rw [← y]; exact hb)))]
        exact e
      cases u with
      | un => trivial
      | p e => obtain ⟨v, e1, e2⟩ := h2; exact ⟨v, e1, e2.mono G⟩
      | o e => obtain ⟨b, e1, e2, e3⟩ := h2; subst e1; exact ⟨b, rfl, e2.mono G (keep b ⟨_, hu', rfl, h1⟩), e3⟩
      | m e => obtain ⟨b, e1, e2, e3⟩ := h2; subst e1; exact ⟨b, rfl, e2.mono G (keep b ⟨_, hu', rfl, h1⟩), e3⟩
theorem eg_callM {g : D → List D → Option (D × D)} {fa : Af} (F : FnOk X.prog X.w X.K X.mg X.base CX0 k f fd ps (spM X.K n j g)) (hr : Room k X.A) (hg : Gl X x) (hm : X.mg x = some (.ref f)) (hk : PySem.W.keepIn X.K (.ref f) = true) (hb : Binds X.K fd ps [])
    (ha : AM X j i (e :: es) fa) (hn : Nat.beq (e :: es).length n = true := by rfl) (hdb : (x == ("__debug__" : Str)) = false := by decide) (he : starEach (e :: es) X.env = (false, eval e X.env) :: starEach es X.env := by rfl) (hpl : (backTo pos (starEach es X.env)).any (·.1) = false := by rfl) :
    EG X false .k (.Call (.Name x p) (e :: es) [] pos) (callM i g fa) := by
  obtain ⟨t, h1, h2⟩ := ha.ex
  refine ⟨_, pe_call F hr hg hm hk hb .nil pass0 h1 hdb he hpl, fun F σ H ρ d ρ' Q R hf k => ?_⟩
  obtain ⟨c0, e0, hf⟩ := Option.bind_eq_some_iff.mp hf
  obtain ⟨⟨ds, ρ1⟩, e1, hf⟩ := Option.bind_eq_some_iff.mp hf
  obtain ⟨c, e2, hf⟩ := Option.bind_eq_some_iff.mp hf
  obtain ⟨⟨r, c'⟩, e3, hf⟩ := Option.map_eq_some_iff.mp hf
  cases hf
  obtain ⟨a, s0, q1, q2, q3, _⟩ := ownd_some R e0
  refine h2 F σ H ρ ds ρ1 a _ R q3 e1 fun ws H1 p1 r1 => ?_
  obtain ⟨a', s, g1, g2, g3, t⟩ := ownd_some p1.rl e2
  rw [q3] at g3
  cases g3
  have ow : Own σ ρ1 i a := ⟨s, g1, g2, q3⟩
  have R1 := p1.rl
  -- all but that one
  have hE : insA (fun b => Ow F σ ρ1 b ∧ b ≠ a) a = Ow F σ ρ1 := by
    funext b
    refine propext ⟨fun z => z.elim (fun y => y.1) fun y => .inr ⟨i, by rw [y]; exact ow⟩, fun z => ?_⟩
    by_cases y : b = a
    · exact .inr y
    · exact .inl ⟨z, y⟩
  have hl := ha.len _ _ _ e1
  have hw := r1.length
  refine ⟨fun b => Ow F σ ρ1 b ∧ b ≠ a, a, ws, ds, c, r, c', by rw [List.append_nil], by omega, ?_, fun b hb => R1.domO b hb.1, fun z => z.2 rfl, by rw [hE]; exact t, by rw [hE]; exact r1, e3, fun v H2 s2 oc dom t2 hv => ?_⟩
  · have h3 : (e :: es).length = n := Nat.eq_of_beq_eq_true hn
    rw [List.append_nil, ins_length (by omega), hw, ← h3]
    exact hl.1
  · rw [hE] at s2 t2 hv
    obtain ⟨R2, ev2⟩ := top_upd R1 g1 g2 q3 s2 (fun b hb nb => oc b ⟨hb, nb⟩) dom t2
    refine k v H2 ⟨R2, p1.ev.trans ev2, fun z => by cases z⟩ (.k ?_)
    rw [ow_wr]
    exact hv
end
end DL
namespace DL
open L2 PyProof.Rows PySem PySem.Spec
/-! ## methods that change the slot's own list -/
def lstOf : D → Option (List D)
  | .list ds => some ds
  | _ => none
theorem lstOf_some {d : D} {ds : List D} (h : lstOf d = some ds) : d = .list ds := by
  cases d <;> simp [lstOf] at h
  rw [h]
def MutL (X : Cx) (id : String) (g : List D → List D → Option (D × List D)) : Prop :=
  MtR X id fun x vs H Q => ∃ (a : Addr) (xs : List V) (G : Hp) (ds es : List D) (r : D) (ds' : List D), x = .ref a ∧ H a = some (.lst xs) ∧ DnL X.K G xs ds ∧ DnL X.K G vs es ∧ g ds es = some (r, ds') ∧ ∀ v xs', Dn X.K G v r → DnL X.K G xs' ds' → Q v (upd H a (.lst xs'))
def mutE (i : Nat) (g : List D → List D → Option (D × List D)) (fa : Af) : Ef := fun ρ => (ownd i ρ).bind fun c0 => (lstOf c0).bind fun _ => (fa ρ).bind fun a => (ownd i a.2).bind fun c => (lstOf c).bind fun ds => (g ds a.1).map fun r => (r.1, wr i (.list r.2) a.2)
section
variable {X : Cx} {m : Bool} {kr kd : Kd} {i : Nat} {x : Str} {p pos apos cpos : Pos} {e : Expr} {es : List Expr} {id : String} {name : Str} {g : List D → List D → Option (D × List D)} {fa : Af}
theorem top_list {K : Fg} {G H : Hp} {a : Addr} {ds : List D} (h : Top K G H a (.list ds)) : ∃ xs, H a = some (.lst xs) ∧ DnL K G xs ds := h
theorem eg_mut (pa : PlainAttrs "list") (slot : Slot "list" name id) (hty : typeOf (.builtin id) = pure (.type "method_descriptor")) (hm : MutL X id g) (ho : PE X (.Name x p) (tVar i)) (ha : AG X m (e :: es) fa)
    (hbase : attributeBase (.Name x p) name X.env (eval (.Name x p) X.env) = eval (.Name x p) X.env := by rfl)
    (hfew : ((backTo cpos (starEach (e :: es) X.env)).all (fun x => !x.1) && (backToKw cpos (keywordEach [] X.env)).all (fun x => x.1.isSome) && decide ((e :: es).length + ([] : List Keyword).length + (if ([] : List Keyword).isEmpty then 0 else 1) < 30)) = true := by rfl)
    (hline : (apos.endLine == cpos.line) = true := by rfl) (hs : starEach (e :: es) X.env = (false, eval e X.env) :: starEach es X.env := by rfl) (hplain : (backTo cpos (starEach es X.env)).any (·.1) = false := by rfl) :
    EG X false .k (.Call (.Attribute (.Name x p) name apos) (e :: es) [] cpos) (mutE i g fa) := by
  obtain ⟨t, h1, h2⟩ := ha.ex
  refine ⟨_, pe_bm pa slot hty hm ho h1 hbase hfew hline hs hplain, fun F σ H ρ d ρ' Q R hf k => ?_⟩
  obtain ⟨c0, e0, hf⟩ := Option.bind_eq_some_iff.mp hf
  obtain ⟨d0, e0', hf⟩ := Option.bind_eq_some_iff.mp hf
  obtain ⟨⟨as, ρ1⟩, e1, hf⟩ := Option.bind_eq_some_iff.mp hf
  obtain ⟨c, e2, hf⟩ := Option.bind_eq_some_iff.mp hf
  obtain ⟨ds, e2', hf⟩ := Option.bind_eq_some_iff.mp hf
  obtain ⟨⟨r, ds'⟩, e3, hf⟩ := Option.map_eq_some_iff.mp hf
  cases hf
  have e0' := lstOf_some e0'
  have e2' := lstOf_some e2'
  subst e0' e2'
  obtain ⟨a, s0, q1, q2, q3, t0⟩ := ownd_some R e0
  obtain ⟨xs0, hx0, _⟩ := top_list t0
  refine ⟨.ref a, q3, .inl ⟨rfl, xs0, .of hx0⟩, ?_⟩
  refine h2 F σ H ρ as ρ1 _ R e1 fun vs H1 p1 r1 => ?_
  obtain ⟨a', s, g1, g2, g3, t1⟩ := ownd_some p1.rl e2
  rw [q3] at g3
  cases g3
  obtain ⟨xs, hx, hd⟩ := top_list t1
  refine ⟨a, xs, _, ds, as, r, ds', rfl, hx, hd, r1, e3, fun v xs' hv hxs => ?_⟩
  obtain ⟨R2, ev2⟩ := p1.rl.write (o := .lst xs') (d := .list ds') g1 g2 q3 ⟨xs', upd_same, hxs⟩
  exact k v _ ⟨R2, p1.ev.trans ev2, fun z => by cases z⟩ (.k (hv.mono ev2.kept))
theorem eg_mut0 (pa : PlainAttrs "list") (slot : Slot "list" name id) (hty : typeOf (.builtin id) = pure (.type "method_descriptor")) (hm : MutL X id g) (ho : PE X (.Name x p) (tVar i))
    (hbase : attributeBase (.Name x p) name X.env (eval (.Name x p) X.env) = eval (.Name x p) X.env := by rfl) (hline : (apos.endLine == cpos.line) = true := by rfl) :
    EG X false .k (.Call (.Attribute (.Name x p) name apos) [] [] cpos) (mutE i g (liftA aN)) := by
  refine ⟨_, pe_bm0 pa slot hty hm ho hbase hline, fun F σ H ρ d ρ' Q R hf k => ?_⟩
  obtain ⟨c0, e0, hf⟩ := Option.bind_eq_some_iff.mp hf
  obtain ⟨d0, e0', hf⟩ := Option.bind_eq_some_iff.mp hf
  obtain ⟨⟨as, ρ1⟩, e1, hf⟩ := Option.bind_eq_some_iff.mp hf
  obtain ⟨e1, rfl⟩ := liftA_some.mp e1
  cases e1
  obtain ⟨c, e2, hf⟩ := Option.bind_eq_some_iff.mp hf
  obtain ⟨ds, e2', hf⟩ := Option.bind_eq_some_iff.mp hf
  obtain ⟨⟨r, ds'⟩, e3, hf⟩ := Option.map_eq_some_iff.mp hf
  cases hf
  have e2' := lstOf_some e2'
  subst e2'
  obtain ⟨a, s, g1, g2, g3, t1⟩ := ownd_some R e2
  obtain ⟨xs, hx, hd⟩ := top_list t1
  refine ⟨.ref a, g3, .inl ⟨rfl, xs, .of hx⟩, a, xs, _, ds, [], r, ds', rfl, hx, hd, .nil, e3, fun v xs' hv hxs => ?_⟩
  obtain ⟨R2, ev2⟩ := R.write (o := .lst xs') (d := .list ds') g1 g2 g3 ⟨xs', upd_same, hxs⟩
  exact k v _ ⟨R2, ev2, fun z => by cases z⟩ (.k (hv.mono ev2.kept))
def gAppend (ds : List D) : List D → Option (D × List D)
  | [d] => if ds.length < lim then some (.none, ds ++ [d]) else none
  | _ => none
def gPop (ds : List D) : List D → Option (D × List D)
  | [] => ds.getLast?.map fun d => (d, ds.dropLast)
  | [.int i] => (ixN ds.length i).bind fun k => ds[k]?.map fun d => (d, ds.eraseIdx k)
  | _ => none
def gReverse (ds : List D) : List D → Option (D × List D)
  | [] => some (.none, ds.reverse)
  | _ => none
theorem mu_append : MutL X "list.append" gAppend := by
  intro pins s σ H x vs v us Q I rx rv h
  obtain ⟨a, xs, G, ds, es, r, ds', rfl, hx, hd, he, hg, k⟩ := h
  match es, hg with
  | [d], hg =>
    have hg : (if ds.length < lim then some (PyData.none, ds ++ [d]) else none) = some (r, ds') := hg
    by_cases hl : ds.length < lim
    · rw [if_pos hl] at hg
      cases hg
      cases he with
      | cons h1 h2 =>
        cases h2
        exact mt_append pins s σ H _ _ v us Q I rx rv ⟨a, xs, _, rfl, rfl, hx, by rw [hd.length, sizeLine_eq]; exact hl, k _ _ .non (hd.append (.one h1))⟩
    · rw [if_neg hl] at hg
      cases hg
theorem mu_pop : MutL X "list.pop" gPop := by
  intro pins s σ H x vs v us Q I rx rv h
  obtain ⟨a, xs, G, ds, es, r, ds', rfl, hx, hd, he, hg, k⟩ := h
  have hl := hd.length
  match es, hg with
  | [], hg =>
    obtain ⟨d, e1, e2⟩ := Option.map_eq_some_iff.mp hg
    cases e2
    cases he
    rw [List.getLast?_eq_getElem?] at e1
    obtain ⟨u, h1, h2⟩ := hd.get e1
    rw [← hl] at h1
    exact mt_pop pins s σ H _ _ v us Q I rx rv ⟨a, xs, u, rfl, rfl, hx, h1, k _ _ h2 hd.dropLast⟩
  | [.int i], hg =>
    obtain ⟨j, e1, e2⟩ := Option.bind_eq_some_iff.mp hg
    obtain ⟨d, e3, e4⟩ := Option.map_eq_some_iff.mp e2
    cases e4
    obtain ⟨u, h1, h2⟩ := hd.get e3
    rw [← hl] at e1
    obtain ⟨q1, q2, q3, q4⟩ := ixN_seq e1
    obtain ⟨z, _⟩ := I.hok a _ hx
    have := line63
    have ev := dnl1 he
    exact mt_popAt pins s σ H _ _ v us Q I rx rv ⟨a, xs, i, j, u, rfl, ev, hx, by omega, by omega, q1, h1, k _ _ h2 (hd.eraseIdx j)⟩
theorem mu_reverse : MutL X "list.reverse" gReverse := by
  intro pins s σ H x vs v us Q I rx rv h
  obtain ⟨a, xs, G, ds, es, r, ds', rfl, hx, hd, he, hg, k⟩ := h
  match es, hg with
  | [], hg =>
    cases hg
    cases he
    exact mt_reverse pins s σ H _ _ v us Q I rx rv ⟨a, xs, rfl, rfl, hx, k _ _ .non hd.reverse⟩
/-! x[i] = e, of a list of the slot's own -/
def storeL (i : Nat) (fe fi : Ef) : Sf := fun ρ => (fe ρ).bind fun a => (ownd i a.2).bind fun _ => (fi a.2).bind fun b => (ownd i b.2).bind fun c => (lstOf c).bind fun ds => match b.1 with
  | .int k => (ixN ds.length k).map fun j => .nx (wr i (.list (ds.set j a.1)) b.2)
  | _ => none
theorem sg_storeL {i' : Expr} {fe fi : Ef} {m2 : Bool} {p1 : Pos} (he : EG X m .k e fe) (ho : PE X (.Name x p) (tVar i)) (hi : EG X m2 kd i' fi)
    (ha : ∀ v, assign (.Subscript (.Name x p) i' p1) X.env v = (do
      let ov ← holding [v] (eval (.Name x p) X.env)
      let iv ← holding [v, ov] (eval i' X.env)
      standAt p1
      holding [v, ov, iv] (setItem ov iv v)
      release [v, ov, iv] []) := by intro _; rfl) (hs : swapsWithSole [.Subscript (.Name x p) i' p1] e pos.line X.env = pure false := by rfl) (hw : swappedStores [.Subscript (.Name x p) i' p1] e X.env = pure none := by rfl)
    (h1 : (assignEach [.Subscript (.Name x p) i' p1] X.env).map (·.2) = [assign (.Subscript (.Name x p) i' p1) X.env] := by rfl) : SG X kr (.Assign [.Subscript (.Name x p) i' p1] e pos) (storeL i fe fi) := by
  obtain ⟨te, he1, he2⟩ := he.ex
  obtain ⟨ti, hi1, hi2⟩ := hi.ex
  refine ⟨_, ps_asg he1 (pg_sub ho hi1 set_list ha) hs hw h1, fun F σ H ρ o E R hf k => ?_⟩
  obtain ⟨⟨d, ρ1⟩, e1, hf⟩ := Option.bind_eq_some_iff.mp hf
  obtain ⟨c0, e2, hf⟩ := Option.bind_eq_some_iff.mp hf
  obtain ⟨⟨ix, ρ2⟩, e3, hf⟩ := Option.bind_eq_some_iff.mp hf
  obtain ⟨c, e4, hf⟩ := Option.bind_eq_some_iff.mp hf
  obtain ⟨ds, e5, hf⟩ := Option.bind_eq_some_iff.mp hf
  have e5 := lstOf_some e5
  subst e5
  cases ix with
  | int n =>
    obtain ⟨j, e6, e7⟩ := Option.map_eq_some_iff.mp hf
    cases e7
    refine he2 F σ H ρ d ρ1 _ R e1 fun v H1 p1 r1 => ?_
    obtain ⟨a, s0, q1, q2, q3, _⟩ := ownd_some p1.rl e2
    refine ⟨.ref a, q3, hi2 F σ H1 ρ1 _ ρ2 _ p1.rl e3 fun u H2 p2 r2 => ?_⟩
    obtain ⟨a', s, g1, g2, g3, t1⟩ := ownd_some p2.rl e4
    rw [q3] at g3
    cases g3
    obtain ⟨xs, hx, hd⟩ := top_list t1
    obtain ⟨R2, ev2⟩ := p2.rl.write (o := .lst (xs.set j v)) (d := .list (ds.set j d)) g1 g2 q3 ⟨_, upd_same, hd.set j (Dn.mono p2.ev.kept r1.vr)⟩
    exact ⟨a, xs, n, j, rfl, r2.bw.int, hx, by rw [hd.length]; exact e6, k σ _ R2 ((p1.ev.trans p2.ev).trans ev2)⟩
  | _ => cases hf
/-! name op= e, plain data -/
def IpD (X : Cx) (kd : Kd) (op : Operator) (g : D → D → Option D) : Prop :=
  PIp X op fun x y H Q => ∃ (O : Ad) (d e z : D), (∀ a, O a → H a ≠ none) ∧ Bw X.K O H x d ∧ Bw X.K O H y e ∧ g d e = some z ∧ ∀ v H', Same H H' → Vr X.K kd O H H' v z → Q v H'
def sAug (i : Nat) (g : D → D → Option D) (fe : Ef) : Sf := fun ρ => (vP i ρ).bind fun a => (fe ρ).bind fun b => (g a b.1).bind fun z => (setP i z b.2).map .nx
theorem sg_aug {op : Operator} {g : D → D → Option D} {fe : Ef} (hN : X.N.Nodup) (hi : X.N[i]? = some x) (hx : Loc X.env.scope x) (he : EG X m kd e fe) (ho : IpD X .k op g) (hf : X.fn x = true ∨ X.env.scope.names.lookup x = some .local := by first | exact .inl rfl | exact .inr rfl | assumption) :
    SG X kr (.AugAssign (.Name x p) op e pos) (sAug i g fe) := by
  obtain ⟨te, he1, he2⟩ := he.ex
  refine ⟨_, ps_aug hN hi hx he1 ho hf, fun F σ H ρ o E R hf k => ?_⟩
  obtain ⟨d, e1, hf⟩ := Option.bind_eq_some_iff.mp hf
  obtain ⟨⟨b, ρ1⟩, e2, hf⟩ := Option.bind_eq_some_iff.mp hf
  obtain ⟨z, e3, hf⟩ := Option.bind_eq_some_iff.mp hf
  obtain ⟨ρ2, e4, hf⟩ := Option.map_eq_some_iff.mp hf
  cases hf
  unfold vP at e1
  split at e1
  · rename_i d' q
    cases e1
    obtain ⟨y, h1, v, h2, dn⟩ := R.slot i _ q
    subst h2
    refine ⟨v, h1, he2 F σ H ρ b ρ1 _ R e2 fun u H1 p1 r1 => ?_⟩
    refine ⟨Ow F σ ρ1, d, b, z, p1.rl.domO, .inl (Dn.mono p1.ev.kept dn), r1.bw, e3, fun w H2 s2 r2 => ?_⟩
    obtain ⟨R3, ev3⟩ := (p1.rl.grow s2).setPure e4 r2
    exact k _ H2 R3 ((p1.ev.trans (p1.rl.evo s2)).trans ev3)
  · cases e1
end
end DL
namespace DL
open L2 PyProof.Rows PySem PySem.Spec
/-! ## values read as data -/
section
variable {X : Cx} {pins : List (Addr × Obj)} {σ : L2.St} {H : Hp} {s : Shared}
mutual
theorem Dn.reads {G : Hp} (I : Inv X pins σ H s) (hG : Same G H) : ∀ {v : V} {d : D} {u : Value}, Dn X.K G v d → d.plain = true → RelV v u → ∃ as, Reads s.heap u d as
  | _, _, _, .non, _, r => by cases r; exact ⟨_, .none⟩
  | _, _, _, .bl b, _, r => by cases r; exact ⟨_, .bool b⟩
  | _, _, _, .int i, _, r => by obtain ⟨t, rfl⟩ := r; exact ⟨_, .int i t⟩
  | _, _, _, .str x, _, r => by obtain ⟨t, rfl⟩ := r; exact ⟨_, .str x t⟩
  | _, _, _, .lst h t, hp, r => by
    cases r
    obtain ⟨its, rv, ⟨o, n, ho, hc, _, hd⟩, _⟩ := I.list (hG.seq h)
    obtain ⟨as, hr⟩ := DnL.reads I hG t (by simpa [PyData.plain] using hp) rv
    exact ⟨_, .list ho hc hd hr⟩
  | _, _, _, .tup h t, hp, r => by
    cases r
    obtain ⟨its, rv, ⟨o, ho, hc, n, hd⟩, _⟩ := I.tuple (.of (hG _ _ h))
    obtain ⟨as, hr⟩ := DnL.reads I hG t (by simpa [PyData.plain] using hp) rv
    exact ⟨_, .tuple ho hc hd hr⟩
  | _, _, _, .dic _ _, hp, _ => by cases hp
  | _, _, _, .dct _ _, hp, _ => by cases hp
theorem DnL.reads {G : Hp} (I : Inv X pins σ H s) (hG : Same G H) : ∀ {vs : List V} {ds : List D} {us : List Value}, DnL X.K G vs ds → PyData.plainAll ds = true → Vals vs us → ∃ as, ReadsAll s.heap us ds as
  | _, _, _, .nil, _, r => by cases r; exact ⟨_, .nil⟩
  | _, _, _, .cons h t, hp, r => by
    have hp' := Bool.and_eq_true_iff.mp (show (PyData.plain _ && PyData.plainAll _) = true by simpa [PyData.plainAll] using hp)
    cases r with
    | cons r1 r2 =>
      obtain ⟨as, h1⟩ := Dn.reads I hG h hp'.1 r1
      obtain ⟨bs, h2⟩ := DnL.reads I hG t hp'.2 r2
      exact ⟨_, .cons h1 h2⟩
end
theorem Bw.reads {O : Ad} {v : V} {d : D} {u : Value} (I : Inv X pins σ H s) (h : Bw X.K O H v d) (hp : d.plain = true) (r : RelV v u) : ∃ as, Reads s.heap u d as := by
  rcases h with h | ⟨a, rfl, t⟩
  · exact Dn.reads I hide_sub h hp r
  · exact Dn.reads I (.refl _) (t.dn hide_sub) hp r
end
/-! ## == and < of data -/
/-- plain data, not deeper than forty -/
def dOk (d : D) : Bool := d.plain && Nat.ble d.depth 40
theorem dOk_iff {d : D} : dOk d = true ↔ d.plain = true ∧ d.depth ≤ 40 := by unfold dOk; rw [Bool.and_eq_true, Nat.ble_eq]
def eqD (d e : D) : Option D := if (dOk d && dOk e) = true then some (.bool (PyData.eqv d e)) else none
def neD (d e : D) : Option D := if (dOk d && dOk e) = true then some (.bool (!PyData.eqv d e)) else none
def notN : D → Bool
  | .none => false
  | _ => true
def cOk (d e : D) : Bool := PySem.W.alike d e && notN d && dOk d && dOk e
def ltD (d e : D) : Option D := if cOk d e = true then some (.bool (PySem.W.dataLt d e)) else none
def gtD (d e : D) : Option D := if cOk d e = true then some (.bool (PySem.W.dataLt e d)) else none
def leD (d e : D) : Option D := if cOk d e = true then some (.bool (!PySem.W.dataLt e d)) else none
def geD (d e : D) : Option D := if cOk d e = true then some (.bool (!PySem.W.dataLt d e)) else none
theorem ite_some {c : Prop} [Decidable c] {α : Type} {a b : α} (h : (if c then some a else none) = some b) : c ∧ a = b := by
  by_cases hc : c
  · rw [if_pos hc] at h; exact ⟨hc, Option.some.inj h⟩
  · rw [if_neg hc] at h; cases h
theorem notN_ne {d : D} (h : notN d = true) : d ≠ .none := fun e => by subst e; cases h
theorem cOk_iff {d e : D} (h : cOk d e = true) : PySem.W.alike d e = true ∧ d ≠ .none ∧ (d.plain = true ∧ d.depth ≤ 40) ∧ (e.plain = true ∧ e.depth ≤ 40) := by
  unfold cOk at h
  rw [Bool.and_eq_true, Bool.and_eq_true, Bool.and_eq_true, dOk_iff, dOk_iff] at h
  exact ⟨h.1.1.1, notN_ne h.1.1.2, h.1.2, h.2⟩
section
variable {X : Cx}
theorem od_of {f : Value → Value → Sem Value} {g : D → D → Option D} (p : D → D → Bool) (c : D → D → Bool) (hg : ∀ d e, g d e = if c d e = true then some (.bool (p d e)) else none)
    (hf : ∀ (pins : List (Addr × Obj)) (s : Shared) (σ : L2.St) (H : Hp) (O : Ad) (x y : V) (v u : Value) (d e : D) (Q : Value → Shared → Prop), Inv X pins σ H s → RelV x v → RelV y u → Bw X.K O H x d → Bw X.K O H y e → c d e = true → Q (.bool (p d e)) s → wpAny (model X.prog X.w) X.A (f v u) Q X.xe s) : OpD X .k f g := by
  intro pins s σ H x y v u Q I rx ry ⟨O, d, e, z, dom, bx, by', hz, k⟩
  rw [hg] at hz
  obtain ⟨hc, rfl⟩ := ite_some hz
  exact hf pins s σ H O x y v u d e _ I rx ry bx by' hc ⟨.bl (p d e), H, I, rfl, k _ H (.refl _) (.bl _)⟩
theorem od_eq (hu : X.A.units + 64 < cLine) : OpD X .k (compareOp .Eq) eqD := od_of (fun d e => PyData.eqv d e) (fun d e => dOk d && dOk e) (fun _ _ => rfl) fun pins s σ H O x y v u d e Q I rx ry bx by' hc q => by
  obtain ⟨h1, h2⟩ := Bool.and_eq_true_iff.mp hc
  obtain ⟨p1, l1⟩ := dOk_iff.mp h1
  obtain ⟨p2, l2⟩ := dOk_iff.mp h2
  obtain ⟨as, r1⟩ := bx.reads I p1 rx
  obtain ⟨bs, r2⟩ := by'.reads I p2 ry
  exact PySem.SeqAt.eq_plain r1 r2 p1 p2 (by omega) q
theorem od_ne (hu : X.A.units + 64 < cLine) : OpD X .k (compareOp .NotEq) neD := od_of (fun d e => !PyData.eqv d e) (fun d e => dOk d && dOk e) (fun _ _ => rfl) fun pins s σ H O x y v u d e Q I rx ry bx by' hc q => by
  obtain ⟨h1, h2⟩ := Bool.and_eq_true_iff.mp hc
  obtain ⟨p1, l1⟩ := dOk_iff.mp h1
  obtain ⟨p2, l2⟩ := dOk_iff.mp h2
  obtain ⟨as, r1⟩ := bx.reads I p1 rx
  obtain ⟨bs, r2⟩ := by'.reads I p2 ry
  exact PySem.SeqAt.ne_plain r1 r2 p1 p2 (by omega) q
theorem od_lt (hu : X.A.units + 64 < cLine) : OpD X .k (compareOp .Lt) ltD := od_of (fun d e => PySem.W.dataLt d e) cOk (fun _ _ => rfl) fun pins s σ H O x y v u d e Q I rx ry bx by' hc q => by
  obtain ⟨al, nn, ⟨p1, l1⟩, p2, l2⟩ := cOk_iff hc
  obtain ⟨as, r1⟩ := bx.reads I p1 rx
  obtain ⟨bs, r2⟩ := by'.reads I p2 ry
  exact PySem.W.lt_data r1 r2 al nn (by omega) q
theorem od_gt (hu : X.A.units + 64 < cLine) : OpD X .k (compareOp .Gt) gtD := od_of (fun d e => PySem.W.dataLt e d) cOk (fun _ _ => rfl) fun pins s σ H O x y v u d e Q I rx ry bx by' hc q => by
  obtain ⟨al, nn, ⟨p1, l1⟩, p2, l2⟩ := cOk_iff hc
  obtain ⟨as, r1⟩ := bx.reads I p1 rx
  obtain ⟨bs, r2⟩ := by'.reads I p2 ry
  exact PySem.W.gt_data r1 r2 al nn (by omega) q
theorem od_le (hu : X.A.units + 64 < cLine) : OpD X .k (compareOp .LtE) leD := od_of (fun d e => !PySem.W.dataLt e d) cOk (fun _ _ => rfl) fun pins s σ H O x y v u d e Q I rx ry bx by' hc q => by
  obtain ⟨al, nn, ⟨p1, l1⟩, p2, l2⟩ := cOk_iff hc
  obtain ⟨as, r1⟩ := bx.reads I p1 rx
  obtain ⟨bs, r2⟩ := by'.reads I p2 ry
  exact PySem.W.le_data r1 r2 al nn (by omega) q
theorem od_ge (hu : X.A.units + 64 < cLine) : OpD X .k (compareOp .GtE) geD := od_of (fun d e => !PySem.W.dataLt d e) cOk (fun _ _ => rfl) fun pins s σ H O x y v u d e Q I rx ry bx by' hc q => by
  obtain ⟨al, nn, ⟨p1, l1⟩, p2, l2⟩ := cOk_iff hc
  obtain ⟨as, r1⟩ := bx.reads I p1 rx
  obtain ⟨bs, r2⟩ := by'.reads I p2 ry
  exact PySem.W.ge_data r1 r2 al nn (by omega) q
/-- x in xs: a list or a tuple; a text in a text -/
def inD' : D → D → Option Bool
  | d, .list es => if (dOk d && dOk (.list es)) = true then some (es.any fun y => PyData.eqv y d) else none
  | d, .tuple es => if (dOk d && dOk (.tuple es)) = true then some (es.any fun y => PyData.eqv y d) else none
  | .str a, .str b => some (!(Builtin.Str.occurrences b a 0 b.length 1).isEmpty)
  | _, _ => none
def inD (d e : D) : Option D := (inD' d e).map fun b => .bool b
def ninD (d e : D) : Option D := (inD' d e).map fun b => .bool (!b)
theorem depthList {es : List D} (h : PyData.depth (.list es) ≤ 40) : PyData.depthAll es ≤ 39 := by
  simp only [PyData.depth] at h
  omega
theorem depthTup {es : List D} (h : PyData.depth (.tuple es) ≤ 40) : PyData.depthAll es ≤ 39 := by
  simp only [PyData.depth] at h
  omega
theorem od_in (hu : X.A.units + 64 < cLine) : OpD X .k (compareOp .In) inD := by
  intro pins s σ H x y v u Q I rx ry ⟨O, d, e, z, dom, bx, by', hz, k⟩
  obtain ⟨b, e1, rfl⟩ := Option.map_eq_some_iff.mp hz
  have fin : L2.EP X pins σ Q (.bool b) s := ⟨.bl b, H, I, rfl, k _ H (.refl _) (.bl _)⟩
  have seq : ∀ es, (e = .list es ∨ e = .tuple es) → (dOk d && dOk e) = true → b = (es.any fun y => PyData.eqv y d) → wpAny (model X.prog X.w) X.A (compareOp .In v u) (L2.EP X pins σ Q) X.xe s := fun es he hc hb => by
    obtain ⟨h1, h2⟩ := Bool.and_eq_true_iff.mp hc
    obtain ⟨p1, l1⟩ := dOk_iff.mp h1
    obtain ⟨p2, l2⟩ := dOk_iff.mp h2
    obtain ⟨as, r1⟩ := bx.reads I p1 rx
    obtain ⟨bs, r2⟩ := by'.reads I p2 ry
    rw [hb] at fin
    rcases he with rfl | rfl
    · have := depthList l2
      exact PySem.SeqAt.in_list_data r2 r1 (by simpa [PyData.plain] using p2) p1 (by omega) fin
    · have := depthTup l2
      exact PySem.SeqAt.in_tuple_data r2 r1 (by simpa [PyData.plain] using p2) p1 (by omega) fin
  cases e with
  | list es =>
    have e1 : (if (dOk d && dOk (.list es)) = true then some (es.any fun y => PyData.eqv y d) else none) = some b := by cases d <;> exact e1
    obtain ⟨hc, hb⟩ := ite_some e1
    exact seq es (.inl rfl) hc hb.symm
  | tuple es =>
    have e1 : (if (dOk d && dOk (.tuple es)) = true then some (es.any fun y => PyData.eqv y d) else none) = some b := by cases d <;> exact e1
    obtain ⟨hc, hb⟩ := ite_some e1
    exact seq es (.inr rfl) hc hb.symm
  | str b' =>
    cases d with
    | str a' =>
      cases e1
      exact op_in_str pins s σ H x y v u Q I rx ry ⟨a', b', bx.str, by'.str, k _ H (.refl _) (.bl _)⟩
    | _ => cases e1
  | _ => cases d <;> cases e1
theorem od_nin (hu : X.A.units + 64 < cLine) : OpD X .k (compareOp .NotIn) ninD := by
  intro pins s σ H x y v u Q I rx ry ⟨O, d, e, z, dom, bx, by', hz, k⟩
  obtain ⟨b, e1, rfl⟩ := Option.map_eq_some_iff.mp hz
  have fin : L2.EP X pins σ Q (.bool (!b)) s := ⟨.bl (!b), H, I, rfl, k _ H (.refl _) (.bl _)⟩
  have seq : ∀ es, (e = .list es ∨ e = .tuple es) → (dOk d && dOk e) = true → b = (es.any fun y => PyData.eqv y d) → wpAny (model X.prog X.w) X.A (compareOp .NotIn v u) (L2.EP X pins σ Q) X.xe s := fun es he hc hb => by
    obtain ⟨h1, h2⟩ := Bool.and_eq_true_iff.mp hc
    obtain ⟨p1, l1⟩ := dOk_iff.mp h1
    obtain ⟨p2, l2⟩ := dOk_iff.mp h2
    obtain ⟨as, r1⟩ := bx.reads I p1 rx
    obtain ⟨bs, r2⟩ := by'.reads I p2 ry
    rw [hb] at fin
    rcases he with rfl | rfl
    · have := depthList l2
      exact PySem.SeqAt.notIn_list_data r2 r1 (by simpa [PyData.plain] using p2) p1 (by omega) fin
    · have := depthTup l2
      exact PySem.SeqAt.notIn_tuple_data r2 r1 (by simpa [PyData.plain] using p2) p1 (by omega) fin
  cases e with
  | list es =>
    have e1 : (if (dOk d && dOk (.list es)) = true then some (es.any fun y => PyData.eqv y d) else none) = some b := by cases d <;> exact e1
    obtain ⟨hc, hb⟩ := ite_some e1
    exact seq es (.inl rfl) hc hb.symm
  | tuple es =>
    have e1 : (if (dOk d && dOk (.tuple es)) = true then some (es.any fun y => PyData.eqv y d) else none) = some b := by cases d <;> exact e1
    obtain ⟨hc, hb⟩ := ite_some e1
    exact seq es (.inr rfl) hc hb.symm
  | str b' =>
    cases d with
    | str a' =>
      cases e1
      exact L2.op_notIn_str pins s σ H x y v u Q I rx ry ⟨a', b', bx.str, by'.str, k _ H (.refl _) (.bl _)⟩
    | _ => cases e1
  | _ => cases d <;> cases e1
/-- is None -/
def isN (d e : D) : Option D := match e with
  | .none => some (.bool (!notN d))
  | _ => none
def isNN (d e : D) : Option D := match e with
  | .none => some (.bool (notN d))
  | _ => none
theorem bw_non {K : Fg} {O : Ad} {H : Hp} {v : V} {d : D} (h : Bw K O H v d) : decide (v = V.non) = !notN d := by
  rcases h with h | ⟨a, rfl, t⟩
  · cases h <;> rfl
  · cases d <;> first | rfl | exact t.elim
theorem od_is : OpD X .k (compareOp .Is) isN := by
  intro pins s σ H x y v u Q I rx ry ⟨O, d, e, z, dom, bx, by', hz, k⟩
  cases e with
  | none =>
    cases hz
    refine op_isN pins s σ H x y v u Q I rx ry ⟨by'.none_, ?_⟩
    rw [bw_non bx]
    exact k _ H (.refl _) (.bl _)
  | _ => cases hz
theorem od_isnot : OpD X .k (compareOp .IsNot) isNN := by
  intro pins s σ H x y v u Q I rx ry ⟨O, d, e, z, dom, bx, by', hz, k⟩
  cases e with
  | none =>
    cases hz
    refine op_notN pins s σ H x y v u Q I rx ry ⟨by'.none_, ?_⟩
    rw [bw_non bx, Bool.not_not]
    exact k _ H (.refl _) (.bl _)
  | _ => cases hz
end
end DL
namespace DL
open L2 PyProof.Rows PySem PySem.Spec
/-! ## arithmetic, joining -/
theorem lim_ble {n : Nat} (h : Nat.ble n lim = true) : n ≤ sizeLine := lim_line (Nat.le_of_ble_eq_true h)
def isF : Kd → Prop
  | .b => False
  | _ => True
theorem newL {K : Fg} {kd : Kd} (hk : isF kd) {O : Ad} {H : Hp} {p : Addr} {xs : List V} {ds : List D} (h : H p = none) (dom : ∀ a, O a → H a ≠ none) (t : DnL K (hide H O) xs ds) : Vr K kd O H (upd H p (.lst xs)) (.ref p) (.list ds) := by
  have f := fresh_list (H0 := H) h (fun _ h => h) (fun z => dom p z h) t
  cases kd with
  | k => exact Vr.weak f
  | f => exact f
  | b => exact hk.elim
theorem newT {K : Fg} {O : Ad} {H H0 : Hp} {p : Addr} {xs : List V} {ds : List D} (h : H p = none) (dom : ∀ a, O a → H a ≠ none) (t : DnL K (hide H O) xs ds) : Vr K .k O H0 (upd H p (.tup xs)) (.ref p) (.tuple ds) :=
  new_tuple h (fun z => dom p z h) t
def addD : D → D → Option D
  | .int i, .int j => some (.int (i + j))
  | .str a, .str b => if Nat.ble (a.length + b.length) lim = true then some (.str (a ++ b)) else none
  | .tuple a, .tuple b => if Nat.ble (a.length + b.length) lim = true then some (.tuple (a ++ b)) else none
  | .list a, .list b => if Nat.ble (a.length + b.length) lim = true then some (.list (a ++ b)) else none
  | _, _ => none
/-- list + list: a new one -/
def catD : D → D → Option D
  | .list a, .list b => if Nat.ble (a.length + b.length) lim = true then some (.list (a ++ b)) else none
  | _, _ => none
/-! list + list, list * int of any lists that are read -/
theorem add_meets (l : Addr) (items : Array Value) (n : Nat) (dd : Option Addr) (sl : Array (Option Value)) (b : Addr) (items2 : Array Value) (n2 : Nat) (dd2 : Option Addr) (sl2 : Array (Option Value)) (hc0 : items.size + items2.size ≤ sizeLine) :
    Meets (Builtin.«list.__add__» ⟨[.ref l, .ref b], []⟩) (fun _ R s => s.heap.get? l = some { cls := .type "list", dict := dd, data := .seq items n, slots := sl } ∧ s.heap.get? b = some { cls := .type "list", dict := dd2, data := .seq items2 n2, slots := sl2 } ∧
      R (.ok (.ret (Value.ref s.heap.objs.size))) { s with heap := s.heap.push { cls := Value.type "list", data := Data.seq (items ++ items2) }, toks := s.toks }) :=
  .of_wp fun prog w A R s h => by
    obtain ⟨hp, g, d, tk, os⟩ := s
    obtain ⟨hl, hb, h⟩ := h
    have f1 := AutoSeq1.idx_int
    have f2 := AutoSeq1.sub_tuple_tuple
    have f3 := AutoSeq1.sub_list_list
    have f4 := AutoSeq1.sub_tuple_list
    have f5 := AutoSeq1.sub_list_tuple
    wp_walk using AutoSeq1.wpAny_loadPart' hl, AutoSeq1.wpAny_loadPart' hb
    exact ⟨_, rfl, h⟩
theorem rmul_meets (a : Int) (t : Tok) (l : Addr) (items : Array Value) (n : Nat) (dd : Option Addr) (sl : Array (Option Value)) :
    Meets (Builtin.«int.__rmul__» ⟨[.int a t, .ref l], []⟩) (fun _ R s => s.heap.get? l = some { cls := .type "list", dict := dd, data := .seq items n, slots := sl } ∧ R (.ok (.ret Value.notImplemented)) s) :=
  .of_wp fun prog w A R s h => by
    obtain ⟨hp, g, d, tk, os⟩ := s
    obtain ⟨hl, h⟩ := h
    wp_walk using AutoSeq1.wpAny_loadPart' hl
    exact ⟨_, rfl, h⟩
theorem mul_meets (l : Addr) (items : Array Value) (n : Nat) (dd : Option Addr) (sl : Array (Option Value)) (x : Int) (u : Tok) (hc0 : ¬(!Builtin.List.listFitsIndex x) = true) (hc1 : ¬items.size * x.toNat > (2 ^ 63 - 1) / 8) (hc2 : ¬Builtin.List.listTooLong (items.size * x.toNat) = true)
    (hsz : (List.foldl (fun x1 x2 => x1 ++ x2) #[] (List.replicate (if items.isEmpty = true then 0 else x.toNat) items)).size ≤ sizeLine) :
    Meets (Builtin.«list.__mul__» ⟨[.ref l, .int x u], []⟩) (fun _ R s => s.heap.get? l = some { cls := .type "list", dict := dd, data := .seq items n, slots := sl } ∧
      R (.ok (.ret (Value.ref s.heap.objs.size))) { s with heap := s.heap.push { cls := Value.type "list", data := Data.seq (List.foldl (fun x1 x2 => x1 ++ x2) #[] (List.replicate (if items.isEmpty = true then 0 else x.toNat) items)) }, toks := s.toks }) :=
  .of_wp fun prog w A R s h => by
    obtain ⟨hp, g, d, tk, os⟩ := s
    obtain ⟨hl, h⟩ := h
    wp_walk using AutoSeq1.wpAny_loadPart' hl
    refine wpAny_ite_false (decide_eq_false (Nat.not_lt.mpr hsz)) ?_
    wp_walk using AutoSeq1.wpAny_loadPart' hl
    exact ⟨_, rfl, h⟩
section
variable {X : Cx}
def rCatL (K : Fg) : R2 := fun x y H Q => ∃ l b xs zs, x = .ref l ∧ y = .ref b ∧ SqL K H l xs ∧ SqL K H b zs ∧ xs.length + zs.length ≤ sizeLine ∧ ∀ p, H p = none → Q (.ref p) (upd H p (.lst (xs ++ zs)))
theorem op_catL : OpR X (binaryOp .Add) (rCatL X.K) := by
  intro pins s σ H x y v u Q I rx ry h
  obtain ⟨l, b, xs, zs, rfl, rfl, hH, hB, hz, q⟩ := h
  cases rx
  cases ry
  obtain ⟨its, r, ⟨⟨c1, dd, d1, sl⟩, n, e, k1, _, k2⟩, z⟩ := I.list hH
  obtain ⟨its2, r2, ⟨⟨c2, dd2, d2, sl2⟩, n2, e2, k3, _, k4⟩, z2⟩ := I.list hB
  simp only at k1 k2 k3 k4
  subst k1 k2 k3 k4
  have l1 := r.length
  have l2 := r2.length
  refine concat_meets ⟨_, e, rfl⟩ ⟨_, e2, rfl⟩ noFill_list_add seq_list_add F.slot_list_add F.entry_list_add (F.args_list_add_2 _ _) (add_meets l its.toArray n dd sl b its2.toArray n2 dd2 sl2 (by rw [List.size_toArray, List.size_toArray]; omega)) ⟨e, e2, ?_⟩
  have ea : its.toArray ++ its2.toArray = (its ++ its2).toArray := by simp
  rw [ea]
  exact ⟨.ref _, _, I.lnew (t' := s.toks) (r.append r2) (by rw [List.length_append]; omega), rfl, q _ I.fresh⟩
def rRepL (K : Fg) : R2 := fun x y H Q => ∃ l k xs, x = .ref l ∧ y = .int k ∧ SqL K H l xs ∧ -(2 ^ 63) ≤ k ∧ k < 2 ^ 63 ∧ xs.length * k.toNat ≤ sizeLine ∧
  ∀ p, H p = none → Q (.ref p) (upd H p (.lst (List.replicate k.toNat xs).flatten))
theorem op_repL : OpR X (binaryOp .Mult) (rRepL X.K) := by
  intro pins s σ H x y v u Q I rx ry h
  obtain ⟨l, k, xs, rfl, rfl, hH, h1, h2, hz, q⟩ := h
  cases rx
  obtain ⟨t, rfl⟩ := ry
  obtain ⟨its, r, ⟨⟨c1, dd, d1, sl⟩, n, e, k1, _, k2⟩, z⟩ := I.list hH
  simp only at k1 k2
  subst k1 k2
  have hl := r.length
  have hlen : its.toArray.size * k.toNat ≤ sizeLine := by rw [List.size_toArray, ← hl]; exact hz
  have hcap : ¬ its.toArray.size * k.toNat > (2 ^ 63 - 1) / 8 := by
    have : (sizeLine : Nat) ≤ (2 ^ 63 - 1) / 8 := by decide
    omega
  have hfit : ¬ (!Builtin.List.listFitsIndex k) = true := by
    rw [fitsIndex_both h1 h2]
    exact Bool.false_ne_true
  have hlong : ¬ Builtin.List.listTooLong (its.toArray.size * k.toNat) = true := by
    rw [notLongL hlen]
    exact Bool.false_ne_true
  have hnew : List.foldl (fun x1 x2 => x1 ++ x2) #[] (List.replicate (if its.toArray.isEmpty = true then 0 else k.toNat) its.toArray) = (List.replicate k.toNat its).flatten.toArray := by
    have f0 : ∀ m : Nat, List.foldl (fun x1 x2 => x1 ++ x2) #[] (List.replicate m its.toArray) = (List.replicate m its).flatten.toArray := fun m => by
      have := foldl_rep its m []
      rw [List.nil_append] at this
      exact this
    rw [f0]
    cases its with
    | nil => simp
    | cons a r' => rw [if_neg (by simp)]
  refine wpAny_binaryOp_repeat_ref (T := "list") (U := "int") (by decide) ⟨_, e, rfl⟩ (fun s' => typeIs_int s' k t) noFill_list_mul F.fills_int_mul F.slot_int_rmul repeat_list F.slot_int_index.lookup
    (call_meets F.slot_int_rmul (typeIs_int s k t) F.entry_int_rmul (F.args_int_rmul_2 _ _) (rmul_meets k t l its.toArray n dd sl)
      ⟨e, rfl, ⟨_, e, rfl⟩, call_meets F.slot_list_mul ⟨_, e, rfl⟩ F.entry_list_mul (F.args_list_mul_2 _ _) (mul_meets l its.toArray n dd sl k t hfit hcap hlong (by
        rw [hnew, List.size_toArray, PyProof.Rows.lm_len_rep_flat, Nat.mul_comm, ← hl]; exact hz)) ⟨e, ?_⟩⟩)
  rw [hnew]
  exact ⟨.ref _, _, I.lnew (t' := s.toks) (r.rep k.toNat) (by rw [PyProof.Rows.lm_len_rep_flat, Nat.mul_comm]; exact hz), rfl, q _ I.fresh⟩
theorem od_cat {kd : Kd} (hk : isF kd) : OpD X kd (binaryOp .Add) catD := by
  intro pins s σ H x y v u Q I rx ry ⟨O, d, e, z, dom, bx, by', hz, k⟩
  unfold catD at hz
  split at hz
  · obtain ⟨hl, rfl⟩ := ite_some hz
    obtain ⟨l, xs, rfl, h1, t1⟩ := bx.list
    obtain ⟨b, ys, rfl, h2, t2⟩ := by'.list
    exact op_catL pins s σ H _ _ v u Q I rx ry ⟨l, b, xs, ys, rfl, rfl, h1, h2, by rw [t1.length, t2.length]; exact lim_ble hl, fun p hp => k _ _ (sameNew hp) (newL hk hp dom (t1.append t2))⟩
  · cases hz
theorem od_add : OpD X .k (binaryOp .Add) addD := by
  intro pins s σ H x y v u Q I rx ry ⟨O, d, e, z, dom, bx, by', hz, k⟩
  unfold addD at hz
  split at hz
  · cases hz
    have e1 := bx.int
    have e2 := by'.int
    subst e1 e2
    exact op_add pins s σ H _ _ v u Q I rx ry ⟨_, _, rfl, rfl, k _ H (.refl _) (.int _)⟩
  · obtain ⟨hl, rfl⟩ := ite_some hz
    exact op_add_str pins s σ H _ _ v u Q I rx ry ⟨_, _, bx.str, by'.str, lim_ble hl, k _ H (.refl _) (.str _)⟩
  · obtain ⟨hl, rfl⟩ := ite_some hz
    obtain ⟨a, xs, rfl, h1, t1⟩ := bx.tuple
    obtain ⟨b, ys, rfl, h2, t2⟩ := by'.tuple
    refine op_catA pins s σ H _ _ v u Q I rx ry ⟨a, b, xs, ys, rfl, rfl, .of (hide_sub _ _ h1), .of (hide_sub _ _ h2), by rw [t1.length, t2.length]; exact lim_ble hl, fun hx => ?_, fun _ hy => ?_, fun _ _ p hp => k _ _ (sameNew hp) (newT hp dom (t1.append t2))⟩
    · refine k _ H (.refl _) (.tup h2 ?_)
      have := t1.append t2
      rw [hx] at this
      exact this
    · refine k _ H (.refl _) (.tup h1 ?_)
      have := t1.append t2
      rw [hy, List.append_nil] at this
      exact this
  · rename_i a b
    exact od_cat (kd := .k) trivial pins s σ H x y v u Q I rx ry ⟨O, .list a, .list b, z, dom, bx, by', hz, k⟩
  · cases hz
/-- an operation on two ints -/
theorem od_int {f : Value → Value → Sem Value} {g : D → D → Option D} {r : R2} (c : Int → Int → Bool) (p : Int → Int → Int) (hg : ∀ d e z, g d e = some z → ∃ i j, d = .int i ∧ e = .int j ∧ c i j = true ∧ z = .int (p i j)) (hr : OpR X f r)
    (h : ∀ i j H Q, c i j = true → Q (.int (p i j)) H → r (.int i) (.int j) H Q) : OpD X .k f g := by
  intro pins s σ H x y v u Q I rx ry ⟨O, d, e, z, dom, bx, by', hz, k⟩
  obtain ⟨i, j, rfl, rfl, hc, rfl⟩ := hg _ _ _ hz
  have e1 := bx.int
  have e2 := by'.int
  subst e1 e2
  exact hr pins s σ H _ _ v u Q I rx ry (h i j H Q hc (k _ H (.refl _) (.int _)))
def onI (c : Int → Int → Bool) (p : Int → Int → Int) : D → D → Option D
  | .int i, .int j => if c i j = true then some (.int (p i j)) else none
  | _, _ => none
theorem onI_some {c : Int → Int → Bool} {p : Int → Int → Int} {d e z : D} (h : onI c p d e = some z) : ∃ i j, d = .int i ∧ e = .int j ∧ c i j = true ∧ z = .int (p i j) := by
  unfold onI at h
  split at h
  · obtain ⟨hc, rfl⟩ := ite_some h
    exact ⟨_, _, rfl, rfl, hc, rfl⟩
  · cases h
def subD : D → D → Option D := onI (fun _ _ => true) fun i j => i - j
theorem od_sub : OpD X .k (binaryOp .Sub) subD := od_int _ _ (fun _ _ _ h => onI_some h) op_sub fun i j H Q _ q => ⟨i, j, rfl, rfl, q⟩
def divOk (_ j : Int) : Bool := decide (0 < j) && (Nat.blt j.natAbs 1073741824 || Nat.blt j.natAbs.log2 9000)
theorem divOk_w {i j : Int} (h : divOk i j = true) : CDivW i j := by
  unfold divOk at h
  rw [Bool.and_eq_true, Bool.or_eq_true, decide_eq_true_iff, Nat.blt_eq, Nat.blt_eq] at h
  refine ⟨h.1, ?_⟩
  rcases h.2 with q | q
  · have : j.natAbs < 2 ^ 30 := by omega
    have := PySem.Flt.log2_lt_of (by decide) this
    omega
  · exact q
def divD : D → D → Option D := onI divOk fun i j => i / j
theorem od_div : OpD X .k (binaryOp .FloorDiv) divD := od_int _ _ (fun _ _ _ h => onI_some h) op_fdivW fun i j H Q c q => ⟨i, j, rfl, rfl, divOk_w c, q⟩
def modD : D → D → Option D := onI (fun _ j => decide (0 < j)) fun i j => i % j
theorem od_mod : OpD X .k (binaryOp .Mod) modD := od_int _ _ (fun _ _ _ h => onI_some h) op_mod fun i j H Q c q => ⟨i, j, rfl, rfl, of_decide_eq_true c, q⟩
def powOk (i j : Int) : Bool := decide (0 ≤ j) && Nat.ble j.natAbs 1000000 && Nat.blt i.natAbs 18446744073709551616
def powD : D → D → Option D := onI powOk fun i j => i ^ j.toNat
theorem od_pow : OpD X .k (binaryOp .Pow) powD := od_int _ _ (fun _ _ _ h => onI_some h) op_pow fun i j H Q c q => by
  unfold powOk at c
  rw [Bool.and_eq_true, Bool.and_eq_true, decide_eq_true_iff, Nat.ble_eq, Nat.blt_eq] at c
  exact ⟨i, j, rfl, rfl, ⟨c.1.1, by omega, by omega⟩, q⟩
def mulOk (i j : Int) : Bool := Nat.blt i.natAbs 18446744073709551616 || Nat.blt j.natAbs 18446744073709551616 || Nat.blt (i.natAbs.log2 + j.natAbs.log2) 1000000
def rep {α : Type} (k : Int) (xs : List α) : List α := (List.replicate k.toNat xs).flatten
def repOk (n : Nat) (k : Int) : Bool := Nat.ble k.natAbs 1000000 && Nat.ble (n * k.toNat) lim
def mulD : D → D → Option D
  | .int i, .int j => if mulOk i j = true then some (.int (i * j)) else none
  | .list xs, .int k => if repOk xs.length k = true then some (.list (rep k xs)) else none
  | _, _ => none
def repD : D → D → Option D
  | .list xs, .int k => if repOk xs.length k = true then some (.list (rep k xs)) else none
  | _, _ => none
theorem od_mulL {kd : Kd} (hk : isF kd) : OpD X kd (binaryOp .Mult) repD := by
  intro pins s σ H x y v u Q I rx ry ⟨O, d, e, z, dom, bx, by', hz, k⟩
  unfold repD at hz
  split at hz
  · obtain ⟨hl, rfl⟩ := ite_some hz
    unfold repOk at hl
    rw [Bool.and_eq_true, Nat.ble_eq] at hl
    obtain ⟨l, ys, rfl, h1, t1⟩ := bx.list
    have e2 := by'.int
    subst e2
    exact op_repL pins s σ H _ _ v u Q I rx ry ⟨l, _, ys, rfl, rfl, h1, by omega, by omega, by rw [t1.length]; exact lim_ble hl.2, fun p hp => k _ _ (sameNew hp) (newL hk hp dom (t1.rep _))⟩
  · cases hz
theorem od_mul : OpD X .k (binaryOp .Mult) mulD := by
  intro pins s σ H x y v u Q I rx ry ⟨O, d, e, z, dom, bx, by', hz, k⟩
  unfold mulD at hz
  split at hz
  · obtain ⟨hc, rfl⟩ := ite_some hz
    have e1 := bx.int
    have e2 := by'.int
    subst e1 e2
    have q := k _ H (.refl _) (.int _)
    unfold mulOk at hc
    rw [Bool.or_eq_true, Bool.or_eq_true, Nat.blt_eq, Nat.blt_eq, Nat.blt_eq] at hc
    rcases hc with (hc | hc) | hc
    · exact op_mul pins s σ H _ _ v u Q I rx ry ⟨_, _, rfl, rfl, .inl ⟨by omega, by omega⟩, q⟩
    · exact op_mul pins s σ H _ _ v u Q I rx ry ⟨_, _, rfl, rfl, .inr ⟨by omega, by omega⟩, q⟩
    · exact op_mulW pins s σ H _ _ v u Q I rx ry ⟨_, _, rfl, rfl, hc, q⟩
  · exact od_mulL (kd := .k) trivial pins s σ H x y v u Q I rx ry ⟨O, _, _, z, dom, bx, by', hz, k⟩
  · cases hz
def negD : D → Option D
  | .int i => some (.int (-i))
  | _ => none
theorem ud_neg : UnD X .k (unaryOp .USub) negD := by
  intro pins s σ H x v Q I rx ⟨O, d, z, dom, bx, hz, k⟩
  unfold negD at hz
  split at hz
  · cases hz
    have e1 := bx.int
    subst e1
    exact un_neg pins s σ H _ v Q I rx ⟨_, rfl, k _ H (.refl _) (.int _)⟩
  · cases hz
/-! ## a[i], a[lo:hi] -/
def ixD : D → D → Option D
  | .list xs, .int i => atI xs i
  | .tuple xs, .int i => atI xs i
  | .str z, .int i => if Nat.ble z.length lim = true then (atI z.cps.toList i).map fun c => .str ⟨#[c]⟩ else none
  | _, _ => none
theorem DnL.atI {K : Fg} {G : Hp} {xs : List V} {ds : List D} {i : Int} {z : D} (t : DnL K G xs ds) (h : atI ds i = some z) : ∃ v, L2.atI xs i = some v ∧ Dn K G v z := by
  unfold L2.atI at h ⊢
  rw [t.length]
  obtain ⟨j, h1, h2⟩ := Option.bind_eq_some_iff.mp h
  obtain ⟨u, e1, e2⟩ := t.get h2
  exact ⟨u, Option.bind_eq_some_iff.mpr ⟨j, h1, e1⟩, e2⟩
theorem ix_d : IxD X .k ixD := by
  intro value slice pins s σ H x y v u Q I rx ry ⟨O, d, e, z, dom, bx, by', hz, k⟩ hs
  unfold ixD at hz
  split at hz
  · have e2 := by'.int
    subst e2
    obtain ⟨l, xs, rfl, h1, t1⟩ := bx.list
    obtain ⟨w, e1, e2⟩ := t1.atI hz
    exact ix_seq value slice pins s σ H _ _ v u Q I rx ry (.inl ⟨l, xs, _, w, rfl, rfl, h1, e1, k _ H (.refl _) e2⟩) hs
  · have e2 := by'.int
    subst e2
    obtain ⟨l, xs, rfl, h1, t1⟩ := bx.tuple
    obtain ⟨w, e1, e2⟩ := t1.atI hz
    exact ix_seq value slice pins s σ H _ _ v u Q I rx ry (.inr (.inl ⟨l, xs, _, w, rfl, rfl, .of (hide_sub _ _ h1), e1, k _ H (.refl _) e2⟩)) hs
  · have e2 := by'.int
    subst e2
    obtain ⟨hl, hz⟩ := (show Nat.ble _ lim = true ∧ _ from by
      split at hz
      · rename_i h; exact ⟨h, hz⟩
      · cases hz)
    obtain ⟨c, hc, rfl⟩ := Option.map_eq_some_iff.mp hz
    exact ix_seq value slice pins s σ H _ _ v u Q I rx ry (.inr (.inr ⟨_, _, c, bx.str, rfl, lim_ble hl, hc, k _ H (.refl _) (.str _)⟩)) hs
  · cases hz
/-- the part lo:hi -/
def cutD {α : Type} (xs : List α) (lo hi : Option Int) : List α := (xs.drop (HT.sIx xs.length 0 lo)).take (HT.sIx xs.length xs.length hi - HT.sIx xs.length 0 lo)
theorem DnL.cut {K : Fg} {G : Hp} {xs : List V} {ds : List D} (t : DnL K G xs ds) (lo hi : Option Int) : DnL K G (cutV xs lo hi) (cutD ds lo hi) := by
  unfold cutV cutD
  rw [t.length]
  exact (t.drop _).take _
def slD (d : D) (lo hi : Option Int) : Option D := match d with
  | .list xs => some (.list (cutD xs lo hi))
  | .tuple xs => some (.tuple (cutD xs lo hi))
  | .str z => if Nat.ble z.length lim = true then some (.str (cutS z lo hi)) else none
  | _ => none
def slL (d : D) (lo hi : Option Int) : Option D := match d with
  | .list xs => some (.list (cutD xs lo hi))
  | _ => none
def SlD (X : Cx) (kd : Kd) (g : D → Option Int → Option Int → Option D) : Prop :=
  SlR X fun x lo hi H Q => ∃ (O : Ad) (d z : D), (∀ a, O a → H a ≠ none) ∧ Bw X.K O H x d ∧ g d lo hi = some z ∧ ∀ v H', Same H H' → Vr X.K kd O H H' v z → Q v H'
theorem sl_L {kd : Kd} (hk : isF kd) : SlD X kd slL := by
  intro pins s σ H x v vl vu lo hi sl Q I rx hs pl pu ⟨O, d, z, dom, bx, hz, k⟩
  unfold slL at hz
  split at hz
  · cases hz
    obtain ⟨l, xs, rfl, h1, t1⟩ := bx.list
    exact sl_list pins s σ H _ v vl vu lo hi sl Q I rx hs pl pu ⟨l, xs, rfl, h1, fun p hp => k _ _ (sameNew hp) (newL hk hp dom (t1.cut lo hi))⟩
  · cases hz
theorem sl_d : SlD X .k slD := by
  intro pins s σ H x v vl vu lo hi sl Q I rx hs pl pu ⟨O, d, z, dom, bx, hz, k⟩
  unfold slD at hz
  split at hz
  · exact sl_L (kd := .k) trivial pins s σ H x v vl vu lo hi sl Q I rx hs pl pu ⟨O, _, z, dom, bx, hz, k⟩
  · cases hz
    obtain ⟨l, xs, rfl, h1, t1⟩ := bx.tuple
    refine sl_tupA pins s σ H _ v vl vu lo hi sl Q I rx hs pl pu ⟨l, xs, rfl, .of (hide_sub _ _ h1), fun hw => ?_, fun _ p hp => k _ _ (sameNew hp) (newT hp dom (t1.cut lo hi))⟩
    refine k _ H (.refl _) (.tup h1 ?_)
    rw [t1.length] at hw
    unfold cutD
    rw [hw.1, hw.2, List.drop_zero, Nat.sub_zero, List.take_length]
    exact t1
  · obtain ⟨hl, rfl⟩ := ite_some hz
    exact sl_str pins s σ H _ v vl vu lo hi sl Q I rx hs pl pu ⟨_, bx.str, lim_ble hl, k _ H (.refl _) (.str _)⟩
  · cases hz
/-- a part's bound -/
def oN : Rho → Option (Option Int) := fun _ => some none
def intOf : D → Option Int
  | .int i => some i
  | _ => none
theorem intOf_some {d : D} {i : Int} (h : intOf d = some i) : d = .int i := by
  cases d <;> simp [intOf] at h
  rw [h]
def oI (f : Rho → Option D) : Rho → Option (Option Int) := fun ρ => (f ρ).bind fun d => (intOf d).map some
structure OG (X : Cx) (e : Option Expr) (f : Rho → Option (Option Int)) : Prop where
  ex : ∃ t : TO, PO X e t ∧ ∀ (F : Fx) (σ : L2.St) (H : Hp) (ρ : Rho) (o : Option Int) (Q : Option Int → Hp → Prop), Rl X.K F σ H ρ → f ρ = some o →
    (∀ H', Rl X.K F σ H' ρ → Same H H' → Q o H') → t σ H Q
theorem og_none : OG X none oN := ⟨_, po_none, fun F σ H ρ o Q R hf k => by cases hf; exact k H R (.refl _)⟩
theorem og_some {e : Expr} {kd : Kd} {f : Rho → Option D} (h : EP X kd e f) : OG X (some e) (oI f) := by
  obtain ⟨t, h1, h2⟩ := h.ex
  refine ⟨_, po_some h1, fun F σ H ρ o Q R hf k => ?_⟩
  obtain ⟨d, e1, e2⟩ := Option.bind_eq_some_iff.mp hf
  obtain ⟨i, e3, e4⟩ := Option.map_eq_some_iff.mp e2
  have e5 := intOf_some e3
  subst e5 e4
  refine h2 F σ H ρ _ ρ _ R (lift_some.mpr ⟨e1, rfl⟩) fun v H' p r => ?_
  exact ⟨i, r.bw.int, k H' p.rl (p.pu rfl).2⟩
def puS (g : D → Option Int → Option Int → Option D) (fa : Rho → Option D) (fl fh : Rho → Option (Option Int)) : Rho → Option D := fun ρ => (fa ρ).bind fun a => (fl ρ).bind fun l => (fh ρ).bind fun h => g a l h
theorem ep_sl {kd k1 : Kd} {g : D → Option Int → Option Int → Option D} {a : Expr} {lo hi : Option Expr} {fa : Rho → Option D} {fl fh : Rho → Option (Option Int)} {p2 pos : Pos} (hg : SlD X kd g) (ha : EP X k1 a fa) (hl : OG X lo fl) (hh : OG X hi fh) : EP X kd (.Subscript a (.Slice lo hi none p2) pos) (puS g fa fl fh) := by
  obtain ⟨ta, ha1, ha2⟩ := ha.ex
  obtain ⟨tl, hl1, hl2⟩ := hl.ex
  obtain ⟨th, hh1, hh2⟩ := hh.ex
  refine ⟨_, pe_slice hg ha1 hl1 hh1, fun F σ H ρ d ρ' Q R hf k => ?_⟩
  obtain ⟨hf, rfl⟩ := lift_some.mp hf
  obtain ⟨x, e1, hf⟩ := Option.bind_eq_some_iff.mp hf
  obtain ⟨l, e2, hf⟩ := Option.bind_eq_some_iff.mp hf
  obtain ⟨h, e3, hf⟩ := Option.bind_eq_some_iff.mp hf
  refine ha2 F σ H ρ' x ρ' _ R (lift_some.mpr ⟨e1, rfl⟩) fun v H1 p1 r1 => ?_
  refine hl2 F σ H1 ρ' l _ p1.rl e2 fun H2 R2 s2 => ?_
  refine hh2 F σ H2 ρ' h _ R2 e3 fun H3 R3 s3 => ?_
  have s := s2.trans s3
  refine ⟨Ow F σ ρ', x, d, R3.domO, r1.bw.mono (hide_same s) s, hf, fun z H4 s4 r4 => ?_⟩
  have sA := (p1.pu rfl).2.trans s
  exact k z H4 (.grow R (sA.trans s4)) (.of R3 s4 r4 fun a h => sameDom sA h)
end
end DL
namespace DL
open L2 PyProof.Rows PySem PySem.Spec
/-! ## built-ins -/
section
variable {X : Cx}
theorem BwL.one {K : Fg} {O : Ad} {H : Hp} {vs : List V} {d : D} (h : BwL K O H vs [d]) : ∃ v, vs = [v] ∧ Bw K O H v d := by
  cases h with
  | cons h t => cases t; exact ⟨_, rfl, h⟩
theorem BwL.two {K : Fg} {O : Ad} {H : Hp} {vs : List V} {d e : D} (h : BwL K O H vs [d, e]) : ∃ v u, vs = [v, u] ∧ Bw K O H v d ∧ Bw K O H u e := by
  cases h with
  | cons h t =>
    obtain ⟨u, rfl, hu⟩ := t.one
    exact ⟨_, u, rfl, h, hu⟩
/-- one argument -/
theorem cd_one {f : Value} {kd : Kd} {g : List D → Option D} {g1 : D → Option D} (hg : ∀ ds z, g ds = some z → ∃ d, ds = [d] ∧ g1 d = some z)
    (h : ∀ (pins : List (Addr × Obj)) (s : Shared) (σ : L2.St) (H : Hp) (O : Ad) (x : V) (v : Value) (d z : D) (Q : VK), Inv X pins σ H s → RelV x v → (∀ a, O a → H a ≠ none) → Bw X.K O H x d → g1 d = some z →
      (∀ v H', Same H H' → Vr X.K kd O H H' v z → Q v H') → wpAny (model X.prog X.w) X.A (call f [v]) (L2.EP X pins σ Q) X.xe s) : CallD X kd f g := by
  intro pins s σ H xs us Q I rs ⟨O, ds, z, dom, bs, hz, k⟩
  obtain ⟨d, rfl, h1⟩ := hg _ _ hz
  obtain ⟨x, rfl, bx⟩ := bs.one
  obtain ⟨u, rfl, rx⟩ := vals1 rs
  exact h pins s σ H O x u d z Q I rx dom bx h1 k
def on1 (g : D → Option D) : List D → Option D
  | [d] => g d
  | _ => none
theorem on1_some {g : D → Option D} {ds : List D} {z : D} (h : on1 g ds = some z) : ∃ d, ds = [d] ∧ g d = some z := by
  unfold on1 at h
  split at h
  · exact ⟨_, rfl, h⟩
  · cases h
def lenD : D → Option D
  | .list xs => some (.int xs.length)
  | .tuple xs => some (.int xs.length)
  | .str z => if Nat.ble z.length lim = true then some (.int z.length) else none
  | _ => none
theorem cd_len : CallD X .k (.builtin "len") (on1 lenD) := cd_one (fun _ _ h => on1_some h) fun pins s σ H O x v d z Q I rx dom bx hz k => by
  have r1 : Vals [x] [v] := .cons rx .nil
  unfold lenD at hz
  split at hz
  · cases hz
    obtain ⟨l, xs, rfl, h1, t1⟩ := bx.list
    exact call_len_seq pins s σ H _ _ Q I r1 ⟨l, xs, rfl, .inl h1, by rw [t1.length]; exact k _ H (.refl _) (.int _)⟩
  · cases hz
    obtain ⟨l, xs, rfl, h1, t1⟩ := bx.tuple
    exact call_len_seq pins s σ H _ _ Q I r1 ⟨l, xs, rfl, .inr (.of (hide_sub _ _ h1)), by rw [t1.length]; exact k _ H (.refl _) (.int _)⟩
  · obtain ⟨hl, rfl⟩ := ite_some hz
    exact call_len_str pins s σ H _ _ Q I r1 ⟨_, by rw [bx.str], lim_ble hl, k _ H (.refl _) (.int _)⟩
  · cases hz
def absD : D → Option D
  | .int i => some (.int (if i < 0 then -i else i))
  | _ => none
theorem cd_abs : CallD X .k (.builtin "abs") (on1 absD) := cd_one (fun _ _ h => on1_some h) fun pins s σ H O x v d z Q I rx dom bx hz k => by
  unfold absD at hz
  split at hz
  · cases hz
    exact call_abs pins s σ H _ _ Q I (.cons rx .nil) ⟨_, by rw [bx.int], k _ H (.refl _) (.int _)⟩
  · cases hz
def intD : D → Option D
  | .int i => some (.int i)
  | .bool b => some (.int (if b then 1 else 0))
  | .str x => if Nat.ble x.length 640 = true then (PySem.intText? x).map .int else none
  | _ => none
theorem cd_int : CallD X .k (.type "int") (on1 intD) := cd_one (fun _ _ h => on1_some h) fun pins s σ H O x v d z Q I rx dom bx hz k => by
  unfold intD at hz
  split at hz
  · cases hz
    exact call_int1 pins s σ H _ _ Q I (.cons rx .nil) (.inl ⟨_, by rw [bx.int], k _ H (.refl _) (.int _)⟩)
  · cases hz
    exact call_int1 pins s σ H _ _ Q I (.cons rx .nil) (.inr ⟨_, by rw [bx.bool], k _ H (.refl _) (.int _)⟩)
  · obtain ⟨hl, hz⟩ := (show Nat.ble _ 640 = true ∧ _ from by
      split at hz
      · rename_i h; exact ⟨h, hz⟩
      · cases hz)
    obtain ⟨n, hn, rfl⟩ := Option.map_eq_some_iff.mp hz
    exact call_int_str pins s σ H _ _ Q I (.cons rx .nil) ⟨_, n, by rw [bx.str], hn, Nat.le_of_ble_eq_true hl, k _ H (.refl _) (.int _)⟩
  · cases hz
def strD : D → Option D
  | .int i => if Nat.blt i.natAbs.log2 1920 = true then some (.str (toString i)) else none
  | _ => none
theorem cd_str : CallD X .k (.type "str") (on1 strD) := cd_one (fun _ _ h => on1_some h) fun pins s σ H O x v d z Q I rx dom bx hz k => by
  unfold strD at hz
  split at hz
  · obtain ⟨hl, rfl⟩ := ite_some hz
    exact call_str_int pins s σ H _ _ Q I (.cons rx .nil) ⟨_, by rw [bx.int], by rw [Nat.blt_eq] at hl; exact hl, k _ H (.refl _) (.str _)⟩
  · cases hz
/-! tuple(x), list(x) -/
def tupD : D → Option D
  | .list xs => some (.tuple xs)
  | .tuple xs => some (.tuple xs)
  | _ => none
theorem cd_tup : CallD X .k (.type "tuple") (on1 tupD) := cd_one (fun _ _ h => on1_some h) fun pins s σ H O x v d z Q I rx dom bx hz k => by
  unfold tupD at hz
  split at hz
  · cases hz
    obtain ⟨l, xs, rfl, h1, t1⟩ := bx.list
    exact call_tuple_of pins s σ H _ _ Q I (.cons rx .nil) ⟨l, xs, rfl, .inl ⟨h1, fun p hp => k _ _ (sameNew hp) (newT hp dom t1)⟩⟩
  · cases hz
    obtain ⟨l, xs, rfl, h1, t1⟩ := bx.tuple
    exact call_tuple_of pins s σ H _ _ Q I (.cons rx .nil) ⟨l, xs, rfl, .inr ⟨.of (hide_sub _ _ h1), k _ H (.refl _) (.tup h1 t1)⟩⟩
  · cases hz
def lstD : D → Option D
  | .list xs => some (.list xs)
  | .tuple xs => some (.list xs)
  | _ => none
theorem cd_lst {kd : Kd} (hk : isF kd) : CallD X kd (.type "list") (on1 lstD) := cd_one (fun _ _ h => on1_some h) fun pins s σ H O x v d z Q I rx dom bx hz k => by
  unfold lstD at hz
  split at hz
  · cases hz
    obtain ⟨l, xs, rfl, h1, t1⟩ := bx.list
    exact call_list_of pins s σ H _ _ Q I (.cons rx .nil) ⟨l, xs, rfl, .inl h1, fun p hp => k _ _ (sameNew hp) (newL hk hp dom t1)⟩
  · cases hz
    obtain ⟨l, xs, rfl, h1, t1⟩ := bx.tuple
    exact call_list_of pins s σ H _ _ Q I (.cons rx .nil) ⟨l, xs, rfl, .inr (.of (hide_sub _ _ h1)), fun p hp => k _ _ (sameNew hp) (newL hk hp dom t1)⟩
  · cases hz
/-! a walked list or tuple -/
theorem bw_seq {pins : List (Addr × Obj)} {σ : L2.St} {H : Hp} {s : Shared} {O : Ad} {x : V} {v : Value} {d : D} {ds : List D} (I : Inv X pins σ H s) (rx : RelV x v) (bx : Bw X.K O H x d) (hd : d = .list ds ∨ d = .tuple ds) :
    ∃ a xs its, v = .ref a ∧ DnL X.K (hide H O) xs ds ∧ Vals xs its ∧ xs.length ≤ sizeLine ∧ ((d = .list ds ∧ s.heap.IsList a its.toArray) ∨ (d = .tuple ds ∧ s.heap.IsTuple a its.toArray)) := by
  rcases hd with rfl | rfl
  · obtain ⟨l, xs, rfl, h1, t1⟩ := bx.list
    cases rx
    obtain ⟨its, rv, hl, hz⟩ := I.list h1
    exact ⟨l, xs, its, rfl, t1, rv, hz, .inl ⟨rfl, hl.isList⟩⟩
  · obtain ⟨l, xs, rfl, h1, t1⟩ := bx.tuple
    cases rx
    obtain ⟨its, rv, hl, hz⟩ := I.tuple (.of (hide_sub _ _ h1))
    exact ⟨l, xs, its, rfl, t1, rv, hz, .inr ⟨rfl, hl⟩⟩
def allAlike (ds : List D) : Bool := ds.all fun a => ds.all fun b => PySem.W.alike a b
theorem allAlike_iff {ds : List D} (h : allAlike ds = true) : PySem.W.AllAlike ds := by
  unfold allAlike at h
  intro a ha b hb
  exact List.all_eq_true.mp (List.all_eq_true.mp h a ha) b hb
def plOk (ds : List D) : Bool := PyData.plainAll ds && Nat.ble (PyData.depthAll ds) 40
theorem plOk_iff {ds : List D} : plOk ds = true ↔ PyData.plainAll ds = true ∧ PyData.depthAll ds ≤ 40 := by unfold plOk; rw [Bool.and_eq_true, Nat.ble_eq]
end
end DL
namespace DL
open L2 PyProof.Rows PySem PySem.Spec
/-! ## min, max, sum, sorted, any, all of a list or tuple -/
theorem valsGet : ∀ {xs : List V} {us : List Value} {i : Nat} {u : Value}, Vals xs us → us[i]? = some u → ∃ x, xs[i]? = some x ∧ RelV x u
  | _, _, _, _, .nil, e => by simp at e
  | _, _, 0, _, .cons r _, e => by simp at e; subst e; exact ⟨_, rfl, r⟩
  | _, _, i + 1, _, .cons _ t, e => by
    obtain ⟨x, h1, h2⟩ := valsGet (i := i) t (by simpa using e)
    exact ⟨x, by simpa using h1, h2⟩
section
variable {X : Cx}
def listOf : D → Option (List D)
  | .list xs => some xs
  | .tuple xs => some xs
  | _ => none
theorem listOf_some {d : D} {ds : List D} (h : listOf d = some ds) : d = .list ds ∨ d = .tuple ds := by
  unfold listOf at h
  split at h
  · cases h; exact .inl rfl
  · cases h; exact .inr rfl
  · cases h
def bestOk (ds : List D) : Bool := allAlike ds && ds.all notN && plOk ds
theorem bestOk_iff {ds : List D} (h : bestOk ds = true) : PySem.W.AlikeAll ds ∧ PyData.plainAll ds = true ∧ PyData.depthAll ds ≤ 40 := by
  unfold bestOk at h
  rw [Bool.and_eq_true, Bool.and_eq_true, plOk_iff] at h
  exact ⟨⟨allAlike_iff h.1.1, fun x hx => notN_ne (List.all_eq_true.mp h.1.2 x hx)⟩, h.2⟩
/-- the item at i of a walked sequence is the datum that it reads as -/
theorem best_end {pins : List (Addr × Obj)} {σ : L2.St} {H : Hp} {s : Shared} {O : Ad} {xs : List V} {its : List Value} {ds : List D} {z : D} {Q : VK} {i : Nat} {v : Value} {h' : Heap} {tk : Nat} {bs : List Addr} (I : Inv X pins σ H s) (t : DnL X.K (hide H O) xs ds) (rv : Vals xs its) (hp : PyData.plainAll ds = true)
    (hv : its.toArray[i]? = some v) (r : Reads h' v z bs) (kp : ∀ b o, s.heap.get? b = some o → h'.get? b = some o) (k : ∀ v H', Same H H' → Vr X.K .k O H H' v z → Q v H') : L2.EP X pins σ Q v { s with heap := h', toks := tk } := by
  have hv' : its[i]? = some v := by simpa using hv
  obtain ⟨x, e1, rx⟩ := valsGet rv hv'
  obtain ⟨d, e2, dn⟩ := t.getV e1
  obtain ⟨as, rd⟩ := Dn.reads I hide_sub dn (PySem.W.plain_mem hp (List.mem_of_getElem? e2)) rx
  obtain ⟨e3, _⟩ := PyProof.Rows.reads_det (fun b o q _ => kp b o q) rd r
  subst e3
  exact ⟨x, H, I.kept (t' := tk) kp, rx, k x H (.refl _) dn⟩
def minL : D → Option D := fun d => match listOf d with
  | some (x :: xs) => if bestOk (x :: xs) = true then some (PySem.W.minD x xs) else none
  | _ => none
def maxL : D → Option D := fun d => match listOf d with
  | some (x :: xs) => if bestOk (x :: xs) = true then some (PySem.W.maxD x xs) else none
  | _ => none
theorem cd_minL (hc : X.calm = true) (hu : X.A.units + 64 < cLine) : CallD X .k (.builtin "min") (on1 minL) := cd_one (fun _ _ h => on1_some h) fun pins s σ H O x v d z Q I rx dom bx hz k => by
  unfold minL at hz
  split at hz
  · rename_i y ys he
    obtain ⟨hb, rfl⟩ := ite_some hz
    obtain ⟨al, hp, hd⟩ := bestOk_iff hb
    obtain ⟨a, xs, its, rfl, t, rv, _, hl⟩ := bw_seq I rx bx (listOf_some he)
    obtain ⟨as, hr⟩ := DnL.reads I hide_sub t hp rv
    rcases hl with ⟨_, hl⟩ | ⟨_, hl⟩
    · exact PySem.W.min_list_data (I.ok.hd hc) hl hr al (by omega) fun i w h' tk bs hv r kp => best_end I t rv hp hv r kp k
    · exact PySem.W.min_tuple_data (I.ok.hd hc) hl hr al (by omega) fun i w h' tk bs hv r kp => best_end I t rv hp hv r kp k
  · cases hz
theorem cd_maxL (hc : X.calm = true) (hu : X.A.units + 64 < cLine) : CallD X .k (.builtin "max") (on1 maxL) := cd_one (fun _ _ h => on1_some h) fun pins s σ H O x v d z Q I rx dom bx hz k => by
  unfold maxL at hz
  split at hz
  · rename_i y ys he
    obtain ⟨hb, rfl⟩ := ite_some hz
    obtain ⟨al, hp, hd⟩ := bestOk_iff hb
    obtain ⟨a, xs, its, rfl, t, rv, _, hl⟩ := bw_seq I rx bx (listOf_some he)
    obtain ⟨as, hr⟩ := DnL.reads I hide_sub t hp rv
    rcases hl with ⟨_, hl⟩ | ⟨_, hl⟩
    · exact PySem.W.max_list_data (I.ok.hd hc) hl hr al (by omega) fun i w h' tk bs hv r kp => best_end I t rv hp hv r kp k
    · exact PySem.W.max_tuple_data (I.ok.hd hc) hl hr al (by omega) fun i w h' tk bs hv r kp => best_end I t rv hp hv r kp k
  · cases hz
def min2D : List D → Option D
  | [.int i, .int j] => some (.int (if j < i then j else i))
  | _ => none
def max2D : List D → Option D
  | [.int i, .int j] => some (.int (if j > i then j else i))
  | _ => none
theorem cd_min2 (hc : X.calm = true) : CallD X .k (.builtin "min") min2D := by
  intro pins s σ H xs us Q I rs ⟨O, ds, z, dom, bs, hz, k⟩
  unfold min2D at hz
  split at hz
  · cases hz
    obtain ⟨v, u, rfl, b1, b2⟩ := bs.two
    exact call_min2 hc pins s σ H _ us Q I rs ⟨_, _, by rw [b1.int, b2.int], k _ H (.refl _) (.int _)⟩
  · cases hz
theorem cd_max2 (hc : X.calm = true) : CallD X .k (.builtin "max") max2D := by
  intro pins s σ H xs us Q I rs ⟨O, ds, z, dom, bs, hz, k⟩
  unfold max2D at hz
  split at hz
  · cases hz
    obtain ⟨v, u, rfl, b1, b2⟩ := bs.two
    exact call_max2 hc pins s σ H _ us Q I rs ⟨_, _, by rw [b1.int, b2.int], k _ H (.refl _) (.int _)⟩
  · cases hz
def intsOf : List D → Option (List Int)
  | [] => some []
  | .int i :: ds => (intsOf ds).map (i :: ·)
  | _ :: _ => none
theorem intsOf_some : ∀ {ds : List D} {ns : List Int}, intsOf ds = some ns → ds = ns.map .int
  | [], _, h => by cases h; rfl
  | .int i :: ds, _, h => by
    obtain ⟨ns, h1, rfl⟩ := Option.map_eq_some_iff.mp h
    rw [intsOf_some h1]
    rfl
  | .none :: _, _, h => by cases h
  | .bool _ :: _, _, h => by cases h
  | .str _ :: _, _, h => by cases h
  | .list _ :: _, _, h => by cases h
  | .tuple _ :: _, _, h => by cases h
  | .dict _ :: _, _, h => by cases h
theorem intsOf_map : ∀ ns : List Int, intsOf (ns.map .int) = some ns
  | [] => rfl
  | n :: ns => by
    show (intsOf (ns.map .int)).map (n :: ·) = _
    rw [intsOf_map ns]
    rfl
def sumI (ns : List Int) : Int := ns.foldr (· + ·) 0
def sumD : D → Option D := fun d => (listOf d).bind fun ds => (intsOf ds).map fun ns => .int (sumI ns)
theorem preSum_cons (n : Int) (ns : List Int) : ∀ k, preSum (fun i => (n :: ns).getD i 0) (k + 1) = n + preSum (fun i => ns.getD i 0) k
  | 0 => by simp [preSum]
  | k + 1 => by
    have h := preSum_cons n ns k
    have e : (n :: ns).getD (k + 1) 0 = ns.getD k 0 := by simp
    show preSum (fun i => (n :: ns).getD i 0) (k + 1) + (n :: ns).getD (k + 1) 0 = n + (preSum (fun i => ns.getD i 0) k + ns.getD k 0)
    rw [h, e, Int.add_assoc]
theorem preSum_all : ∀ ns : List Int, preSum (fun i => ns.getD i 0) ns.length = sumI ns
  | [] => rfl
  | n :: ns => by
    rw [List.length_cons, preSum_cons, preSum_all ns]
    rfl
theorem cd_sum (hc : X.calm = true) : CallD X .k (.builtin "sum") (on1 sumD) := cd_one (fun _ _ h => on1_some h) fun pins s σ H O x v d z Q I rx dom bx hz k => by
  obtain ⟨ds, he, hz⟩ := Option.bind_eq_some_iff.mp hz
  obtain ⟨ns, hn, rfl⟩ := Option.map_eq_some_iff.mp hz
  have e := intsOf_some hn
  subst e
  obtain ⟨a, xs, its, rfl, t, rv, _, hl⟩ := bw_seq I rx bx (listOf_some he)
  have ex := t.ints
  subst ex
  have hia : IntsAre its.toArray.toList ns := L2.intsAre_of rv
  have hlen : its.toArray.size = ns.length := by rw [List.size_toArray, ← rv.length, List.length_map]
  have hP : ∀ (i : Nat) (w : Value), its.toArray[i]? = some w → ∃ t, w = .int (ns.getD i 0) t := fun i w hw => by
    have hw' : its[i]? = some w := by simpa using hw
    obtain ⟨x, e1, rx⟩ := valsGet rv hw'
    rw [List.getElem?_map] at e1
    obtain ⟨n, e2, rfl⟩ := Option.map_eq_some_iff.mp e1
    obtain ⟨tk, rfl⟩ := rx
    refine ⟨tk, ?_⟩
    rw [List.getD_eq_getElem?_getD, e2]
    rfl
  have fin : ∀ (s2 s' : Shared) (o : Obj) (t' : Tok), s2 = { s with heap := s.heap.push o } → Moved [s.heap.objs.size] (fun a b => b = a) s2 s' → L2.EP X pins σ Q (.int (preSum (fun i => ns.getD i 0) its.toArray.size) t') s' := fun s2 s' o t' e m => by
    obtain ⟨h', tk, rfl, kp⟩ := PySem.W.moved_old e rfl m
    rw [hlen, preSum_all]
    exact ⟨.int _, H, I.kept (t' := tk) kp, ⟨t', rfl⟩, k _ H (.refl _) (.int _)⟩
  rcases hl with ⟨_, hl⟩ | ⟨_, hl⟩
  · exact call_sum_walkAnyS (PySem.W.iter_listW (A := X.A.in1) (I.ok.hd hc) hl fun s₂ e W st hfp hw hk => ⟨_, _, _, _, _, _, _, _, rfl, W, st, hfp, hP, fun s' t' m => fin s₂ s' _ t' e m⟩)
  · exact call_sum_walkAnyS (PySem.W.iter_tupleW (A := X.A.in1) (I.ok.hd hc) hl fun s₂ e W st hfp hw hk => ⟨_, _, _, _, _, _, _, _, rfl, W, st, hfp, hP, fun s' t' m => fin s₂ s' _ t' e m⟩)
/-! any, all: of bools -/
def blsOf : List D → Option (List Bool)
  | [] => some []
  | .bool i :: ds => (blsOf ds).map (i :: ·)
  | _ :: _ => none
theorem blsOf_some : ∀ {ds : List D} {ns : List Bool}, blsOf ds = some ns → ds = ns.map .bool
  | [], _, h => by cases h; rfl
  | .bool i :: ds, _, h => by
    obtain ⟨ns, h1, rfl⟩ := Option.map_eq_some_iff.mp h
    rw [blsOf_some h1]
    rfl
  | .none :: _, _, h => by cases h
  | .int _ :: _, _, h => by cases h
  | .str _ :: _, _, h => by cases h
  | .list _ :: _, _, h => by cases h
  | .tuple _ :: _, _, h => by cases h
  | .dict _ :: _, _, h => by cases h
theorem blsOf_map : ∀ ns : List Bool, blsOf (ns.map .bool) = some ns
  | [] => rfl
  | n :: ns => by
    show (blsOf (ns.map .bool)).map (n :: ·) = _
    rw [blsOf_map ns]
    rfl
theorem bls_plain : ∀ ns : List Bool, PyData.plainAll (ns.map .bool) = true
  | [] => by simp [PyData.plainAll]
  | n :: ns => by
    show PyData.plainAll (.bool n :: ns.map .bool) = true
    rw [PyData.plainAll, bls_plain ns]
    simp [PyData.plain]
theorem bls_any (ns : List Bool) : (ns.map PyData.bool).any PyData.truthy = ns.any id := by
  rw [List.any_map]
  rfl
theorem bls_all (ns : List Bool) : (ns.map PyData.bool).all PyData.truthy = ns.all id := by
  rw [List.all_map]
  rfl
def anyD : D → Option D := fun d => (listOf d).bind fun ds => (blsOf ds).map fun ns => .bool (ns.any id)
def allD : D → Option D := fun d => (listOf d).bind fun ds => (blsOf ds).map fun ns => .bool (ns.all id)
theorem cd_any (hc : X.calm = true) : CallD X .k (.builtin "any") (on1 anyD) := cd_one (fun _ _ h => on1_some h) fun pins s σ H O x v d z Q I rx dom bx hz k => by
  obtain ⟨ds, he, hz⟩ := Option.bind_eq_some_iff.mp hz
  obtain ⟨ns, hn, rfl⟩ := Option.map_eq_some_iff.mp hz
  have e := blsOf_some hn
  subst e
  obtain ⟨a, xs, its, rfl, t, rv, _, hl⟩ := bw_seq I rx bx (listOf_some he)
  obtain ⟨as, hr⟩ := DnL.reads I hide_sub t (bls_plain ns) rv
  have hf : ∀ x ∈ ns.map PyData.bool, x.fits63 := fun x hx => by
    obtain ⟨b, _, rfl⟩ := List.mem_map.mp hx
    simp [PyData.fits63]
  have fin : ∀ (h' : Heap) (tk : Nat), (∀ b o, s.heap.get? b = some o → h'.get? b = some o) → L2.EP X pins σ Q (.bool ((ns.map PyData.bool).any PyData.truthy)) { s with heap := h', toks := tk } := fun h' tk kp => by
    rw [bls_any]
    exact ⟨.bl _, H, I.kept (t' := tk) kp, rfl, k _ H (.refl _) (.bl _)⟩
  rcases hl with ⟨_, hl⟩ | ⟨_, hl⟩
  · exact PySem.W.any_list_data (I.ok.hd hc) hl hr (bls_plain ns) hf fin
  · exact PySem.W.any_tuple_data (I.ok.hd hc) hl hr (bls_plain ns) hf fin
theorem cd_all (hc : X.calm = true) : CallD X .k (.builtin "all") (on1 allD) := cd_one (fun _ _ h => on1_some h) fun pins s σ H O x v d z Q I rx dom bx hz k => by
  obtain ⟨ds, he, hz⟩ := Option.bind_eq_some_iff.mp hz
  obtain ⟨ns, hn, rfl⟩ := Option.map_eq_some_iff.mp hz
  have e := blsOf_some hn
  subst e
  obtain ⟨a, xs, its, rfl, t, rv, _, hl⟩ := bw_seq I rx bx (listOf_some he)
  obtain ⟨as, hr⟩ := DnL.reads I hide_sub t (bls_plain ns) rv
  have hf : ∀ x ∈ ns.map PyData.bool, x.fits63 := fun x hx => by
    obtain ⟨b, _, rfl⟩ := List.mem_map.mp hx
    simp [PyData.fits63]
  have fin : ∀ (h' : Heap) (tk : Nat), (∀ b o, s.heap.get? b = some o → h'.get? b = some o) → L2.EP X pins σ Q (.bool ((ns.map PyData.bool).all PyData.truthy)) { s with heap := h', toks := tk } := fun h' tk kp => by
    rw [bls_all]
    exact ⟨.bl _, H, I.kept (t' := tk) kp, rfl, k _ H (.refl _) (.bl _)⟩
  rcases hl with ⟨_, hl⟩ | ⟨_, hl⟩
  · exact PySem.W.all_list_data (I.ok.hd hc) hl hr (bls_plain ns) hf fin
  · exact PySem.W.all_tuple_data (I.ok.hd hc) hl hr (bls_plain ns) hf fin
/-! isinstance(x, bool), .. -/
inductive Ty4 where
  | bo
  | it
  | st
  | tu
def Ty4.name : Ty4 → String
  | .bo => "bool"
  | .it => "int"
  | .st => "str"
  | .tu => "tuple"
def isiD (T : Ty4) : D → Option D
  | .none => some (.bool false)
  | .bool _ => some (.bool (match T with
    | .bo => true
    | .it => true
    | _ => false))
  | .int _ => some (.bool (match T with
    | .it => true
    | _ => false))
  | .str _ => some (.bool (match T with
    | .st => true
    | _ => false))
  | .tuple _ => some (.bool (match T with
    | .tu => true
    | _ => false))
  | .list _ => some (.bool false)
  | .dict _ => none
theorem kitN (T : Ty4) : kitB "NoneType" T.name = some false := by cases T <;> decide +kernel
theorem kitBo (T : Ty4) : kitB "bool" T.name = some (match T with
    | .bo => true
    | .it => true
    | _ => false) := by cases T <;> decide +kernel
theorem kitI (T : Ty4) : kitB "int" T.name = some (match T with
    | .it => true
    | _ => false) := by cases T <;> decide +kernel
theorem kitS (T : Ty4) : kitB "str" T.name = some (match T with
    | .st => true
    | _ => false) := by cases T <;> decide +kernel
theorem kitT (T : Ty4) : kitB "tuple" T.name = some (match T with
    | .tu => true
    | _ => false) := by cases T <;> decide +kernel
theorem kitL (T : Ty4) : kitB "list" T.name = some false := by cases T <;> decide +kernel
theorem ep_isi {kd : Kd} {T : Ty4} {e : Expr} {f : Rho → Option D} {x y : Str} {p q pos : Pos} (hg : Gl X x) (hm : X.mg x = none) (hx : x = Str.ofString "isinstance") (h : EP X kd e f) (hgy : Gl X y) (hmy : X.mg y = none) (hy : bootBuiltins y = some (.type T.name)) (hny : y ≠ "__name__" := by decide) (hdy : (y == ("__debug__" : Str)) = false := by decide)
    (he : starEach [e, .Name y q] X.env = (false, eval e X.env) :: starEach [.Name y q] X.env := by rfl) (he2 : starEach [.Name y q] X.env = (false, eval (.Name y q) X.env) :: starEach [] X.env := by rfl) (hpl : (backTo pos (starEach [.Name y q] X.env)).any (·.1) = false := by rfl) :
    EP X .k (.Call (.Name x p) [e, .Name y q] [] pos) (pu1 (isiD T) f) := by
  subst hx
  obtain ⟨t, h1, h2⟩ := h.ex
  refine ⟨_, pe_callB (X := X) call_isi hg hm (by decide +kernel) (pa_cons h1 (pa_cons (pe_bltn (v := .ty T.name) hgy hmy hy rfl hny hdy) pa_nil he2) he) (by decide) (by decide) he hpl, fun F σ H ρ d ρ' Q R hf k => ?_⟩
  obtain ⟨hf, rfl⟩ := lift_some.mp hf
  obtain ⟨a, e1, e2⟩ := Option.bind_eq_some_iff.mp hf
  refine h2 F σ H ρ' a ρ' _ R (lift_some.mpr ⟨e1, rfl⟩) fun v H1 p1 r1 => ?_
  have fin : ∀ b : Bool, d = .bool b → Q (.bl b) H1 := fun b hb => by
    subst hb
    exact k _ H1 p1 (.k (.bl b))
  have bw := r1.bw
  cases a with
  | none => cases e2; exact ⟨v, _, _, _, _, rfl, .ty _, .base (by rw [bw.none_]; exact .non), kit_ty (kitN T), fin _ rfl⟩
  | bool b => cases e2; exact ⟨v, _, _, _, _, rfl, .ty _, .base (by rw [bw.bool]; exact .bl b), kit_ty (kitBo T), fin _ rfl⟩
  | int b => cases e2; exact ⟨v, _, _, _, _, rfl, .ty _, .base (by rw [bw.int]; exact .int b), kit_ty (kitI T), fin _ rfl⟩
  | str b => cases e2; exact ⟨v, _, _, _, _, rfl, .ty _, .base (by rw [bw.str]; exact .str b), kit_ty (kitS T), fin _ rfl⟩
  | list b =>
    cases e2
    obtain ⟨l, xs, rfl, g1, _⟩ := bw.list
    refine ⟨_, _, _, _, _, rfl, .ty _, ?_, kit_ty (kitL T), fin _ rfl⟩
    rcases g1 with (g1 | ⟨o, g1⟩) | ⟨o, its, n, g1, g2, _⟩
    · exact .base (.lst g1)
    · exact .base (.frz g1)
    · exact .kList g1 g2
  | tuple b =>
    cases e2
    obtain ⟨l, xs, rfl, g1, _⟩ := bw.tuple
    exact ⟨_, _, _, _, _, rfl, .ty _, .base (.tup (hide_sub _ _ g1)), kit_ty (kitT T), fin _ rfl⟩
  | dict b => cases e2
end
end DL
set_option maxHeartbeats 4000000
namespace DL
open L2 PyProof.Rows PySem PySem.Spec
/-! ## tuple * int, text * int -/
theorem mul_same (l : Addr) (items : Array Value) (n : Nat) (dd : Option Addr) (sl : Array (Option Value)) (x : Int) (u : Tok) (c0 : (decide (x < -(2 ^ 63)) || decide (x ≥ 2 ^ 63)) = false) (c1 : (items.isEmpty || x == 1) = true) :
    Meets (Builtin.«tuple.__mul__» ⟨[.ref l, .int x u], []⟩) (fun _ R s => s.heap.get? l = some { cls := .type "tuple", dict := dd, data := .seq items n, slots := sl } ∧ R (.ok (.ret (Value.ref l))) s) :=
  .of_wp fun prog w A R s h => by
    obtain ⟨hp, g, d, tk, os⟩ := s
    obtain ⟨hl, h⟩ := h
    have f1 := AutoSeq1.idx_int
    wp_walk using wpAny_loadPart' hl
    repeat (first
      | (refine wpAny_ite_false (decide_eq_false (by rw [c0]; exact Bool.false_ne_true)) ?_; wp_walk using wpAny_loadPart' hl)
      | (refine wpAny_ite_true (decide_eq_true (by rw [c1])) ?_; wp_walk using wpAny_loadPart' hl))
    exact ⟨_, rfl, h⟩
theorem mul_nil (l : Addr) (items : Array Value) (n : Nat) (dd : Option Addr) (sl : Array (Option Value)) (x : Int) (u : Tok) (c0 : (decide (x < -(2 ^ 63)) || decide (x ≥ 2 ^ 63)) = false) (c1 : (items.isEmpty || x == 1) = false) (c2 : (decide (x ≤ 0) || items.isEmpty) = true) :
    Meets (Builtin.«tuple.__mul__» ⟨[.ref l, .int x u], []⟩) (fun _ R s => s.heap.get? l = some { cls := .type "tuple", dict := dd, data := .seq items n, slots := sl } ∧
      R (.ok (.ret (Value.ref s.heap.objs.size))) { s with heap := s.heap.push { cls := Value.type "tuple", data := Data.seq #[] }, toks := s.toks }) :=
  .of_wp fun prog w A R s h => by
    obtain ⟨hp, g, d, tk, os⟩ := s
    obtain ⟨hl, h⟩ := h
    have f1 := AutoSeq1.idx_int
    wp_walk using wpAny_loadPart' hl
    repeat (first
      | (refine wpAny_ite_false (decide_eq_false (by rw [c0]; exact Bool.false_ne_true)) ?_; wp_walk using wpAny_loadPart' hl)
      | (refine wpAny_ite_false (decide_eq_false (by rw [c1]; exact Bool.false_ne_true)) ?_; wp_walk using wpAny_loadPart' hl)
      | (refine wpAny_ite_true (decide_eq_true (by rw [c2])) ?_; wp_walk using wpAny_loadPart' hl))
    exact ⟨_, rfl, h⟩
def repT : D → D → Option D
  | .tuple xs, .int k => if repOk xs.length k = true then some (.tuple (rep k xs)) else none
  | _, _ => none
section
variable {X : Cx}
theorem rep_one {α : Type} (xs : List α) : rep 1 xs = xs := by simp [rep]
theorem rep_nil {α : Type} (k : Int) : rep k ([] : List α) = [] := by simp [rep]
theorem rep_neg {α : Type} {k : Int} (h : k ≤ 0) (xs : List α) : rep k xs = [] := by
  unfold rep
  rw [show k.toNat = 0 from by omega]
  rfl
theorem od_repT : OpD X .k (binaryOp .Mult) repT := by
  intro pins s σ H x y v u Q I rx ry ⟨O, d, e, z, dom, bx, by', hz, k⟩
  unfold repT at hz
  split at hz
  · rename_i ds n
    obtain ⟨hc, rfl⟩ := ite_some hz
    unfold repOk at hc
    rw [Bool.and_eq_true, Nat.ble_eq] at hc
    obtain ⟨l, xs, rfl, h1, t1⟩ := bx.tuple
    have e2 := by'.int
    subst e2
    cases rx
    obtain ⟨t, rfl⟩ := ry
    obtain ⟨its, r, ⟨⟨cls, dd, data, sl⟩, ho, hc', n', hd⟩, hs⟩ := I.tuple (.of (hide_sub _ _ h1))
    simp only at hc' hd
    subst hc' hd
    have hle : its.length = xs.length := r.length.symm
    have hlen := t1.length
    have c0 : (decide (n < -(2 ^ 63)) || decide (n ≥ 2 ^ 63)) = false := by
      rw [decide_eq_false (by omega), decide_eq_false (by omega)] <;> rfl
    have road : ∀ {Q' : VK}, wpAny (model X.prog X.w) X.A.in1.in1 (pure ()) (fun _ _ => True) X.xe s → True := fun _ => trivial
    by_cases c1 : (its.toArray.isEmpty || n == 1) = true
    · refine wpAny_binaryOp_repeat_ref (T := "tuple") (U := "int") (by decide) ⟨_, ho, rfl⟩ (fun s' => typeIs_int s' n t) noFill_tuple_mul F.fills_int_mul F.slot_int_rmul repeat_tuple F.slot_int_index.lookup
        (call_meets F.slot_int_rmul (typeIs_int s n t) F.entry_int_rmul (F.args_int_rmul_2 _ _) (int_rmul_tuple n t l its.toArray n' dd sl)
          ⟨ho, rfl, ⟨_, ho, rfl⟩, call_meets F.slot_tuple_mul ⟨_, ho, rfl⟩ F.entry_tuple_mul (F.args_tuple_mul_2 _ _) (mul_same l its.toArray n' dd sl n t c0 c1) ⟨ho, ?_⟩⟩)
      refine ⟨.ref l, H, I, rfl, k _ H (.refl _) (.tup h1 ?_)⟩
      rw [Bool.or_eq_true] at c1
      rcases c1 with c1 | c1
      · have e0 : ds = [] := by
          have : its = [] := by simpa using c1
          rw [this] at hle
          exact List.eq_nil_of_length_eq_zero (by rw [← hlen, ← hle]; rfl)
        subst e0
        rw [rep_nil]
        exact t1
      · have e1 : n = 1 := by simpa using c1
        subst e1
        rw [rep_one]
        exact t1
    · have c1 : (its.toArray.isEmpty || n == 1) = false := by simpa using c1
      by_cases c2 : (decide (n ≤ 0) || its.toArray.isEmpty) = true
      · refine wpAny_binaryOp_repeat_ref (T := "tuple") (U := "int") (by decide) ⟨_, ho, rfl⟩ (fun s' => typeIs_int s' n t) noFill_tuple_mul F.fills_int_mul F.slot_int_rmul repeat_tuple F.slot_int_index.lookup
          (call_meets F.slot_int_rmul (typeIs_int s n t) F.entry_int_rmul (F.args_int_rmul_2 _ _) (int_rmul_tuple n t l its.toArray n' dd sl)
            ⟨ho, rfl, ⟨_, ho, rfl⟩, call_meets F.slot_tuple_mul ⟨_, ho, rfl⟩ F.entry_tuple_mul (F.args_tuple_mul_2 _ _) (mul_nil l its.toArray n' dd sl n t c0 c1 c2) ⟨ho, ?_⟩⟩)
        have hn : n ≤ 0 := by
          rw [Bool.or_eq_true] at c2
          rcases c2 with c2 | c2
          · exact of_decide_eq_true c2
          · rw [c2] at c1; cases c1
        rw [rep_neg hn] at k
        have hp := I.hok.fresh (Nat.le_refl _)
        exact ⟨.ref s.heap.objs.size, _, I.laid (t' := s.toks) (o := .tup []) (fun b ob q => Heap.get?_push_of_some _ q) (Nat.le_refl _) ⟨Nat.zero_le _, _, .nil, IsTup.new _ _⟩, rfl, k _ _ (sameNew hp) (newT hp dom .nil)⟩
      · have c2 : (decide (n ≤ 0) || its.toArray.isEmpty) = false := by simpa using c2
        have hpos : ¬ n ≤ 0 := fun z => by rw [decide_eq_true z] at c2; cases c2
        have hmul : its.toArray.size * n.toNat ≤ sizeLine := by
          rw [List.size_toArray, hle, hlen]
          exact lim_ble hc.2
        have hm : ((its.toArray.size : Nat) : Int) * n ≤ 16777216 := by
          have e1 : n = (n.toNat : Int) := by omega
          have : sizeLine = 16777216 := sizeLine_eq
          rw [e1, ← Int.natCast_mul]
          omega
        have flen : (List.replicate n.toNat its).flatten.length ≤ sizeLine := by
          rw [PyProof.Rows.lm_len_rep_flat, Nat.mul_comm]
          simpa using hmul
        have c4 : Builtin.Tuple.tupleTooMany (((its.toArray.size : Nat) : Int) * n) = false := by
          unfold Builtin.Tuple.tupleTooMany
          rw [sizeLine_eq]
          exact decide_eq_false (by omega)
        refine wpAny_binaryOp_repeat_ref (T := "tuple") (U := "int") (by decide) ⟨_, ho, rfl⟩ (fun s' => typeIs_int s' n t) noFill_tuple_mul F.fills_int_mul F.slot_int_rmul repeat_tuple F.slot_int_index.lookup
          (call_meets F.slot_int_rmul (typeIs_int s n t) F.entry_int_rmul (F.args_int_rmul_2 _ _) (int_rmul_tuple n t l its.toArray n' dd sl)
            ⟨ho, rfl, ⟨_, ho, rfl⟩, call_meets F.slot_tuple_mul ⟨_, ho, rfl⟩ F.entry_tuple_mul (F.args_tuple_mul_2 _ _) (tuple_mulW l its.toArray n' dd sl n t c0 c1 c2 (by omega) c4 (by rw [size_rep, List.size_toArray]; exact flen)) ⟨ho, ?_⟩⟩)
        rw [size_rep]
        have hp := I.hok.fresh (Nat.le_refl _)
        refine ⟨.ref s.heap.objs.size, _, I.laid (t' := s.toks) (o := .tup (List.replicate n.toNat xs).flatten) (fun b ob q => Heap.get?_push_of_some _ q) (Nat.le_refl _) ?_, rfl, k _ _ (sameNew hp) (newT hp dom (t1.rep _))⟩
        refine ⟨?_, _, r.rep n.toNat, IsTup.new _ _⟩
        rw [PyProof.Rows.lm_len_rep_flat, ← hle, Nat.mul_comm]
        simpa using hmul
  · cases hz
end
end DL
namespace DL
open L2 PyProof.Rows PySem PySem.Spec
/-! ## what stands at the top -/
/-- the def x of the text, its promise -/
def Ent (P : Program) (w : World) (K : Fg) (mg : Str → Option Value) (base : Heap) (k : Nat) (x : Str) (ps : List Str) (sp : Sp) : Prop :=
  ∃ (f : Addr) (fd : FuncData), FnOk P w K mg base CX0 k f fd ps sp ∧ mg x = some (.ref f) ∧ PySem.W.keepIn K (.ref f) = true ∧ Binds K fd ps [] ∧ ∃ oc od sl, K.lookup f = some ⟨oc, od, .func fd, sl⟩
def Def (K : Fg) (mg : Str → Option Value) (x : Str) (st : Stmt) (ps : List Str) : Prop :=
  ∃ (f : Addr) (fd : FuncData), Fun K x x st f fd ∧ mg x = some (.ref f) ∧ Binds K fd ps []
section
variable {P : Program} {w : World} {K : Fg} {mg : Str → Option Value} {base : Heap} {x : Str} {st : Stmt} {N ps : List Str} {k j : Nat} {kr : Kd}
theorem Ent.mono {sp : Sp} (h : Ent P w K mg base j x ps sp) (hk : j ≤ k) : Ent P w K mg base k x ps sp := by
  obtain ⟨f, fd, F, r⟩ := h
  exact ⟨f, fd, F.mono hk, r⟩
theorem fun_at {f : Addr} {fd : FuncData} (F : Fun K x x st f fd) : ∃ oc od sl, K.lookup f = some ⟨oc, od, .func fd, sl⟩ := by
  obtain ⟨oc, od, kV, doc, pm, an, cdv, ct, osl, rfl, lk, _⟩ := F.ex
  exact ⟨oc, od, osl, lk⟩
theorem ent_fn {f : Addr} {fd : FuncData} {oc : Value} {od : Option Addr} {sl : Array (Option Value)} {sp : Sp} (l : K.lookup f = some ⟨oc, od, .func fd, sl⟩) (hm : mg x = some (.ref f)) (h : Ent P w K mg base k x ps sp) : FnOk P w K mg base CX0 k f fd ps sp := by
  obtain ⟨f', fd', F, hm', _, _, oc', od', sl', l'⟩ := h
  rw [hm] at hm'
  cases hm'
  rw [l] at l'
  cases l'
  exact F
/-- the law's promise at the script -/
theorem sp_top {H : Hp} {a : Addr} {ns : List Int} {g : List D → Option D} {E : XK} (hS : SqL K H a (ns.map V.int)) (h : g [.list (ns.map .int)] = some (.bool true)) : spP K 1 .k g [.ref a] H (fun v _ => v = .bl true) E := by
  have e : Same H (hide H fun _ => False) := fun b o q => hide_some.mpr ⟨fun z => z, q⟩
  refine ⟨fun _ => False, [.list (ns.map .int)], .bool true, rfl, fun _ z => z.elim, .one (.lst (e.seq hS) (.ofInts ns)), h, fun v H' _ r => ?_⟩
  exact Bw.bool (.inl r)
theorem ent_pure (T : Def K mg x st ps) {b : Sf} (S : FnScope N ps (defScope st))
    (hbody : ∀ (f : Addr) (cdv : Value) (A : Around) (outer : List Env) (s : Shared) (H : Hp) (E : XK), Room k (A.deeper (envOfC x (defScope st) s.heap.objs.size f cdv)) → SB (cxOf CX0 P w K mg base N x (defScope st) f cdv A outer s H E).nox .k (defBody st) b) :
    Ent P w K mg base (k + 1) x ps (spP K ps.length .k (fnP N.length b)) := by
  obtain ⟨f, fd, F, hm, hb⟩ := T
  exact ⟨f, fd, fn_pure (.inl rfl) F S (hbody f) (fun h => by cases h), hm, F.kp, hb, fun_at F⟩
def NoNx (b : Sf) : Prop := ∀ ρ ρ', b ρ ≠ some (.nx ρ')
theorem ent_fresh (T : Def K mg x st ps) {b : Sf} (S : FnScope N ps (defScope st)) (hn : NoNx b)
    (hbody : ∀ (f : Addr) (cdv : Value) (A : Around) (outer : List Env) (s : Shared) (H : Hp) (E : XK), Room k (A.deeper (envOfC x (defScope st) s.heap.objs.size f cdv)) → SB (cxOf CX0 P w K mg base N x (defScope st) f cdv A outer s H E).nox .f (defBody st) b) :
    Ent P w K mg base (k + 1) x ps (spP K ps.length .f (fnP N.length b)) := by
  obtain ⟨f, fd, F, hm, hb⟩ := T
  exact ⟨f, fd, fn_pure (.inr rfl) F S (hbody f) (fun _ => hn), hm, F.kp, hb, fun_at F⟩
theorem ent_mut (T : Def K mg x st ps) {b : Sf} (S : FnScope N ps (defScope st))
    (hbody : ∀ (f : Addr) (cdv : Value) (A : Around) (outer : List Env) (s : Shared) (H : Hp) (E : XK), Room k (A.deeper (envOfC x (defScope st) s.heap.objs.size f cdv)) → SB (cxOf CX0 P w K mg base N x (defScope st) f cdv A outer s H E).nox .k (defBody st) b) :
    Ent P w K mg base (k + 1) x ps (spM K ps.length j (fnM N.length j b)) := by
  obtain ⟨f, fd, F, hm, hb⟩ := T
  exact ⟨f, fd, fn_mut F S (hbody f), hm, F.kp, hb, fun_at F⟩
/-- a promise of nothing -/
theorem ent_none (T : Def K mg x st ps) : Ent P w K mg base 0 x ps (spP K ps.length .k fun _ => none) := by
  obtain ⟨f, fd, F, hm, hb⟩ := T
  exact ⟨f, fd, ⟨fun vs H Q E h => (by obtain ⟨_, _, _, _, _, _, e, _⟩ := h; cases e), fun A outer s H args us vs Q E _ _ _ _ h => (by obtain ⟨_, _, _, _, _, _, e, _⟩ := h; cases e)⟩, hm, F.kp, hb, fun_at F⟩
theorem nn_seq {f g : Sf} (h : NoNx g) : NoNx (sSeq f g) := fun ρ ρ' e => by
  obtain ⟨o, e1, e2⟩ := Option.bind_eq_some_iff.mp e
  cases o with
  | nx ρ1 => exact h _ _ e2
  | _ => cases e2
theorem nn_rt {f : Ef} : NoNx (sRt f) := fun ρ ρ' e => by
  obtain ⟨a, _, e2⟩ := Option.map_eq_some_iff.mp e
  cases e2
theorem nn_rtO {i : Nat} : NoNx (sRtO i) := fun ρ ρ' e => by
  unfold sRtO at e
  split at e <;> cases e
theorem nn_if {t : Tf} {f g : Sf} (h1 : NoNx f) (h2 : NoNx g) : NoNx (sIf t f g) := fun ρ ρ' e => by
  obtain ⟨c, _, e2⟩ := Option.bind_eq_some_iff.mp e
  by_cases hc : c.1 = true
  · rw [if_pos hc] at e2; exact h1 _ _ e2
  · rw [if_neg hc] at e2; exact h2 _ _ e2
end
section
variable {X : Cx} {m : Bool} {kr kd : Kd} {k n j i : Nat} {ps : List Str} {x : Str} {p pos : Pos} {e tg : Expr} {es : List Expr}
theorem gcall {g : List D → Option D} {fa : Af} (F : Ent X.prog X.w X.K X.mg X.base k x ps (spP X.K n kr g)) (hr : Room k X.A) (hg : Gl X x)
    (ha : AG X m (e :: es) fa) (hn : Nat.beq (e :: es).length n = true := by rfl) (hdb : (x == ("__debug__" : Str)) = false := by decide) (he : starEach (e :: es) X.env = (false, eval e X.env) :: starEach es X.env := by rfl) (hpl : (backTo pos (starEach es X.env)).any (·.1) = false := by rfl) :
    EG X m kr (.Call (.Name x p) (e :: es) [] pos) (seqA g fa) := by
  obtain ⟨f, fd, F, hm, hk, hb, _⟩ := F
  exact eg_call F hr hg hm hk hb ha hn hdb he hpl
theorem pcall {g : List D → Option D} {fa : Rho → Option (List D)} (F : Ent X.prog X.w X.K X.mg X.base k x ps (spP X.K n kr g)) (hr : Room k X.A) (hg : Gl X x)
    (ha : AP X (e :: es) fa) (hn : Nat.beq (e :: es).length n = true := by rfl) (hdb : (x == ("__debug__" : Str)) = false := by decide) (he : starEach (e :: es) X.env = (false, eval e X.env) :: starEach es X.env := by rfl) (hpl : (backTo pos (starEach es X.env)).any (·.1) = false := by rfl) :
    EP X kr (.Call (.Name x p) (e :: es) [] pos) (puA g fa) := by
  obtain ⟨f, fd, F, hm, hk, hb, _⟩ := F
  exact ep_call F hr hg hm hk hb ha hn hdb he hpl
theorem pcall0 {g : List D → Option D} (F : Ent X.prog X.w X.K X.mg X.base k x ps (spP X.K n kr g)) (hr : Room k X.A) (hg : Gl X x)
    (hn : Nat.beq 0 n = true := by rfl) (hdb : (x == ("__debug__" : Str)) = false := by decide) : EP X kr (.Call (.Name x p) [] [] pos) (pu0 g) := by
  obtain ⟨f, fd, F, hm, hk, hb, _⟩ := F
  exact ep_call0 F hr hg hm hk hb hn hdb
theorem mcall {g : D → List D → Option (D × D)} {fa : Af} (F : Ent X.prog X.w X.K X.mg X.base k x ps (spM X.K n j g)) (hr : Room k X.A) (hg : Gl X x)
    (ha : AM X j i (e :: es) fa) (hn : Nat.beq (e :: es).length n = true := by rfl) (hdb : (x == ("__debug__" : Str)) = false := by decide) (he : starEach (e :: es) X.env = (false, eval e X.env) :: starEach es X.env := by rfl) (hpl : (backTo pos (starEach es X.env)).any (·.1) = false := by rfl) :
    EG X false .k (.Call (.Name x p) (e :: es) [] pos) (callM i g fa) := by
  obtain ⟨f, fd, F, hm, hk, hb, _⟩ := F
  exact eg_callM F hr hg hm hk hb ha hn hdb he hpl
/-! ranges without a change -/
theorem ip_range1 {a : Expr} {f : Rho → Option (List D)} (hg : Gl X "range") (hm : X.mg "range" = none) (h : AP X [a] f) (hs : starEach [a] X.env = [(false, eval a X.env)] := by rfl) : IG X true false tg (.Call (.Name "range" p) [a] [] pos) (liftA (puR f)) := (ig_range1 hg hm h hs).cong (seqR_lift f).symm
theorem ip_range2 {a b : Expr} {f : Rho → Option (List D)} (hg : Gl X "range") (hm : X.mg "range" = none) (h : AP X [a, b] f) (hs : starEach [a, b] X.env = [(false, eval a X.env), (false, eval b X.env)] := by rfl) (hs2 : starEach [b] X.env = [(false, eval b X.env)] := by rfl) : IG X true false tg (.Call (.Name "range" p) [a, b] [] pos) (liftA (puR f)) := (ig_range2 hg hm h hs hs2).cong (seqR_lift f).symm
theorem ip_range3 {a b c : Expr} {f : Rho → Option (List D)} (hg : Gl X "range") (hm : X.mg "range" = none) (h : AP X [a, b, c] f) (hs : starEach [a, b, c] X.env = (false, eval a X.env) :: starEach [b, c] X.env := by rfl) (hpl : (backTo pos (starEach [b, c] X.env)).any (·.1) = false := by rfl) : IG X true false tg (.Call (.Name "range" p) [a, b, c] [] pos) (liftA (puR f)) := (ig_range3 hg hm h hs hpl).cong (seqR_lift f).symm
/-! name += int -/
def augI : D → D → Option D
  | .int i, .int j => some (.int (i + j))
  | _, _ => none
theorem ia_add : IpD X .k .Add augI := by
  intro pins s σ H x y v u Q I rx ry ⟨O, d, e, z, dom, bx, by', hz, k⟩
  unfold augI at hz
  split at hz
  · cases hz
    have e1 := bx.int
    have e2 := by'.int
    subst e1 e2
    exact ip_add pins s σ H _ _ v u Q I rx ry ⟨_, _, rfl, rfl, k _ H (.refl _) (.int _)⟩
  · cases hz
/-! a < b < c -/
theorem tw_tg {f : Tf} (h : TW X m e f) : TG X m e f := h.tg
def chP (g g' : D → D → Option D) (fa fb fc : Rho → Option D) : Rho → Option D := fun ρ => (fa ρ).bind fun a => (fb ρ).bind fun b => (g a b).bind fun z => (blOf z).bind fun t => if t = true then (fc ρ).bind fun c => g' b c else some (.bool false)
theorem ep_chain {op op' : CmpOp} {g g' : D → D → Option D} {a b c : Expr} {k1 k2 k3 : Kd} {fa fb fc : Rho → Option D} (ho : OpD X .k (compareOp op) g) (ho' : OpD X .k (compareOp op') g') (ha : EP X k1 a fa) (hb : EP X k2 b fb) (hc : EP X k3 c fc)
    (hm : lastMarks [op, op'] [b, c] = false := by with_unfolding_all rfl) : EP X .k (.Compare a [op, op'] [b, c] pos) (chP g g' fa fb fc) := by
  obtain ⟨ta, ha1, ha2⟩ := ha.ex
  obtain ⟨tb, hb1, hb2⟩ := hb.ex
  obtain ⟨tc, hc1, hc2⟩ := hc.ex
  refine ⟨_, pe_chain ho ho' ha1 hb1 hc1 hm, fun F σ H ρ d ρ' Q R hf k => ?_⟩
  obtain ⟨hf, rfl⟩ := lift_some.mp hf
  obtain ⟨x, e1, hf⟩ := Option.bind_eq_some_iff.mp hf
  obtain ⟨y, e2, hf⟩ := Option.bind_eq_some_iff.mp hf
  obtain ⟨z, e3, hf⟩ := Option.bind_eq_some_iff.mp hf
  obtain ⟨t, e4, hg⟩ := Option.bind_eq_some_iff.mp hf
  have e4 := blOf_some e4
  subst e4
  refine ha2 F σ H ρ' x ρ' _ R (lift_some.mpr ⟨e1, rfl⟩) fun v H1 p1 r1 => ?_
  refine hb2 F σ H1 ρ' y ρ' _ p1.rl (lift_some.mpr ⟨e2, rfl⟩) fun u H2 p2 r2 => ?_
  have s2 := (p2.pu rfl).2
  refine ⟨Ow F σ ρ', x, y, _, p2.rl.domO, r1.bw.mono (hide_same s2) s2, r2.bw, e3, fun z H3 s3 r3 => ?_⟩
  have rz : z = .bl t := (Bw.bool (.inl r3))
  subst rz
  refine ⟨t, rfl, ?_⟩
  have p3 : Po X.K F true σ H ρ' H3 ρ' := (p1.trans p2).more s3
  cases t with
  | false =>
    rw [if_neg Bool.false_ne_true] at hg ⊢
    cases hg
    exact k _ H3 p3 (.k (.bl false))
  | true =>
    rw [if_pos rfl] at hg ⊢
    obtain ⟨c', e5, hg⟩ := Option.bind_eq_some_iff.mp hg
    refine hc2 F σ H3 ρ' c' ρ' _ p3.rl (lift_some.mpr ⟨e5, rfl⟩) fun q H4 p4 r4 => ?_
    have s4 := s3.trans (p4.pu rfl).2
    exact ⟨Ow F σ ρ', y, c', d, p4.rl.domO, r2.bw.mono (hide_same s4) s4, r4.bw, hg, fun z H5 s5 r5 => k z H5 ((p3.trans p4).more s5) (.of p4.rl s5 r5 (p3.trans p4).ev.dom)⟩
theorem tp_chain {op op' : CmpOp} {g g' : D → D → Option D} {a b c : Expr} {k1 k2 k3 : Kd} {fa fb fc : Rho → Option D} (ho : OpD X .k (compareOp op) g) (ho' : OpD X .k (compareOp op') g') (ha : EP X k1 a fa) (hb : EP X k2 b fb) (hc : EP X k3 c fc)
    (hm : lastMarks [op, op'] [b, c] = false := by with_unfolding_all rfl) : TP X (.Compare a [op, op'] [b, c] pos) (tstP (chP g g' fa fb fc)) := by
  obtain ⟨ta, ha1, ha2⟩ := ha.ex
  obtain ⟨tb, hb1, hb2⟩ := hb.ex
  obtain ⟨tc, hc1, hc2⟩ := hc.ex
  refine ⟨_, pt_chain ho ho' ha1 hb1 hc1 hm, fun F σ H ρ bb ρ' Q R hf k => ?_⟩
  obtain ⟨hf, rfl⟩ := liftT_some.mp hf
  obtain ⟨d, hf, e0⟩ := Option.bind_eq_some_iff.mp hf
  have e0 := blOf_some e0
  subst e0
  obtain ⟨x, e1, hf⟩ := Option.bind_eq_some_iff.mp hf
  obtain ⟨y, e2, hf⟩ := Option.bind_eq_some_iff.mp hf
  obtain ⟨z, e3, hf⟩ := Option.bind_eq_some_iff.mp hf
  obtain ⟨t, e4, hg⟩ := Option.bind_eq_some_iff.mp hf
  have e4 := blOf_some e4
  subst e4
  refine ha2 F σ H ρ' x ρ' _ R (lift_some.mpr ⟨e1, rfl⟩) fun v H1 p1 r1 => ?_
  refine hb2 F σ H1 ρ' y ρ' _ p1.rl (lift_some.mpr ⟨e2, rfl⟩) fun u H2 p2 r2 => ?_
  have s2 := (p2.pu rfl).2
  refine ⟨Ow F σ ρ', x, y, _, p2.rl.domO, r1.bw.mono (hide_same s2) s2, r2.bw, e3, fun z H3 s3 r3 => ?_⟩
  have rz : z = .bl t := (Bw.bool (.inl r3))
  subst rz
  refine ⟨t, rfl, ?_⟩
  have p3 : Po X.K F true σ H ρ' H3 ρ' := (p1.trans p2).more s3
  cases t with
  | false =>
    rw [if_neg Bool.false_ne_true] at hg ⊢
    cases hg
    exact ⟨false, rfl, k H3 p3⟩
  | true =>
    rw [if_pos rfl] at hg ⊢
    obtain ⟨c', e5, hg⟩ := Option.bind_eq_some_iff.mp hg
    refine hc2 F σ H3 ρ' c' ρ' _ p3.rl (lift_some.mpr ⟨e5, rfl⟩) fun q H4 p4 r4 => ?_
    have s4 := s3.trans (p4.pu rfl).2
    refine ⟨Ow F σ ρ', y, c', _, p4.rl.domO, r2.bw.mono (hide_same s4) s4, r4.bw, hg, fun z H5 s5 r5 => ?_⟩
    have rz : z = .bl bb := (Bw.bool (.inl r5))
    subst rz
    exact ⟨bb, rfl, k H5 ((p3.trans p4).more s5)⟩
end
end DL
namespace DL
open L2 PyProof.Rows PySem PySem.Spec
/-! ## [e for x in a for y in b], nothing changed -/
def compPs2 (g : Gf) (p : Rho → Option Bool) (it1 : Rho → Option (List D)) (g1 : Gf) (p1 : Rho → Option Bool) (e : Rho → Option D) (vs1 : List Nat) (ρ : Rho) : List D → Option (List D)
  | [] => some []
  | d :: ds => (g d ρ).bind fun ρ1 => (p ρ1).bind fun c => if c = true then (it1 ρ1).bind fun es => (compPs g1 p1 e (unw ρ1 vs1) es).bind fun a => (compPs2 g p it1 g1 p1 e vs1 ρ ds).map fun r => a ++ r
    else compPs2 g p it1 g1 p1 e vs1 ρ ds
def compPE2 (it : Rho → Option (List D)) (g : Gf) (p : Rho → Option Bool) (it1 : Rho → Option (List D)) (g1 : Gf) (p1 : Rho → Option Bool) (e : Rho → Option D) (vs vs1 : List Nat) : Rho → Option D := fun ρ => (it ρ).bind fun ds => (unwO vs ρ).bind fun ρw => (compPs2 g p it1 g1 p1 e vs1 ρw ds).bind fun r =>
  if r.length ≤ lim then some (.list r) else none
def canI (K : Fg) (m bw : Bool) (f : Af) : TI := fun σ H R => ∃ F ρ ds ρ', Rl K F σ H ρ ∧ f ρ = some (ds, ρ') ∧ ∀ J H', Po K F m σ H ρ H' ρ' → ItOk K bw (hide H' (Ow F σ ρ')) H' J ds → R J H'
theorem IG.can {X : Cx} {m bw : Bool} {tg e : Expr} {f : Af} (h : IG X m bw tg e f) : PI X tg e (canI X.K m bw f) := by
  obtain ⟨t, h1, h2⟩ := h.ex
  exact ⟨fun pins s σ H R I ⟨F, ρ, d, ρ', Rl, hf, k⟩ => h1.run pins s σ H R I (h2 F σ H ρ d ρ' R Rl hf k)⟩
structure LcV (K : Fg) (F : Fx) (Dd : Addr) (σ : L2.St) (H1 : Hp) (ρ : Rho) (σc : L2.St) (ρc : Rho) (H2 : Hp) (out : List D) : Prop where
  rl : Rl K (F.add Dd) σc H2 ρc
  kept : Same (hide H1 (Ow F σ ρ)) (hide H2 (Ow (F.add Dd) σc ρc))
  acc : ∃ acc, H2 Dd = some (.lst acc) ∧ DnL K (hide H2 (Ow (F.add Dd) σc ρc)) acc out
  same : Same H1 H2
section
variable {K : Fg} {F : Fx} {Dd : Addr} {σ : L2.St} {H1 : Hp} {ρ : Rho} {σc : L2.St} {ρc : Rho} {H2 : Hp} {out : List D}
theorem LcV.grow (w : LcV K F Dd σ H1 ρ σc ρc H2 out) {H3 : Hp} (s : Same H2 H3) : LcV K F Dd σ H1 ρ σc ρc H3 out := by
  obtain ⟨acc, h1, h2⟩ := w.acc
  exact ⟨w.rl.grow s, w.kept.trans (hide_same s), ⟨acc, s _ _ h1, h2.mono (hide_same s)⟩, w.same.trans s⟩
theorem LcV.step (w : LcV K F Dd σ H1 ρ σc ρc H2 out) {σ' : L2.St} {ρ' : Rho} (R : Rl K (F.add Dd) σ' H2 ρ') (g : Same (hide H2 (Ow (F.add Dd) σc ρc)) (hide H2 (Ow (F.add Dd) σ' ρ'))) : LcV K F Dd σ H1 ρ σ' ρ' H2 out := by
  obtain ⟨acc, h1, h2⟩ := w.acc
  exact ⟨R, w.kept.trans g, ⟨acc, h1, h2.mono g⟩, w.same⟩
theorem LcV.wipe (w : LcV K F Dd σ H1 ρ σc ρc H2 out) {vs : List Nat} (h : ∀ v ∈ vs, ∃ s, ρc[v]? = some s) : LcV K F Dd σ H1 ρ (L2.wipe σc vs) (unw ρc vs) H2 out := by
  obtain ⟨R, e⟩ := w.rl.wiped h
  exact w.step R e.kept
theorem LcV.app (w : LcV K F Dd σ H1 ρ σc ρc H2 out) (hD : H1 Dd = none) {y : V} {d : D} (h : Dn K (hide H2 (Ow (F.add Dd) σc ρc)) y d) {acc : List V} (ha : H2 Dd = some (.lst acc)) : LcV K F Dd σ H1 ρ σc ρc (upd H2 Dd (.lst (acc ++ [y]))) (out ++ [d]) := by
  obtain ⟨acc', h1, h2⟩ := w.acc
  rw [ha] at h1
  cases h1
  obtain ⟨R, g⟩ := w.rl.outer (a := Dd) (o := .lst (acc ++ [y])) (.inr rfl)
  refine ⟨R, w.kept.trans g, ⟨_, upd_same, (h2.append (.one h)).mono g⟩, fun b o hb => ?_⟩
  rw [upd_ne (ne_of_none hb hD)]
  exact w.same _ _ hb
end
section
variable {X : Cx} {bw : Bool} {kr : Kd}
theorem lc2_pure {elt tg iter tg1 iter1 : Expr} {ifs ifs1 : List Expr} {scope : Scope} {own : List (Str × Nat)} {vs0 vs1 : List Nat} {pos : Pos} {it it1 : Rho → Option (List D)} {g g1 : Gf} {p p1 : Rho → Option Bool} {e : Rho → Option D} (hc : X.calm = true) (hN : X.N.Nodup) (hi : IG X true bw tg iter (liftA it)) (ok : BlkOk X.N X.env.scope scope own)
    (hg : ∀ (s : Shared) (H : Hp) (C : Addr) (cl : List (Str × Addr)) (fp : List Addr), GG (X.blk s H scope (compEnvC scope cl C X.env) fp) vs0 tg g)
    (ht : ∀ (s : Shared) (H : Hp) (C : Addr) (cl : List (Str × Addr)) (fp : List Addr), TsG (X.blk s H scope (compEnvC scope cl C X.env) fp) true ifs (liftT p))
    (hi1 : ∀ (s : Shared) (H : Hp) (C : Addr) (cl : List (Str × Addr)) (fp : List Addr), IG (X.blk s H scope (compEnvC scope cl C X.env) fp) true false tg1 iter1 (liftA it1))
    (hg1 : ∀ (s : Shared) (H : Hp) (C : Addr) (cl : List (Str × Addr)) (fp : List Addr), GG (X.blk s H scope (compEnvC scope cl C X.env) fp) vs1 tg1 g1)
    (ht1 : ∀ (s : Shared) (H : Hp) (C : Addr) (cl : List (Str × Addr)) (fp : List Addr), TsG (X.blk s H scope (compEnvC scope cl C X.env) fp) true ifs1 (liftT p1))
    (he : ∀ (s : Shared) (H : Hp) (C : Addr) (cl : List (Str × Addr)) (fp : List Addr), EP (X.blk s H scope (compEnvC scope cl C X.env) fp) .k elt e)
    (gout : OutOk vs0 g) (gout1 : OutOk vs1 g1) (hv0 : ∀ i ∈ vs0, i ∈ own.map (·.2)) (hv : ∀ i ∈ vs1, i ∈ own.map (·.2)) (hs : ∀ x, foldedSetIterable iter X.env x = pure x := by intro _; rfl) (hs1 : ∀ env x, foldedSetIterable iter1 env x = pure x := by intro _ _; rfl) :
    ∃ t, PE X (.ListComp elt [⟨tg, iter, ifs, 0⟩, ⟨tg1, iter1, ifs1, 0⟩] scope pos) t ∧ (∀ {i : Nat} {y : Str} {py spos : Pos}, X.N[i]? = some y → X.env.scope.names.lookup y = some .local → swapsWith (.ListComp elt [⟨tg, iter, ifs, 0⟩, ⟨tg1, iter1, ifs1, 0⟩] scope pos) (some (.Name y py)) spos.line X.env = pure true →
        PS X (.Assign [.Name y py] (.ListComp elt [⟨tg, iter, ifs, 0⟩, ⟨tg1, iter1, ifs1, 0⟩] scope pos) spos) (tAsg t (gName i))) ∧
      ∀ (F : Fx) (σ : L2.St) (H : Hp) (ρ : Rho) (d : D) (ρ' : Rho) (Q : VK), Rl X.K F σ H ρ → lift (compPE2 it g p it1 g1 p1 e (own.map (·.2)) vs1) ρ = some (d, ρ') →
        (∀ v H', Po X.K F true σ H ρ H' ρ' → Er X.K F σ ρ' .f H H' v d → Q v H') → t σ H Q := by
  obtain ⟨wi, hi1', hi2⟩ := hi.ex
  refine ⟨tLc2 wi (canG X.K vs0 g) (canT X.K true (liftT p)) (canI X.K true false (liftA it1)) (canG X.K vs1 g1) (canT X.K true (liftT p1)) (canE X.K true .k (lift e)) (own.map (·.2)) vs1,
    pe_lc2 hc hN hi1' ok hv (fun s H C cl fp => (hg s H C cl fp).can) (fun s H C cl fp => (ht s H C cl fp).can) (fun s H C cl fp => (hi1 s H C cl fp).can) (fun s H C cl fp => (hg1 s H C cl fp).can) (fun s H C cl fp => (ht1 s H C cl fp).can) (fun s H C cl fp => (he s H C cl fp).can) hs hs1,
    fun hy hyl hsw => ps_setLc2 hc hN hy hyl hsw hi1' ok hv (fun s H C cl fp => (hg s H C cl fp).can) (fun s H C cl fp => (ht s H C cl fp).can) (fun s H C cl fp => (hi1 s H C cl fp).can) (fun s H C cl fp => (hg1 s H C cl fp).can) (fun s H C cl fp => (ht1 s H C cl fp).can) (fun s H C cl fp => (he s H C cl fp).can) hs hs1, fun F σ H ρ d ρ' Q R hf k => ?_⟩
  generalize hvs : own.map (·.2) = vs at *
  obtain ⟨hf, rfl⟩ := lift_some.mp hf
  obtain ⟨ds, e1, e2⟩ := Option.bind_eq_some_iff.mp hf
  obtain ⟨ρw, e3, e4⟩ := Option.bind_eq_some_iff.mp e2
  obtain ⟨total, e5, e6⟩ := Option.bind_eq_some_iff.mp e4
  obtain ⟨hfree, rfl⟩ := unwO_some e3
  by_cases hlim : total.length ≤ lim
  case neg => rw [if_neg hlim] at e6; cases e6
  rw [if_pos hlim] at e6
  cases e6
  have hthere : ∀ v ∈ vs, ∃ s, ρ'[v]? = some s := fun v hv => let ⟨s, h1, _⟩ := free_at hfree hv; ⟨s, h1⟩
  refine hi2 F σ H ρ' ds ρ' _ R (liftA_some.mpr ⟨e1, rfl⟩) fun J H1 p1' iok => fun Dd hD => ?_
  have noD : ¬ Ow F σ ρ' Dd := notOwned p1'.rl hD
  have start : LcV X.K F Dd σ H1 ρ' (L2.wipe σ vs) (unw ρ' vs) (upd H1 Dd (.lst [])) [] := by
    have Ra : Rl X.K (F.add Dd) σ (upd H1 Dd (.lst [])) ρ' := p1'.rl.addNew (sameNew hD) hD (by rw [upd_same]; simp)
    have w0 : LcV X.K F Dd σ H1 ρ' σ ρ' (upd H1 Dd (.lst [])) [] := ⟨Ra, hide_both fun b o nb hb => ⟨fun z => (ow_add.mp z).elim nb (ne_of_none hb hD), sameNew hD _ _ hb⟩, ⟨[], upd_same, .nil⟩, sameNew hD⟩
    exact w0.wipe hthere
  refine ⟨fun i n H2 => n = ds.length - i ∧ i ≤ ds.length ∧ ∃ out rest, LcV X.K F Dd σ H1 ρ' (L2.wipe σ vs) (unw ρ' vs) H2 out ∧ compPs2 g p it1 g1 p1 e vs1 (unw ρ' vs) (ds.drop i) = some rest ∧ out ++ rest = total, ⟨_, rfl, Nat.zero_le _, [], total, start, e5, rfl⟩, fun i n H2 w => ?_⟩
  obtain ⟨hn, hle, out, rest, w, hcomp, happ⟩ := w
  have nb : bw = true → Same H1 H2 := fun _ => w.same
  by_cases hlt : i < ds.length
  · refine .inr ⟨iok.go i H2 _ w.kept nb hlt, fun H' => i + 1 ≤ ds.length ∧ ∃ out rest, LcV X.K F Dd σ H1 ρ' (L2.wipe σ vs) (unw ρ' vs) H' out ∧ compPs2 g p it1 g1 p1 e vs1 (unw ρ' vs) (ds.drop (i + 1)) = some rest ∧ out ++ rest = total, fun H' w' => ⟨ds.length - (i + 1), by omega, rfl, w'⟩, fun x H3 y => ?_⟩
    obtain ⟨s3, d, ed, dn⟩ := iok.yld i H2 _ x H3 w.kept nb w.rl.domO hlt y
    rw [List.getElem?_eq_getElem hlt] at ed
    cases ed
    rw [List.drop_eq_getElem_cons hlt] at hcomp
    obtain ⟨ρ2, c1, c2⟩ := Option.bind_eq_some_iff.mp hcomp
    obtain ⟨c, c3, c4⟩ := Option.bind_eq_some_iff.mp c2
    have w3 := w.grow s3
    refine ⟨F.add Dd, unw ρ' vs, ds[i], ρ2, w3.rl, dn, c1, fun σ2 R4 ev4 o4 => ?_⟩
    have l2 : σ2.length = (L2.wipe σ vs).length := by rw [R4.len, w3.rl.len]; exact (gout _ _ _ c1).1
    have hw : L2.wipe σ2 vs = L2.wipe σ vs := by
      have := wipe_eq (vs := vs) l2 fun j hj => o4 j fun z => hj (hv0 j z)
      rw [this, wipe_wipe]
    have w4 := w3.step R4 ev4.kept
    refine ⟨hw, F.add Dd, ρ2, c, ρ2, R4, liftT_some.mpr ⟨c3, rfl⟩, fun H4 p4 => ?_⟩
    have w5 := w4.grow (p4.pu rfl).2
    have l3 : ρ2.length = (unw ρ' vs).length := (gout _ _ _ c1).1
    have e2' : unw ρ2 vs = unw ρ' vs := by
      have := unw_eq (vs := vs) l3 fun j hj => (gout _ _ _ c1).2.1 j fun z => hj (hv0 j z)
      rw [this, unw_unw]
    have at2 : ∀ v ∈ vs, ∃ s, ρ2[v]? = some s := fun v hv' => by
      obtain ⟨s, hs'⟩ := hthere v hv'
      have hl : v < ρ2.length := by rw [l3, unw_length]; exact lt_of_some hs'
      exact ⟨_, List.getElem?_eq_getElem hl⟩
    -- back to the outer walk, from the state behind a target
    have back : ∀ {σc : L2.St} {ρc : Rho} {H5 : Hp} {o : List D}, LcV X.K F Dd σ H1 ρ' σc ρc H5 o → σc.length = σ2.length → (∀ j, j ∉ vs → σc[j]? = σ2[j]?) → ρc.length = ρ2.length → (∀ j, j ∉ vs → ρc[j]? = ρ2[j]?) → LcV X.K F Dd σ H1 ρ' (L2.wipe σ vs) (unw ρ' vs) H5 o := fun {σc ρc H5 o} w' la oa lb ob => by
      have h1 := w'.wipe (vs := vs) fun v hv' => by
        obtain ⟨s, hs'⟩ := at2 v hv'
        have hl : v < ρc.length := by rw [lb]; exact lt_of_some hs'
        exact ⟨_, List.getElem?_eq_getElem hl⟩
      rw [wipe_eq la oa, hw, unw_eq lb ob, e2'] at h1
      exact h1
    cases c with
    | false =>
      refine L2.iteF ?_
      rw [if_neg Bool.false_ne_true] at c4
      exact ⟨hlt, out, rest, back w5 rfl (fun _ _ => rfl) rfl (fun _ _ => rfl), c4, happ⟩
    | true =>
      refine L2.iteT ?_
      rw [if_pos rfl] at c4
      obtain ⟨es, c5, c6⟩ := Option.bind_eq_some_iff.mp c4
      obtain ⟨as, c7, c8⟩ := Option.bind_eq_some_iff.mp c6
      obtain ⟨r, c9, c10⟩ := Option.map_eq_some_iff.mp c8
      subst c10
      refine ⟨F.add Dd, ρ2, es, ρ2, w5.rl, liftA_some.mpr ⟨c5, rfl⟩, fun J1 H6 p6 iok1 => ?_⟩
      have w6 := w5.grow (p6.pu rfl).2
      have G0 : Same (hide H6 (Ow (F.add Dd) σ2 ρ2)) (hide H6 (Ow (F.add Dd) (L2.wipe σ2 vs1) (unw ρ2 vs1))) := (w6.rl.wiped (vs := vs1) fun v hv' => at2 v (hv v hv')).2.kept
      refine ⟨fun j n H7 => n = es.length - j ∧ j ≤ es.length ∧ ∃ o1 r1, LcV X.K F Dd σ H1 ρ' (L2.wipe σ2 vs1) (unw ρ2 vs1) H7 (out ++ o1) ∧ Same (hide H6 (Ow (F.add Dd) σ2 ρ2)) (hide H7 (Ow (F.add Dd) (L2.wipe σ2 vs1) (unw ρ2 vs1))) ∧ compPs g1 p1 e (unw ρ2 vs1) (es.drop j) = some r1 ∧ o1 ++ r1 = as,
        ⟨_, rfl, Nat.zero_le _, [], as, by rw [List.append_nil]; exact w6.wipe fun v hv' => at2 v (hv v hv'), G0, c7, rfl⟩, fun j n H7 u => ?_⟩
      obtain ⟨hn7, hle7, o1, r1, u, gk, ucomp, uapp⟩ := u
      by_cases hlt7 : j < es.length
      · refine .inr ⟨iok1.go j H7 _ gk (fun z => nomatch z) hlt7, fun H' => j + 1 ≤ es.length ∧ ∃ o1 r1, LcV X.K F Dd σ H1 ρ' (L2.wipe σ2 vs1) (unw ρ2 vs1) H' (out ++ o1) ∧ Same (hide H6 (Ow (F.add Dd) σ2 ρ2)) (hide H' (Ow (F.add Dd) (L2.wipe σ2 vs1) (unw ρ2 vs1))) ∧ compPs g1 p1 e (unw ρ2 vs1) (es.drop (j + 1)) = some r1 ∧ o1 ++ r1 = as,
          fun H' w' => ⟨es.length - (j + 1), by omega, rfl, w'⟩, fun x1 H8 y1 => ?_⟩
        obtain ⟨s8, d1, ed1, dn1⟩ := iok1.yld j H7 _ x1 H8 gk (fun z => nomatch z) u.rl.domO hlt7 y1
        rw [List.getElem?_eq_getElem hlt7] at ed1
        cases ed1
        rw [List.drop_eq_getElem_cons hlt7] at ucomp
        obtain ⟨ρ3, b1, b2⟩ := Option.bind_eq_some_iff.mp ucomp
        obtain ⟨c', b3, b4⟩ := Option.bind_eq_some_iff.mp b2
        have u8 := u.grow s8
        refine ⟨F.add Dd, unw ρ2 vs1, es[j], ρ3, u8.rl, dn1, b1, fun σ3 R9 ev9 o9 => ?_⟩
        have l9 : σ3.length = (L2.wipe σ2 vs1).length := by rw [R9.len, u8.rl.len]; exact (gout1 _ _ _ b1).1
        have hw1 : L2.wipe σ3 vs1 = L2.wipe σ2 vs1 := by
          have := wipe_eq (vs := vs1) l9 o9
          rw [this, wipe_wipe]
        have u9 := u8.step R9 ev9.kept
        refine ⟨hw1, F.add Dd, ρ3, c', ρ3, R9, liftT_some.mpr ⟨b3, rfl⟩, fun H9 p9 => ?_⟩
        have uA := u9.grow (p9.pu rfl).2
        obtain ⟨l10, o10, a10⟩ := gout1 _ _ _ b1
        have e10 : unw ρ3 vs1 = unw ρ2 vs1 := by
          have := unw_eq (vs := vs1) l10 o10
          rw [this, unw_unw]
        have gA : Same (hide H6 (Ow (F.add Dd) σ2 ρ2)) (hide H9 (Ow (F.add Dd) σ3 ρ3)) := ((gk.trans (hide_same s8)).trans ev9.kept).trans (hide_same (p9.pu rfl).2)
        have back1 : ∀ {H5 : Hp} {o : List D}, LcV X.K F Dd σ H1 ρ' σ3 ρ3 H5 o → Same (hide H6 (Ow (F.add Dd) σ2 ρ2)) (hide H5 (Ow (F.add Dd) σ3 ρ3)) → LcV X.K F Dd σ H1 ρ' (L2.wipe σ2 vs1) (unw ρ2 vs1) H5 o ∧ Same (hide H6 (Ow (F.add Dd) σ2 ρ2)) (hide H5 (Ow (F.add Dd) (L2.wipe σ2 vs1) (unw ρ2 vs1))) := fun {H5 o} w' gw => by
          have there : ∀ v ∈ vs1, ∃ s, ρ3[v]? = some s := fun v hv' => let ⟨z, hz⟩ := a10 v hv'; ⟨_, hz⟩
          have h1 := w'.wipe (vs := vs1) there
          have h2 := (w'.rl.wiped (vs := vs1) there).2.kept
          rw [hw1, e10] at h1 h2
          exact ⟨h1, gw.trans h2⟩
        cases c' with
        | false =>
          refine L2.iteF ?_
          rw [if_neg Bool.false_ne_true] at b4
          obtain ⟨q1, q2⟩ := back1 uA gA
          exact ⟨hlt7, o1, r1, q1, q2, b4, uapp⟩
        | true =>
          refine L2.iteT ?_
          rw [if_pos rfl] at b4
          obtain ⟨a, b5, b6⟩ := Option.bind_eq_some_iff.mp b4
          obtain ⟨r2, b7, b8⟩ := Option.map_eq_some_iff.mp b6
          subst b8
          refine ⟨F.add Dd, ρ3, a, ρ3, uA.rl, lift_some.mpr ⟨b5, rfl⟩, fun yv HB pB rB => ?_⟩
          have uB := uA.grow (pB.pu rfl).2
          have gB := gA.trans (hide_same (pB.pu rfl).2)
          obtain ⟨acc, ha, hd⟩ := uB.acc
          have hlen : acc.length < lim := by
            have h1 := hd.length
            have h2 := congrArg List.length uapp
            have h3 := congrArg List.length happ
            rw [List.length_append] at h1 h2 h3
            rw [List.length_append] at h3
            rw [List.length_cons] at h2
            omega
          refine ⟨acc, ha, by rw [sizeLine_eq]; exact hlen, hlt7, o1 ++ [a], r2, ?_⟩
          have uC := uB.app hD rB.vr ha
          have gC : Same (hide H6 (Ow (F.add Dd) σ2 ρ2)) (hide (upd HB Dd (.lst (acc ++ [yv]))) (Ow (F.add Dd) σ3 ρ3)) := gB.trans (uB.rl.outer (a := Dd) (o := .lst (acc ++ [yv])) (.inr rfl)).2
          obtain ⟨q1, q2⟩ := back1 uC gC
          exact ⟨by rw [← List.append_assoc]; exact q1, q2, b7, by rw [List.append_assoc]; exact uapp⟩
      · have ei : j = es.length := by omega
        subst ei
        rw [List.drop_length] at ucomp
        cases ucomp
        rw [List.append_nil] at uapp
        subst uapp
        refine .inl ⟨iok1.stop _ H7 _ gk (fun z => nomatch z) (Nat.le_refl _), hlt, out ++ o1, r, back u (by rw [wipe_length]) (fun j hj => wipe_out fun z => hj (hv j z)) (unw_length _ _) (fun j hj => unw_out fun z => hj (hv j z)), c9, by rw [List.append_assoc]; exact happ⟩
  · have ei : i = ds.length := by omega
    subst ei
    rw [List.drop_length] at hcomp
    cases hcomp
    rw [List.append_nil] at happ
    subst happ
    refine .inl ⟨iok.stop _ H2 _ w.kept nb (Nat.le_refl _), ?_⟩
    obtain ⟨acc, hacc, hdn⟩ := w.acc
    obtain ⟨Rr, owE⟩ := p1'.rl.restore hfree w.rl w.kept
    rw [rst_unw] at Rr owE
    have Rf : Rl X.K F σ H2 ρ' := Rr.drop
    have hDn : H Dd = none := by
      cases q : H Dd with
      | none => rfl
      | some o => exact absurd hD (p1'.ev.dom Dd (by rw [q]; simp))
    refine k _ H2 (p1'.more w.same) ⟨⟨Dd, rfl, hDn, noD, acc, hacc, DnL.mono (hide_less fun b hb => (owE b).mp (ow_add.mpr hb)) hdn⟩, fun _ b hb => ?_⟩
    cases hb
    exact Rr
section
variable {elt tg iter tg1 iter1 : Expr} {ifs ifs1 : List Expr} {scope : Scope} {own : List (Str × Nat)} {vs0 vs1 : List Nat} {pos : Pos} {it it1 : Rho → Option (List D)} {g g1 : Gf} {p p1 : Rho → Option Bool} {e : Rho → Option D} (hc : X.calm = true) (hN : X.N.Nodup) (hi : IG X true bw tg iter (liftA it)) (ok : BlkOk X.N X.env.scope scope own)
    (hg : ∀ (s : Shared) (H : Hp) (C : Addr) (cl : List (Str × Addr)) (fp : List Addr), GG (X.blk s H scope (compEnvC scope cl C X.env) fp) vs0 tg g)
    (ht : ∀ (s : Shared) (H : Hp) (C : Addr) (cl : List (Str × Addr)) (fp : List Addr), TsG (X.blk s H scope (compEnvC scope cl C X.env) fp) true ifs (liftT p))
    (hi1 : ∀ (s : Shared) (H : Hp) (C : Addr) (cl : List (Str × Addr)) (fp : List Addr), IG (X.blk s H scope (compEnvC scope cl C X.env) fp) true false tg1 iter1 (liftA it1))
    (hg1 : ∀ (s : Shared) (H : Hp) (C : Addr) (cl : List (Str × Addr)) (fp : List Addr), GG (X.blk s H scope (compEnvC scope cl C X.env) fp) vs1 tg1 g1)
    (ht1 : ∀ (s : Shared) (H : Hp) (C : Addr) (cl : List (Str × Addr)) (fp : List Addr), TsG (X.blk s H scope (compEnvC scope cl C X.env) fp) true ifs1 (liftT p1))
    (he : ∀ (s : Shared) (H : Hp) (C : Addr) (cl : List (Str × Addr)) (fp : List Addr), EP (X.blk s H scope (compEnvC scope cl C X.env) fp) .k elt e)
    (gout : OutOk vs0 g) (gout1 : OutOk vs1 g1) (hv0 : ∀ i ∈ vs0, i ∈ own.map (·.2)) (hv : ∀ i ∈ vs1, i ∈ own.map (·.2))
include hc hN hi ok hg ht hi1 hg1 ht1 he gout gout1 hv0 hv
theorem ep_comp2 (hs : ∀ x, foldedSetIterable iter X.env x = pure x := by intro _; rfl) (hs1 : ∀ env x, foldedSetIterable iter1 env x = pure x := by intro _ _; rfl) :
    EP X .f (.ListComp elt [⟨tg, iter, ifs, 0⟩, ⟨tg1, iter1, ifs1, 0⟩] scope pos) (compPE2 it g p it1 g1 p1 e (own.map (·.2)) vs1) := by
  obtain ⟨t, h1, _, h3⟩ := lc2_pure (pos := pos) hc hN hi ok hg ht hi1 hg1 ht1 he gout gout1 hv0 hv hs hs1
  exact ⟨t, h1, h3⟩
theorem sp_comp2 {i : Nat} {y : Str} {py spos : Pos} (hy : X.N[i]? = some y) (hyl : X.env.scope.names.lookup y = some .local) (hsw : swapsWith (.ListComp elt [⟨tg, iter, ifs, 0⟩, ⟨tg1, iter1, ifs1, 0⟩] scope pos) (some (.Name y py)) spos.line X.env = pure true)
    (hs : ∀ x, foldedSetIterable iter X.env x = pure x := by intro _; rfl) (hs1 : ∀ env x, foldedSetIterable iter1 env x = pure x := by intro _ _; rfl) :
    SG X kr (.Assign [.Name y py] (.ListComp elt [⟨tg, iter, ifs, 0⟩, ⟨tg1, iter1, ifs1, 0⟩] scope pos) spos) (sSetP i (lift (compPE2 it g p it1 g1 p1 e (own.map (·.2)) vs1))) := by
  obtain ⟨t, h1, h2, h3⟩ := lc2_pure (pos := pos) hc hN hi ok hg ht hi1 hg1 ht1 he gout gout1 hv0 hv hs hs1
  exact ⟨_, h2 hy hyl hsw, set_pure (m := true) fun F σ H ρ d ρ' Q R hf k => h3 F σ H ρ d ρ' Q R hf fun v H' p r => k v H' p (.k (Vr.weak r.vr))⟩
end
end
end DL
namespace K81
open PySem DL
def b_rounded_up : Sf :=
  (sRt (lift (pu1 negD (pu2 divD (pu1 negD (vP 0)) (vP 1)))))
def m_rounded_up : List D → Option D := fnP 2 b_rounded_up
def b_minutes_of_part : Sf :=
  (sRt (lift (puA m_rounded_up (aC (pu2 mulD (vP 0) (cC (.int 60))) (aC (vP 1) aN)))))
def m_minutes_of_part : List D → Option D := fnP 2 b_minutes_of_part
def b_minutes_needed : Sf :=
  (sRt (lift (puA (on1 sumD) (aC (compPE (puI (vP 0)) (setP 2) tsN (puA m_minutes_of_part (aC (vP 2) (aC (vP 1) aN))) [2]) aN))))
def m_minutes_needed : List D → Option D := fnP 3 b_minutes_needed
def b_all_shares : Sf :=
  (sSeq (sSetP 2 (lift (mkLP (aC (mkTP aN) aN)))) (sSeq (sFor (liftA (puR (aC (vP 0) aN))) (setP 3) (sSetP 2 (lift (compPE2 (puI (vP 2)) (setP 4) tsN (puR (aC (vP 1) aN)) (setP 5) tsN (pu2 addD (vP 4) (mkTP (aC (vP 5) aN))) [4, 5] [5])))) (sRt (lift (vP 2)))))
def m_all_shares : List D → Option D := fnP 6 b_all_shares
def b_pages_of_maker : Sf :=
  (sRt (lift (puA (on1 sumD) (aC (compPE (puR (aC (puA (on1 lenD) (aC (vP 0) aN)) aN)) (setP 3) (tstP (pu2 eqD (pu2 ixD (vP 1) (vP 3)) (vP 2))) (pu2 ixD (vP 0) (vP 3)) [3]) aN))))
def m_pages_of_maker : List D → Option D := fnP 4 b_pages_of_maker
def b_greatest_share : Sf :=
  (sRt (lift (puA (on1 maxL) (aC (compPE (puR (aC (vP 2) aN)) (setP 3) tsN (puA m_pages_of_maker (aC (vP 0) (aC (vP 1) (aC (vP 3) aN)))) [3]) aN))))
def m_greatest_share : List D → Option D := fnP 4 b_greatest_share
def b_shared_parts : Sf :=
  (sRt (lift (puA (on1 minL) (aC (compPE (puI (puA m_all_shares (aC (puA (on1 lenD) (aC (vP 0) aN)) (aC (vP 1) aN)))) (setP 2) tsN (puA m_greatest_share (aC (vP 0) (aC (vP 2) (aC (vP 1) aN)))) [2]) aN))))
def m_shared_parts : List D → Option D := fnP 3 b_shared_parts
def b_told_shares : Sf :=
  (sSeq (sSetP 2 (lift (puA m_shared_parts (aC (vP 0) (aC (vP 1) aN))))) (sRt (lift (pu2 ixD (compPE (puI (puA m_all_shares (aC (puA (on1 lenD) (aC (vP 0) aN)) (aC (vP 1) aN)))) (setP 3) (tstP (pu2 eqD (puA m_greatest_share (aC (vP 0) (aC (vP 3) (aC (vP 1) aN)))) (vP 2))) (vP 3) [3]) (cC (.int 0))))))
def m_told_shares : List D → Option D := fnP 4 b_told_shares
def b_ends_by : Sf :=
  (sRt (lift (pu2 addD (vP 2) (puA max2D (aC (pu2 subD (puA m_rounded_up (aC (puA m_minutes_needed (aC (vP 0) (aC (vP 1) aN))) (aC (vP 3) aN))) (cC (.int 1))) (aC (cC (.int 0)) aN))))))
def m_ends_by : List D → Option D := fnP 4 b_ends_by
def b_joined_late : Sf :=
  (sSeq (sSetP 4 (lift (puA m_minutes_needed (aC (vP 0) (aC (vP 1) aN))))) (sRt (lift (ifP (tstP (pu2 leD (vP 4) (vP 3))) (vP 4) (pu2 addD (vP 3) (puA m_rounded_up (aC (pu2 subD (vP 4) (vP 3)) (aC (pu2 addD (vP 2) (cC (.int 1))) aN))))))))
def m_joined_late : List D → Option D := fnP 5 b_joined_late
def b__law_draws : Sf :=
  (sSeq (sSetO 2 (lift (compPE (puI (vP 0)) (setP 7) tsN (puA (on1 intD) (aC (vP 7) aN)) [7]))) (sSeq (sIf (liftT (tstP (pu2 eqD (puA (on1 lenD) (aC (vB 2) aN)) (cC (.int 0))))) (sEx (mutE 2 gAppend (liftA (aC (cC (.int 0)) aN)))) sNx) (sSeq (sSetO 3 (lift (puA (on1 lstD) (aC (vB 2) aN)))) (sSeq (sSetO 4 (lift (mkLP aN))) (sSeq (sFor (liftA (puR (aC (vP 1) aN))) (setP 5) (sSeq (sSetP 6 (lift (pu2 modD (vP 5) (puA (on1 lenD) (aC (vB 2) aN))))) (sIf (liftT (andP (tstP (pu2 geD (pu2 ixD (vB 2) (vP 6)) (pu2 powD (cC (.int 10)) (cC (.int 18))))) (tstP (pu2 gtD (pu2 ixD (vB 3) (vP 6)) (cC (.int 0)))))) (sSeq (sEx (mutE 4 gAppend (liftA (aC (pu2 modD (puA (on1 intD) (aC (pu2 ixD (vB 3) (vP 6)) aN)) (cC (.int 1000))) aN)))) (storeL 3 (lift (pu2 divD (pu2 ixD (vB 3) (vP 6)) (cC (.int 1000)))) (lift (vP 6)))) (sSeq (sSetP 8 (lift (pu2 modD (puA (on1 intD) (aC (pu2 addD (pu2 addD (pu2 mulD (pu2 ixD (vB 2) (vP 6)) (cC (.int 48271))) (pu2 mulD (vP 5) (cC (.int 69621)))) (cC (.int 11))) aN)) (cC (.int 2147483647))))) (sEx (mutE 4 gAppend (liftA (aC (pu2 modD (puA (on1 intD) (aC (pu2 addD (pu2 addD (pu2 mulD (vP 8) (vP 8)) (pu2 mulD (cC (.int 3)) (vP 8))) (vP 5)) aN)) (cC (.int 1000003))) aN)))))))) (sSeq (sEx (mutE 4 gReverse (liftA aN))) (sRtO 4)))))))
def m__law_draws : List D → Option D := fnP 9 b__law_draws
def b__law_take : Sf :=
  (sSeq (sIf (liftT (tstP (pu2 eqD (puA (on1 lenD) (aC (vB 0) aN)) (cC (.int 0))))) (sRt (lift (cC (.int 0)))) sNx) (sRt (seq2 modD (seqA (on1 intD) (aS (mutE 0 gPop (liftA aN)) (liftA aN))) (lift (vP 1)))))
def m__law_take : D → List D → Option (D × D) := fnM 2 0 b__law_take
def b__law_cell : Sf :=
  (sSeq (sIf (liftT (tstP (pu2 eqD (puA (on1 lenD) (aC (vP 0) aN)) (cC (.int 0))))) (sRt (lift (cC (.int 0)))) sNx) (sSeq (sSetP 2 (seqA (on1 intD) (aS (seq2 ixD (lift (vP 0)) (callM 1 m__law_take (liftA (aC (puA (on1 lenD) (aC (vP 0) aN)) aN)))) (liftA aN)))) (sRt (lift (pu2 mulD (pu2 modD (puA (on1 absD) (aC (vP 2) aN)) (pu2 powD (cC (.int 10)) (cC (.int 60)))) (pu2 ixD (mkLP (aC (cC (.int 1)) (aC (pu1 negD (cC (.int 1))) aN))) (puA (on1 intD) (aC (pu2 ltD (vP 2) (cC (.int 0))) aN))))))))
def m__law_cell : D → List D → Option (D × D) := fnM 3 1 b__law_cell
def b__law_same (slf : List D → Option D) : Sf :=
  (sSeq (sIf (liftT (tstP (pu1 (isiD .bo) (vP 1)))) (sRt (lift (andVP (pu1 (isiD .bo) (vP 0)) (pu2 eqD (vP 0) (vP 1))))) sNx) (sSeq (sIf (liftT (tstP (pu1 (isiD .it) (vP 1)))) (sRt (lift (andVP (pu1 (isiD .it) (vP 0)) (andVP (pu1 notD (pu1 (isiD .bo) (vP 0))) (pu2 eqD (vP 0) (vP 1)))))) sNx) (sSeq (sIf (liftT (tstP (pu1 (isiD .st) (vP 1)))) (sRt (lift (andVP (pu1 (isiD .st) (vP 0)) (pu2 eqD (vP 0) (vP 1))))) sNx) (sSeq (sIf (liftT (tstP (pu2 isN (vP 1) (cC .none)))) (sRt (lift (pu2 isN (vP 0) (cC .none)))) sNx) (sSeq (sIf (liftT (orP (notP (tstP (pu1 (isiD .tu) (vP 0)))) (tstP (pu2 neD (puA (on1 lenD) (aC (vP 0) aN)) (puA (on1 lenD) (aC (vP 1) aN)))))) (sRt (lift (cC (.bool false)))) sNx) (sSeq (sFor (liftA (puR (aC (puA (on1 lenD) (aC (vP 1) aN)) aN))) (setP 2) (sIf (liftT (notP (tstP (puA slf (aC (pu2 ixD (vP 0) (vP 2)) (aC (pu2 ixD (vP 1) (vP 2)) aN)))))) (sRt (lift (cC (.bool false)))) sNx)) (sRt (lift (cC (.bool true))))))))))
def m__law_same : Nat → List D → Option D
  | 0 => fun _ => none
  | n + 1 => fnP 3 (b__law_same (m__law_same n))
def b__law_parts : Sf :=
  (sSeq (sSetO 3 (compE (liftA (puR (aC (vP 1) aN))) (setP 4) (liftT tsN) (seq2 mulD (lift (vP 2)) (seq2 ixD (mkL (aS (callM 0 m__law_take (liftA (aC (cC (.int 61)) aN))) (aS (callM 0 m__law_take (liftA (aC (cC (.int 5)) aN))) (liftA aN)))) (callM 0 m__law_take (liftA (aC (cC (.int 2)) aN))))) [4])) (sSeq (sIf (andT (liftT (tstP (pu2 gtD (vP 1) (cC (.int 1))))) (tst (seq2 eqD (callM 0 m__law_take (liftA (aC (cC (.int 2)) aN))) (lift (cC (.int 0)))))) (storeL 3 (lift (pu2 ixD (vB 3) (pu2 subD (vP 1) (cC (.int 1))))) (lift (cC (.int 0)))) sNx) (sRt (lift (puA (on1 tupD) (aC (vB 3) aN))))))
def m__law_parts : D → List D → Option (D × D) := fnM 5 0 b__law_parts
def b__law_shares : Sf :=
  (sSeq (sSetP 2 (lift (mkLP (aC (mkTP (aC (mkTP aN) (aC (pu2 repT (mkTP (aC (cC (.int 0)) aN)) (vP 1)) aN))) aN)))) (sSeq (sFor (liftA (puI (vP 0))) (setP 3) (sSeq (sSetP 5 (lift (mkLP aN))) (sSeq (sFor (liftA (puI (vP 2))) (gTup 2 (gCons (setP 6) (gCons (setP 7) gNil))) (sSetP 5 (lift (pu2 addD (vP 5) (compPE (puR (aC (vP 1) aN)) (setP 9) tsN (mkTP (aC (pu2 addD (vP 6) (mkTP (aC (vP 9) aN))) (aC (pu2 addD (pu2 addD (puS slD (vP 7) oN (oI (vP 9))) (mkTP (aC (pu2 addD (pu2 ixD (vP 7) (vP 9)) (vP 3)) aN))) (puS slD (vP 7) (oI (pu2 addD (vP 9) (cC (.int 1)))) oN)) aN))) [9]))))) (sSetP 2 (lift (vP 5)))))) (sSeq (sSetP 4 (lift (puA (on1 minL) (aC (compPE (puI (vP 2)) (setP 8) tsN (puA (on1 maxL) (aC (pu2 ixD (vP 8) (cC (.int 1))) aN)) [8]) aN)))) (sRt (lift (mkTP (aC (vP 4) (aC (puA (on1 minL) (aC (compPE (puI (vP 2)) (setP 8) (tstP (pu2 eqD (puA (on1 maxL) (aC (pu2 ixD (vP 8) (cC (.int 1))) aN)) (vP 4))) (pu2 ixD (vP 8) (cC (.int 0))) [8]) aN)) aN))))))))
def m__law_shares : List D → Option D := fnP 10 b__law_shares
def b__law_up : Sf :=
  (sRt (lift (pu2 divD (pu2 subD (pu2 addD (vP 0) (vP 1)) (cC (.int 1))) (vP 1))))
def m__law_up : List D → Option D := fnP 2 b__law_up
def b__law_are_shares_right : Sf :=
  (sSeq (sAsg (gTup 2 (gCons (setP 5) (gCons (setP 6) gNil))) (lift (puA m__law_shares (aC (vP 1) (aC (vP 2) aN))))) (sSeq (sIf (liftT (orP (notP (tstP (puA (m__law_same 6) (aC (puA m_shared_parts (aC (vP 1) (aC (vP 2) aN))) (aC (vP 5) aN))))) (notP (tstP (puA (m__law_same 6) (aC (puA m_told_shares (aC (vP 1) (aC (vP 2) aN))) (aC (vP 6) aN))))))) (sRt (lift (cC (.bool false)))) sNx) (sSeq (sIf (liftT (orP (tstP (pu2 ltD (vP 5) (puA (on1 maxL) (aC (pu2 addD (mkTP (aC (cC (.int 0)) aN)) (vP 1)) aN)))) (orP (tstP (pu2 ltD (pu2 mulD (vP 5) (vP 2)) (puA (on1 sumD) (aC (vP 1) aN)))) (tstP (pu2 gtD (vP 5) (puA (on1 sumD) (aC (vP 1) aN))))))) (sRt (lift (cC (.bool false)))) sNx) (sSeq (sIf (liftT (orP (andP (tstP (pu2 ltD (vP 2) (cC (.int 3)))) (tstP (pu2 gtD (puA m_shared_parts (aC (vP 1) (aC (pu2 addD (vP 2) (cC (.int 1))) aN))) (vP 5)))) (tstP (pu2 gtD (puA m_shared_parts (aC (puS slD (vP 1) oN (oI (pu1 negD (cC (.int 1))))) (aC (vP 2) aN))) (vP 5))))) (sRt (lift (cC (.bool false)))) sNx) (sSeq (sSetP 3 (seq2 addD (lift (cC (.int 2))) (callM 0 m__law_take (liftA (aC (cC (.int 5)) aN))))) (sSeq (sSetP 4 (lift (puA (on1 tupD) (aC (compPE (puI (vP 1)) (setP 7) tsN (pu2 mulD (vP 3) (vP 7)) [7]) aN)))) (sRt (lift (andVP (puA (m__law_same 6) (aC (puA m_shared_parts (aC (vP 4) (aC (vP 2) aN))) (aC (pu2 mulD (vP 3) (vP 5)) aN))) (puA (m__law_same 6) (aC (puA m_told_shares (aC (vP 4) (aC (vP 2) aN))) (aC (vP 6) aN))))))))))))
def m__law_are_shares_right : D → List D → Option (D × D) := fnM 8 0 b__law_are_shares_right
def b__law_are_minutes_right : Sf :=
  (sSeq (sSetP 3 (lift (puA (on1 sumD) (aC (compPE (puI (vP 1)) (setP 12) tsN (puA m__law_up (aC (pu2 mulD (cC (.int 60)) (vP 12)) (aC (vP 2) aN))) [12]) aN)))) (sSeq (sSetP 4 (callM 0 m__law_take (liftA (aC (pu2 addD (puA (on1 lenD) (aC (vP 1) aN)) (cC (.int 1))) aN)))) (sSeq (sIf (liftT (orP (notP (tstP (puA (m__law_same 6) (aC (puA m_minutes_needed (aC (vP 1) (aC (vP 2) aN))) (aC (vP 3) aN))))) (notP (tstP (puA (m__law_same 6) (aC (pu2 addD (puA m_minutes_needed (aC (puS slD (vP 1) oN (oI (vP 4))) (aC (vP 2) aN))) (puA m_minutes_needed (aC (puS slD (vP 1) (oI (vP 4)) oN) (aC (vP 2) aN)))) (aC (vP 3) aN))))))) (sRt (lift (cC (.bool false)))) sNx) (sSeq (sSetP 5 (seq2 subD (callM 0 m__law_take (liftA (aC (cC (.int 4000)) aN))) (lift (cC (.int 2000))))) (sSeq (sSetP 6 (seq2 ixD (mkL (aS (seq2 addD (lift (cC (.int 1))) (callM 0 m__law_take (liftA (aC (cC (.int 600)) aN)))) (aS (lift (pu2 addD (cC (.int 1)) (vP 3))) (aS (lift (puA max2D (aC (cC (.int 1)) (aC (vP 3) aN)))) (liftA aN))))) (callM 0 m__law_take (liftA (aC (cC (.int 3)) aN))))) (sSeq (sSetP 7 (lift (puA m_ends_by (aC (vP 1) (aC (vP 2) (aC (vP 5) (aC (vP 6) aN))))))) (sSeq (sIf (liftT (orP (notP (tstP (pu1 (isiD .it) (vP 7)))) (orP (tstP (pu1 (isiD .bo) (vP 7))) (orP (tstP (pu2 ltD (vP 7) (vP 5))) (tstP (pu2 ltD (pu2 mulD (pu2 addD (pu2 subD (vP 7) (vP 5)) (cC (.int 1))) (vP 6)) (vP 3))))))) (sRt (lift (cC (.bool false)))) sNx) (sSeq (sIf (liftT (andP (tstP (pu2 gtD (vP 7) (vP 5))) (tstP (pu2 geD (pu2 mulD (pu2 subD (vP 7) (vP 5)) (vP 6)) (vP 3))))) (sRt (lift (cC (.bool false)))) sNx) (sSeq (sFor (seqI (mkL (aS (lift (cC (.int 0))) (aS (lift (vP 3)) (aS (lift (pu2 divD (vP 3) (cC (.int 2)))) (aS (callM 0 m__law_take (liftA (aC (cC (.int 500)) aN))) (aS (lift (pu2 addD (vP 3) (cC (.int 7)))) (liftA aN)))))))) (setP 8) (sFor (seqI (mkL (aS (lift (cC (.int 0))) (aS (lift (cC (.int 1))) (aS (callM 0 m__law_take (liftA (aC (cC (.int 6)) aN))) (liftA aN)))))) (setP 9) (sSeq (sSetP 10 (lift (vP 3))) (sSeq (sIf (liftT (tstP (pu2 ltD (vP 8) (vP 3)))) (sSetP 10 (lift (pu2 addD (vP 8) (puA m__law_up (aC (pu2 subD (vP 3) (vP 8)) (aC (pu2 addD (cC (.int 1)) (vP 9)) aN)))))) sNx) (sSeq (sSetP 11 (lift (puA m_joined_late (aC (vP 1) (aC (vP 2) (aC (vP 9) (aC (vP 8) aN))))))) (sSeq (sIf (liftT (orP (notP (tstP (puA (m__law_same 6) (aC (vP 11) (aC (vP 10) aN))))) (orP (tstP (pu2 gtD (vP 11) (vP 3))) (orP (tstP (pu2 ltD (vP 11) (puA min2D (aC (vP 3) (aC (vP 8) aN))))) (andP (tstP (pu2 eqD (vP 9) (cC (.int 0)))) (tstP (pu2 neD (vP 11) (vP 3)))))))) (sRt (lift (cC (.bool false)))) sNx) (sIf (liftT (tstP (pu2 gtD (puA m_joined_late (aC (vP 1) (aC (vP 2) (aC (pu2 addD (vP 9) (cC (.int 1))) (aC (vP 8) aN))))) (vP 11)))) (sRt (lift (cC (.bool false)))) sNx))))))) (sRt (lift (cC (.bool true)))))))))))))
def m__law_are_minutes_right : D → List D → Option (D × D) := fnM 13 0 b__law_are_minutes_right
def b_law : Sf :=
  (sSeq (sSetO 1 (lift (puA m__law_draws (aC (vP 0) (aC (cC (.int 220)) aN))))) (sSeq (sFor (liftA (puR (aC (cC (.int 2)) aN))) (setP 2) (sSeq (sSetP 4 (seq2 ixD (mkL (aS (lift (cC (.int 1))) (aS (lift (cC (.int 1))) (aS (seq2 addD (lift (cC (.int 1))) (seq2 modD (seqA (on1 absD) (aS (callM 1 m__law_cell (aS (lift (vP 0)) (liftA aN))) (liftA aN))) (lift (pu2 powD (cC (.int 10)) (cC (.int 20)))))) (liftA aN))))) (callM 1 m__law_take (liftA (aC (cC (.int 3)) aN))))) (sSeq (sSetP 5 (seq2 addD (lift (cC (.int 1))) (callM 1 m__law_take (liftA (aC (cC (.int 3)) aN))))) (sSeq (sSetP 3 (callM 1 m__law_parts (aS (callM 1 m__law_take (liftA (aC (pu2 ixD (mkLP (aC (cC (.int 8)) (aC (cC (.int 8)) (aC (cC (.int 6)) aN)))) (pu2 subD (vP 5) (cC (.int 1)))) aN))) (aS (lift (vP 4)) (liftA aN))))) (sIf (orT (notT (tst (callM 1 m__law_are_shares_right (liftA (aC (vP 3) (aC (vP 5) aN)))))) (notT (tst (callM 1 m__law_are_minutes_right (aS (lift (vP 3)) (aS (seq2 addD (lift (cC (.int 1))) (callM 1 m__law_take (liftA (aC (cC (.int 40)) aN)))) (liftA aN))))))) (sRt (lift (cC (.bool false)))) sNx))))) (sSeq (sSetP 3 (lift (mkTP (aC (cC (.int 7)) (aC (cC (.int 3)) (aC (cC (.int 5)) (aC (cC (.int 4)) aN))))))) (sSeq (sIf (liftT (orP (notP (tstP (puA (m__law_same 6) (aC (puA m_shared_parts (aC (vP 3) (aC (cC (.int 2)) aN))) (aC (cC (.int 10)) aN))))) (orP (notP (tstP (puA (m__law_same 6) (aC (puA m_told_shares (aC (vP 3) (aC (cC (.int 2)) aN))) (aC (mkTP (aC (cC (.int 0)) (aC (cC (.int 0)) (aC (cC (.int 1)) (aC (cC (.int 1)) aN))))) aN))))) (notP (tstP (puA (m__law_same 6) (aC (puA m_shared_parts (aC (vP 3) (aC (cC (.int 3)) aN))) (aC (cC (.int 7)) aN)))))))) (sRt (lift (cC (.bool false)))) sNx) (sSeq (sIf (liftT (orP (notP (tstP (puA (m__law_same 6) (aC (puA m_told_shares (aC (vP 3) (aC (cC (.int 3)) aN))) (aC (mkTP (aC (cC (.int 0)) (aC (cC (.int 1)) (aC (cC (.int 2)) (aC (cC (.int 1)) aN))))) aN))))) (orP (notP (tstP (puA (m__law_same 6) (aC (puA m_minutes_needed (aC (vP 3) (aC (cC (.int 7)) aN))) (aC (cC (.int 164)) aN))))) (notP (tstP (puA (m__law_same 6) (aC (puA m_ends_by (aC (vP 3) (aC (cC (.int 7)) (aC (cC (.int 3)) (aC (cC (.int 82)) aN))))) (aC (cC (.int 4)) aN)))))))) (sRt (lift (cC (.bool false)))) sNx) (sRt (lift (andVP (puA (m__law_same 6) (aC (puA m_joined_late (aC (vP 3) (aC (cC (.int 7)) (aC (cC (.int 1)) (aC (cC (.int 41)) aN))))) (aC (cC (.int 103)) aN))) (andVP (puA (m__law_same 6) (aC (puA m_shared_parts (aC (mkTP aN) (aC (cC (.int 2)) aN))) (aC (cC (.int 0)) aN))) (andVP (puA (m__law_same 6) (aC (puA m_told_shares (aC (mkTP aN) (aC (cC (.int 3)) aN))) (aC (mkTP aN) aN))) (puA (m__law_same 6) (aC (puA m_ends_by (aC (mkTP aN) (aC (cC (.int 9)) (aC (cC (.int 5)) (aC (cC (.int 60)) aN))))) (aC (cC (.int 5)) aN)))))))))))))
def m_law : List D → Option D := fnP 6 b_law
end K81
namespace K81
open PySem PySem.Spec PyProof.Rows L2 DL
def topS (i : Nat) : Stmt := PySem.Challenge.pw_leadstrue_k81_whole_parts_shared_by_make.main.body.getD i (.Pass ⟨0, 0, 0, 0⟩)
theorem sc_rounded_up : FnScope ["number", "by"] ["number", "by"] (defScope (topS 1)) := ⟨rfl, rfl, rfl, by decide +kernel, rfl, by decide +kernel, by decide +kernel⟩
theorem sc_minutes_of_part : FnScope ["pages", "speed"] ["pages", "speed"] (defScope (topS 2)) := ⟨rfl, rfl, rfl, by decide +kernel, rfl, by decide +kernel, by decide +kernel⟩
theorem sc_minutes_needed : FnScope ["parts", "speed", "pages"] ["parts", "speed"] (defScope (topS 3)) := ⟨rfl, rfl, rfl, by decide +kernel, rfl, by decide +kernel, by decide +kernel⟩
theorem sc_all_shares : FnScope ["many", "makers", "rows", "part", "row", "maker"] ["many", "makers"] (defScope (topS 4)) := ⟨rfl, rfl, rfl, by decide +kernel, rfl, by decide +kernel, by decide +kernel⟩
theorem sc_pages_of_maker : FnScope ["parts", "row", "maker", "at"] ["parts", "row", "maker"] (defScope (topS 5)) := ⟨rfl, rfl, rfl, by decide +kernel, rfl, by decide +kernel, by decide +kernel⟩
theorem sc_greatest_share : FnScope ["parts", "row", "makers", "maker"] ["parts", "row", "makers"] (defScope (topS 6)) := ⟨rfl, rfl, rfl, by decide +kernel, rfl, by decide +kernel, by decide +kernel⟩
theorem sc_shared_parts : FnScope ["parts", "many", "row"] ["parts", "many"] (defScope (topS 7)) := ⟨rfl, rfl, rfl, by decide +kernel, rfl, by decide +kernel, by decide +kernel⟩
theorem sc_told_shares : FnScope ["parts", "many", "least", "row"] ["parts", "many"] (defScope (topS 8)) := ⟨rfl, rfl, rfl, by decide +kernel, rfl, by decide +kernel, by decide +kernel⟩
theorem sc_ends_by : FnScope ["parts", "speed", "begin", "day"] ["parts", "speed", "begin", "day"] (defScope (topS 9)) := ⟨rfl, rfl, rfl, by decide +kernel, rfl, by decide +kernel, by decide +kernel⟩
theorem sc_joined_late : FnScope ["parts", "speed", "more", "at", "whole"] ["parts", "speed", "more", "at"] (defScope (topS 10)) := ⟨rfl, rfl, rfl, by decide +kernel, rfl, by decide +kernel, by decide +kernel⟩
theorem sc__law_draws : FnScope ["script", "many", "cells", "rest", "draws", "k", "at", "cell", "mingled"] ["script", "many"] (defScope (topS 12)) := ⟨rfl, rfl, rfl, by decide +kernel, rfl, by decide +kernel, by decide +kernel⟩
theorem sc__law_take : FnScope ["draws", "many"] ["draws", "many"] (defScope (topS 13)) := ⟨rfl, rfl, rfl, by decide +kernel, rfl, by decide +kernel, by decide +kernel⟩
theorem sc__law_cell : FnScope ["script", "draws", "cell"] ["script", "draws"] (defScope (topS 14)) := ⟨rfl, rfl, rfl, by decide +kernel, rfl, by decide +kernel, by decide +kernel⟩
theorem sc__law_same : FnScope ["actual", "due", "k"] ["actual", "due"] (defScope (topS 15)) := ⟨rfl, rfl, rfl, by decide +kernel, rfl, by decide +kernel, by decide +kernel⟩
theorem sc__law_parts : FnScope ["draws", "many", "scale", "found", "k"] ["draws", "many", "scale"] (defScope (topS 16)) := ⟨rfl, rfl, rfl, by decide +kernel, rfl, by decide +kernel, by decide +kernel⟩
theorem sc__law_shares : FnScope ["parts", "makers", "rows", "pages", "least", "longer", "row", "sums", "pair", "k"] ["parts", "makers"] (defScope (topS 17)) := ⟨rfl, rfl, rfl, by decide +kernel, rfl, by decide +kernel, by decide +kernel⟩
theorem sc__law_up : FnScope ["number", "by"] ["number", "by"] (defScope (topS 18)) := ⟨rfl, rfl, rfl, by decide +kernel, rfl, by decide +kernel, by decide +kernel⟩
theorem sc__law_are_shares_right : FnScope ["draws", "parts", "makers", "by", "great", "least", "row", "pages"] ["draws", "parts", "makers"] (defScope (topS 19)) := ⟨rfl, rfl, rfl, by decide +kernel, rfl, by decide +kernel, by decide +kernel⟩
theorem sc__law_are_minutes_right : FnScope ["draws", "parts", "speed", "whole", "at", "begin", "day", "told", "minute", "more", "due", "end", "pages"] ["draws", "parts", "speed"] (defScope (topS 20)) := ⟨rfl, rfl, rfl, by decide +kernel, rfl, by decide +kernel, by decide +kernel⟩
theorem sc_law : FnScope ["script", "draws", "turn", "parts", "scale", "makers"] ["script"] (defScope (topS 21)) := ⟨rfl, rfl, rfl, by decide +kernel, rfl, by decide +kernel, by decide +kernel⟩
structure Top (K : Fg) (mg : Str → Option Value) : Prop where
  d_rounded_up : Def K mg "rounded_up" (topS 1) ["number", "by"]
  d_minutes_of_part : Def K mg "minutes_of_part" (topS 2) ["pages", "speed"]
  d_minutes_needed : Def K mg "minutes_needed" (topS 3) ["parts", "speed"]
  d_all_shares : Def K mg "all_shares" (topS 4) ["many", "makers"]
  d_pages_of_maker : Def K mg "pages_of_maker" (topS 5) ["parts", "row", "maker"]
  d_greatest_share : Def K mg "greatest_share" (topS 6) ["parts", "row", "makers"]
  d_shared_parts : Def K mg "shared_parts" (topS 7) ["parts", "many"]
  d_told_shares : Def K mg "told_shares" (topS 8) ["parts", "many"]
  d_ends_by : Def K mg "ends_by" (topS 9) ["parts", "speed", "begin", "day"]
  d_joined_late : Def K mg "joined_late" (topS 10) ["parts", "speed", "more", "at"]
  d__law_draws : Def K mg "_law_draws" (topS 12) ["script", "many"]
  d__law_take : Def K mg "_law_take" (topS 13) ["draws", "many"]
  d__law_cell : Def K mg "_law_cell" (topS 14) ["script", "draws"]
  d__law_same : Def K mg "_law_same" (topS 15) ["actual", "due"]
  d__law_parts : Def K mg "_law_parts" (topS 16) ["draws", "many", "scale"]
  d__law_shares : Def K mg "_law_shares" (topS 17) ["parts", "makers"]
  d__law_up : Def K mg "_law_up" (topS 18) ["number", "by"]
  d__law_are_shares_right : Def K mg "_law_are_shares_right" (topS 19) ["draws", "parts", "makers"]
  d__law_are_minutes_right : Def K mg "_law_are_minutes_right" (topS 20) ["draws", "parts", "speed"]
  d_law : Def K mg "law" (topS 21) ["script"]
  n_abs : mg "abs" = none
  n_bool : mg "bool" = none
  n_int : mg "int" = none
  n_isinstance : mg "isinstance" = none
  n_len : mg "len" = none
  n_list : mg "list" = none
  n_max : mg "max" = none
  n_min : mg "min" = none
  n_range : mg "range" = none
  n_str : mg "str" = none
  n_sum : mg "sum" = none
  n_tuple : mg "tuple" = none
section
variable {P : Program} {w : World} {K : Fg} {mg : Str → Option Value} {base : Heap}
theorem ok_rounded_up (T : Top K mg) : Ent P w K mg base 1 "rounded_up" ["number", "by"] (spP K 2 .k m_rounded_up) := by
  have S := sc_rounded_up
  have z := ent_pure (k := 0) (P := P) (w := w) (base := base) T.d_rounded_up (b := b_rounded_up) S
  refine z fun f cdv A outer s H E hr => ?_
  exact
    (sb_one (sg_ret (ep_un ud_neg (ep_bin od_div (ep_un ud_neg (ep_var (pv 0))) (ep_var (pv 1))))))
theorem ok_minutes_of_part (T : Top K mg) (E_rounded_up : Ent P w K mg base 1 "rounded_up" ["number", "by"] (spP K 2 .k m_rounded_up)) : Ent P w K mg base 2 "minutes_of_part" ["pages", "speed"] (spP K 2 .k m_minutes_of_part) := by
  have S := sc_minutes_of_part
  have z := ent_pure (k := 1) (P := P) (w := w) (base := base) T.d_minutes_of_part (b := b_minutes_of_part) S
  refine z fun f cdv A outer s H E hr => ?_
  exact
    (sb_one (sg_ret (pcall E_rounded_up (hr.mono (by decide)) (by rfl) (ap_cons (ep_bin od_mul (ep_var (pv 0)) ep_int) (ap_cons (ep_var (pv 1)) ap_nil)))))
theorem ok_minutes_needed (T : Top K mg) (E_minutes_of_part : Ent P w K mg base 2 "minutes_of_part" ["pages", "speed"] (spP K 2 .k m_minutes_of_part)) : Ent P w K mg base 3 "minutes_needed" ["parts", "speed"] (spP K 2 .k m_minutes_needed) := by
  have S := sc_minutes_needed
  have z := ent_pure (k := 2) (P := P) (w := w) (base := base) T.d_minutes_needed (b := b_minutes_needed) S
  refine z fun f cdv A outer s H E hr => ?_
  exact
    (sb_one (sg_ret (ep_callB (cd_sum rfl) (by rfl) T.n_sum (ab_cons (ep_comp (own := [("pages", 2)]) rfl S.nd (ip_any (ep_var (pv 0))) (blkOk_by (by rfl)) (fun _ _ _ _ _ => (gg_name S.nd rfl (.inl rfl))) (fun _ _ _ _ _ => ts_nil) (fun _ _ _ _ _ => (pcall E_minutes_of_part (hr.mono (by decide)) (by rfl) (ap_cons (ep_var (pv 2)) (ap_cons (ep_var (pv 1)) ap_nil)))) (oo_name 2)) ab_nil))))
theorem ok_all_shares (T : Top K mg) : Ent P w K mg base 1 "all_shares" ["many", "makers"] (spP K 2 .k m_all_shares) := by
  have S := sc_all_shares
  have z := ent_pure (k := 0) (P := P) (w := w) (base := base) T.d_all_shares (b := b_all_shares) S
  refine z fun f cdv A outer s H E hr => ?_
  exact
    (sb_cons (sg_set S.nd rfl (.inl rfl) ((ep_lst (ap_cons (ep_tup ap_nil) ap_nil)).toK)) (sb_cons (sg_for PassesOwn.never rfl (ip_range1 (by rfl) T.n_range (ap_cons (ep_var (pv 0)) ap_nil)) (gg_name S.nd rfl (.inl rfl)) (sb_one (sp_comp2 (own := [("row", 4), ("maker", 5)]) rfl S.nd (ip_any (ep_var (pv 2))) (blkOk_by (by rfl)) (fun _ _ _ _ _ => (gg_name S.nd rfl (.inl rfl))) (fun _ _ _ _ _ => ts_nil) (fun _ _ _ _ _ => (ip_range1 (by rfl) T.n_range (ap_cons (ep_var (pv 1)) ap_nil))) (fun _ _ _ _ _ => (gg_name S.nd rfl (.inl rfl))) (fun _ _ _ _ _ => ts_nil) (fun _ _ _ _ _ => (ep_bin od_add (ep_var (pv 4)) (ep_tup (ap_cons (ep_var (pv 5)) ap_nil)))) (oo_name 4) (oo_name 5) (by decide) (by decide) rfl rfl (by rfl)))) (sb_one (sg_ret (ep_var (pv 2))))))
theorem ok_pages_of_maker (T : Top K mg) : Ent P w K mg base 1 "pages_of_maker" ["parts", "row", "maker"] (spP K 3 .k m_pages_of_maker) := by
  have S := sc_pages_of_maker
  have z := ent_pure (k := 0) (P := P) (w := w) (base := base) T.d_pages_of_maker (b := b_pages_of_maker) S
  refine z fun f cdv A outer s H E hr => ?_
  exact
    (sb_one (sg_ret (ep_callB (cd_sum rfl) (by rfl) T.n_sum (ab_cons (ep_comp (own := [("at", 3)]) rfl S.nd (ip_range1 (by rfl) T.n_range (ap_cons (ep_callB cd_len (by rfl) T.n_len (ab_cons (ep_var (pv 0)) ab_nil)) ap_nil)) (blkOk_by (by rfl)) (fun _ _ _ _ _ => (gg_name S.nd rfl (.inl rfl))) (fun _ _ _ _ _ => (ts_one (tp_cmp (od_eq hr.units) (ep_ix ix_d (ep_var (pv 1)) (ep_var (pv 3))) (ep_var (pv 2))))) (fun _ _ _ _ _ => (ep_ix ix_d (ep_var (pv 0)) (ep_var (pv 3)))) (oo_name 3)) ab_nil))))
theorem ok_greatest_share (T : Top K mg) (E_pages_of_maker : Ent P w K mg base 1 "pages_of_maker" ["parts", "row", "maker"] (spP K 3 .k m_pages_of_maker)) : Ent P w K mg base 2 "greatest_share" ["parts", "row", "makers"] (spP K 3 .k m_greatest_share) := by
  have S := sc_greatest_share
  have z := ent_pure (k := 1) (P := P) (w := w) (base := base) T.d_greatest_share (b := b_greatest_share) S
  refine z fun f cdv A outer s H E hr => ?_
  exact
    (sb_one (sg_ret (ep_callB (cd_maxL rfl hr.units) (by rfl) T.n_max (ab_cons (ep_comp (own := [("maker", 3)]) rfl S.nd (ip_range1 (by rfl) T.n_range (ap_cons (ep_var (pv 2)) ap_nil)) (blkOk_by (by rfl)) (fun _ _ _ _ _ => (gg_name S.nd rfl (.inl rfl))) (fun _ _ _ _ _ => ts_nil) (fun _ _ _ _ _ => (pcall E_pages_of_maker (hr.mono (by decide)) (by rfl) (ap_cons (ep_var (pv 0)) (ap_cons (ep_var (pv 1)) (ap_cons (ep_var (pv 3)) ap_nil))))) (oo_name 3)) ab_nil))))
theorem ok_shared_parts (T : Top K mg) (E_all_shares : Ent P w K mg base 1 "all_shares" ["many", "makers"] (spP K 2 .k m_all_shares)) (E_greatest_share : Ent P w K mg base 2 "greatest_share" ["parts", "row", "makers"] (spP K 3 .k m_greatest_share)) : Ent P w K mg base 3 "shared_parts" ["parts", "many"] (spP K 2 .k m_shared_parts) := by
  have S := sc_shared_parts
  have z := ent_pure (k := 2) (P := P) (w := w) (base := base) T.d_shared_parts (b := b_shared_parts) S
  refine z fun f cdv A outer s H E hr => ?_
  exact
    (sb_one (sg_ret (ep_callB (cd_minL rfl hr.units) (by rfl) T.n_min (ab_cons (ep_comp (own := [("row", 2)]) rfl S.nd (ip_any (pcall E_all_shares (hr.mono (by decide)) (by rfl) (ap_cons (ep_callB cd_len (by rfl) T.n_len (ab_cons (ep_var (pv 0)) ab_nil)) (ap_cons (ep_var (pv 1)) ap_nil)))) (blkOk_by (by rfl)) (fun _ _ _ _ _ => (gg_name S.nd rfl (.inl rfl))) (fun _ _ _ _ _ => ts_nil) (fun _ _ _ _ _ => (pcall E_greatest_share (hr.mono (by decide)) (by rfl) (ap_cons (ep_var (pv 0)) (ap_cons (ep_var (pv 2)) (ap_cons (ep_var (pv 1)) ap_nil))))) (oo_name 2)) ab_nil))))
theorem ok_told_shares (T : Top K mg) (E_all_shares : Ent P w K mg base 1 "all_shares" ["many", "makers"] (spP K 2 .k m_all_shares)) (E_greatest_share : Ent P w K mg base 2 "greatest_share" ["parts", "row", "makers"] (spP K 3 .k m_greatest_share)) (E_shared_parts : Ent P w K mg base 3 "shared_parts" ["parts", "many"] (spP K 2 .k m_shared_parts)) : Ent P w K mg base 4 "told_shares" ["parts", "many"] (spP K 2 .k m_told_shares) := by
  have S := sc_told_shares
  have z := ent_pure (k := 3) (P := P) (w := w) (base := base) T.d_told_shares (b := b_told_shares) S
  refine z fun f cdv A outer s H E hr => ?_
  exact
    (sb_cons (sg_set S.nd rfl (.inr rfl) (pcall E_shared_parts (hr.mono (by decide)) (by rfl) (ap_cons (ep_var (pv 0)) (ap_cons (ep_var (pv 1)) ap_nil)))) (sb_one (sg_ret (ep_ix ix_d (ep_comp (own := [("row", 3)]) rfl S.nd (ip_any (pcall E_all_shares (hr.mono (by decide)) (by rfl) (ap_cons (ep_callB cd_len (by rfl) T.n_len (ab_cons (ep_var (pv 0)) ab_nil)) (ap_cons (ep_var (pv 1)) ap_nil)))) (blkOk_by (by rfl)) (fun _ _ _ _ _ => (gg_name S.nd rfl (.inl rfl))) (fun _ _ _ _ _ => (ts_one (tp_cmp (od_eq hr.units) (pcall E_greatest_share (hr.mono (by decide)) (by rfl) (ap_cons (ep_var (pv 0)) (ap_cons (ep_var (pv 3)) (ap_cons (ep_var (pv 1)) ap_nil)))) (ep_var (pv 2))))) (fun _ _ _ _ _ => (ep_var (pv 3))) (oo_name 3)) ep_int))))
theorem ok_ends_by (T : Top K mg) (E_minutes_needed : Ent P w K mg base 3 "minutes_needed" ["parts", "speed"] (spP K 2 .k m_minutes_needed)) (E_rounded_up : Ent P w K mg base 1 "rounded_up" ["number", "by"] (spP K 2 .k m_rounded_up)) : Ent P w K mg base 4 "ends_by" ["parts", "speed", "begin", "day"] (spP K 4 .k m_ends_by) := by
  have S := sc_ends_by
  have z := ent_pure (k := 3) (P := P) (w := w) (base := base) T.d_ends_by (b := b_ends_by) S
  refine z fun f cdv A outer s H E hr => ?_
  exact
    (sb_one (sg_ret (ep_bin od_add (ep_var (pv 2)) (ep_callB (cd_max2 rfl) (by rfl) T.n_max (ab_cons (ep_bin od_sub (pcall E_rounded_up (hr.mono (by decide)) (by rfl) (ap_cons (pcall E_minutes_needed (hr.mono (by decide)) (by rfl) (ap_cons (ep_var (pv 0)) (ap_cons (ep_var (pv 1)) ap_nil))) (ap_cons (ep_var (pv 3)) ap_nil))) ep_int) (ab_cons ep_int ab_nil))))))
theorem ok_joined_late (T : Top K mg) (E_minutes_needed : Ent P w K mg base 3 "minutes_needed" ["parts", "speed"] (spP K 2 .k m_minutes_needed)) (E_rounded_up : Ent P w K mg base 1 "rounded_up" ["number", "by"] (spP K 2 .k m_rounded_up)) : Ent P w K mg base 4 "joined_late" ["parts", "speed", "more", "at"] (spP K 4 .k m_joined_late) := by
  have S := sc_joined_late
  have z := ent_pure (k := 3) (P := P) (w := w) (base := base) T.d_joined_late (b := b_joined_late) S
  refine z fun f cdv A outer s H E hr => ?_
  exact
    (sb_cons (sg_set S.nd rfl (.inl rfl) (pcall E_minutes_needed (hr.mono (by decide)) (by rfl) (ap_cons (ep_var (pv 0)) (ap_cons (ep_var (pv 1)) ap_nil)))) (sb_one (sg_ret (ep_if (tp_cmp (od_le hr.units) (ep_var (pv 4)) (ep_var (pv 3))) (ep_var (pv 4)) (ep_bin od_add (ep_var (pv 3)) (pcall E_rounded_up (hr.mono (by decide)) (by rfl) (ap_cons (ep_bin od_sub (ep_var (pv 4)) (ep_var (pv 3))) (ap_cons (ep_bin od_add (ep_var (pv 2)) ep_int) ap_nil))))))))
theorem ok__law_draws (T : Top K mg) : Ent P w K mg base 1 "_law_draws" ["script", "many"] (spP K 2 .f m__law_draws) := by
  have S := sc__law_draws
  have z := ent_fresh (k := 0) (P := P) (w := w) (base := base) T.d__law_draws (b := b__law_draws) S (by repeat (first | exact nn_rt | exact nn_rtO | refine nn_seq ?_ | refine nn_if ?_ ?_))
  refine z fun f cdv A outer s H E hr => ?_
  exact
    (sb_cons (sp_compO (own := [("cell", 7)]) rfl S.nd (ip_any (ep_var (pv 0))) (blkOk_by (by rfl)) (fun _ _ _ _ _ => (gg_name S.nd rfl (.inl rfl))) (fun _ _ _ _ _ => ts_nil) (fun _ _ _ _ _ => (ep_callT cd_int (by rfl) T.n_int (ab_cons (ep_var (pv 7)) ab_nil))) (oo_name 7) rfl rfl (by rfl)) (sb_cons (sg_if (tp_cmp (od_eq hr.units) (ep_callB cd_len (by rfl) T.n_len (ab_cons (ep_varB (pv 2)) ab_nil)) ep_int) (sb_one (sg_expr (eg_mut PySem.F.plainAttrs_list PySem.F.slot_list_append PySem.F.type_list_append mu_append (pv 2) (ap_cons ep_int ap_nil)))) sb_nil) (sb_cons (sg_setO S.nd rfl (.inl rfl) (ep_callT (cd_lst (kd := .f) trivial) (by rfl) T.n_list (ab_cons (ep_varB (pv 2)) ab_nil))) (sb_cons (sg_setO S.nd rfl (.inl rfl) (ep_lst ap_nil)) (sb_cons (sg_for PassesOwn.never rfl (ip_range1 (by rfl) T.n_range (ap_cons (ep_var (pv 1)) ap_nil)) (gg_name S.nd rfl (.inl rfl)) (sb_cons (sg_set S.nd rfl (.inl rfl) (ep_bin od_mod (ep_var (pv 5)) (ep_callB cd_len (by rfl) T.n_len (ab_cons (ep_varB (pv 2)) ab_nil)))) (sb_one (sg_if (tw_tg (tpw_and (tp_cmp (od_ge hr.units) (ep_ix ix_d (ep_varB (pv 2)) (ep_var (pv 6))) (ep_bin od_pow ep_int ep_int)) (tw_and1 (tp_cmp (od_gt hr.units) (ep_ix ix_d (ep_varB (pv 3)) (ep_var (pv 6))) ep_int)))) (sb_cons (sg_expr (eg_mut PySem.F.plainAttrs_list PySem.F.slot_list_append PySem.F.type_list_append mu_append (pv 4) (ap_cons (ep_bin od_mod (ep_callT cd_int (by rfl) T.n_int (ab_cons (ep_ix ix_d (ep_varB (pv 3)) (ep_var (pv 6))) ab_nil)) ep_int) ap_nil))) (sb_one (sg_storeL (ep_bin od_div (ep_ix ix_d (ep_varB (pv 3)) (ep_var (pv 6))) ep_int) (pv 3) (ep_var (pv 6))))) (sb_cons (sg_set S.nd rfl (.inl rfl) (ep_bin od_mod (ep_callT cd_int (by rfl) T.n_int (ab_cons (ep_bin od_add (ep_bin od_add (ep_bin od_mul (ep_ix ix_d (ep_varB (pv 2)) (ep_var (pv 6))) ep_int) (ep_bin od_mul (ep_var (pv 5)) ep_int)) ep_int) ab_nil)) ep_int)) (sb_one (sg_expr (eg_mut PySem.F.plainAttrs_list PySem.F.slot_list_append PySem.F.type_list_append mu_append (pv 4) (ap_cons (ep_bin od_mod (ep_callT cd_int (by rfl) T.n_int (ab_cons (ep_bin od_add (ep_bin od_add (ep_bin od_mul (ep_var (pv 8)) (ep_var (pv 8))) (ep_bin od_mul ep_int (ep_var (pv 8)))) (ep_var (pv 5))) ab_nil)) ep_int) ap_nil))))))))) (sb_cons (sg_expr (eg_mut0 PySem.F.plainAttrs_list PySem.F.slot_list_reverse PySem.F.type_list_reverse mu_reverse (pv 4))) (sb_one (sg_retO (pv 4)))))))))
theorem ok__law_take (T : Top K mg) : Ent P w K mg base 1 "_law_take" ["draws", "many"] (spM K 2 0 m__law_take) := by
  have S := sc__law_take
  have z := ent_mut (k := 0) (j := 0) (P := P) (w := w) (base := base) T.d__law_take (b := b__law_take) S
  refine z fun f cdv A outer s H E hr => ?_
  exact
    (sb_cons (sg_if (tp_cmp (od_eq hr.units) (ep_callB cd_len (by rfl) T.n_len (ab_cons (ep_varB (pv 0)) ab_nil)) ep_int) (sb_one (sg_ret ep_int)) sb_nil) (sb_one (sg_ret (eg_bin od_mod (eg_callT cd_int (by rfl) T.n_int (ag_cons (eg_mut0 PySem.F.plainAttrs_list PySem.F.slot_list_pop PySem.F.type_list_pop mu_pop (pv 0)) ap_nil)) (ep_var (pv 1))))))
theorem ok__law_cell (T : Top K mg) (E__law_take : Ent P w K mg base 1 "_law_take" ["draws", "many"] (spM K 2 0 m__law_take)) : Ent P w K mg base 2 "_law_cell" ["script", "draws"] (spM K 2 1 m__law_cell) := by
  have S := sc__law_cell
  have z := ent_mut (k := 1) (j := 1) (P := P) (w := w) (base := base) T.d__law_cell (b := b__law_cell) S
  refine z fun f cdv A outer s H E hr => ?_
  exact
    (sb_cons (sg_if (tp_cmp (od_eq hr.units) (ep_callB cd_len (by rfl) T.n_len (ab_cons (ep_var (pv 0)) ab_nil)) ep_int) (sb_one (sg_ret ep_int)) sb_nil) (sb_cons (sg_set S.nd rfl (.inl rfl) (eg_callT cd_int (by rfl) T.n_int (ag_cons (eg_ix ix_d (ep_var (pv 0)) (mcall E__law_take (hr.mono (by decide)) (by rfl) (am_here (pv 1) (ap_cons (ep_callB cd_len (by rfl) T.n_len (ab_cons (ep_var (pv 0)) ab_nil)) ap_nil)))) ap_nil))) (sb_one (sg_ret (ep_bin od_mul (ep_bin od_mod (ep_callB cd_abs (by rfl) T.n_abs (ab_cons (ep_var (pv 2)) ab_nil)) (ep_bin od_pow ep_int ep_int)) (ep_ix ix_d (ep_lst (ap_cons ep_int (ap_cons (ep_un ud_neg ep_int) ap_nil))) (ep_callT cd_int (by rfl) T.n_int (ab_cons (ep_cmp (od_lt hr.units) (ep_var (pv 2)) ep_int) ab_nil))))))))
theorem at__law_same (T : Top K mg) (S : FnScope ["actual", "due", "k"] ["actual", "due"] (defScope (topS 15))) : ∀ n : Nat, Ent P w K mg base n "_law_same" ["actual", "due"] (spP K 2 .k (m__law_same n))
  | 0 => ent_none T.d__law_same
  | k + 1 => by
    have slf := at__law_same T S k
    have z := ent_pure (k := k) (P := P) (w := w) (base := base) T.d__law_same (b := b__law_same (m__law_same k)) S
    refine z fun f cdv A outer s H E hr => ?_
    exact
      (sb_cons (sg_if (tp_val (ep_isi (T := .bo) (by rfl) T.n_isinstance rfl (ep_var (pv 1)) (by rfl) T.n_bool (by decide +kernel))) (sb_one (sg_ret (ep_and (ep_isi (T := .bo) (by rfl) T.n_isinstance rfl (ep_var (pv 0)) (by rfl) T.n_bool (by decide +kernel)) (eg_one (ep_cmp (od_eq hr.units) (ep_var (pv 0)) (ep_var (pv 1))))))) sb_nil) (sb_cons (sg_if (tp_val (ep_isi (T := .it) (by rfl) T.n_isinstance rfl (ep_var (pv 1)) (by rfl) T.n_int (by decide +kernel))) (sb_one (sg_ret (ep_and (ep_isi (T := .it) (by rfl) T.n_isinstance rfl (ep_var (pv 0)) (by rfl) T.n_int (by decide +kernel)) (ep_and (ep_notV (ep_isi (T := .bo) (by rfl) T.n_isinstance rfl (ep_var (pv 0)) (by rfl) T.n_bool (by decide +kernel))) (eg_one (ep_cmp (od_eq hr.units) (ep_var (pv 0)) (ep_var (pv 1)))))))) sb_nil) (sb_cons (sg_if (tp_val (ep_isi (T := .st) (by rfl) T.n_isinstance rfl (ep_var (pv 1)) (by rfl) T.n_str (by decide +kernel))) (sb_one (sg_ret (ep_and (ep_isi (T := .st) (by rfl) T.n_isinstance rfl (ep_var (pv 0)) (by rfl) T.n_str (by decide +kernel)) (eg_one (ep_cmp (od_eq hr.units) (ep_var (pv 0)) (ep_var (pv 1))))))) sb_nil) (sb_cons (sg_if (tp_cmp od_is (ep_var (pv 1)) ep_non) (sb_one (sg_ret (ep_cmp od_is (ep_var (pv 0)) ep_non))) sb_nil) (sb_cons (sg_if (tw_tg (tpw_or (tp_not (tp_val (ep_isi (T := .tu) (by rfl) T.n_isinstance rfl (ep_var (pv 0)) (by rfl) T.n_tuple (by decide +kernel)))) (tw_or1 (tp_cmp (od_ne hr.units) (ep_callB cd_len (by rfl) T.n_len (ab_cons (ep_var (pv 0)) ab_nil)) (ep_callB cd_len (by rfl) T.n_len (ab_cons (ep_var (pv 1)) ab_nil)))))) (sb_one (sg_ret ep_bl)) sb_nil) (sb_cons (sg_for PassesOwn.never rfl (ip_range1 (by rfl) T.n_range (ap_cons (ep_callB cd_len (by rfl) T.n_len (ab_cons (ep_var (pv 1)) ab_nil)) ap_nil)) (gg_name S.nd rfl (.inl rfl)) (sb_one (sg_if (tp_not (tp_val (pcall slf hr (by rfl) (ap_cons (ep_ix ix_d (ep_var (pv 0)) (ep_var (pv 2))) (ap_cons (ep_ix ix_d (ep_var (pv 1)) (ep_var (pv 2))) ap_nil))))) (sb_one (sg_ret ep_bl)) sb_nil))) (sb_one (sg_ret ep_bl))))))))
theorem ok__law_same (T : Top K mg) : Ent P w K mg base 6 "_law_same" ["actual", "due"] (spP K 2 .k (m__law_same 6)) := at__law_same T sc__law_same 6
theorem ok__law_parts (T : Top K mg) (E__law_take : Ent P w K mg base 1 "_law_take" ["draws", "many"] (spM K 2 0 m__law_take)) : Ent P w K mg base 2 "_law_parts" ["draws", "many", "scale"] (spM K 3 0 m__law_parts) := by
  have S := sc__law_parts
  have z := ent_mut (k := 1) (j := 0) (P := P) (w := w) (base := base) T.d__law_parts (b := b__law_parts) S
  refine z fun f cdv A outer s H E hr => ?_
  exact
    (sb_cons (sg_compO (own := [("k", 4)]) rfl S.nd (ip_range1 (by rfl) T.n_range (ap_cons (ep_var (pv 1)) ap_nil)) (blkOk_by (by rfl)) (fun _ _ _ _ _ => (gg_name S.nd rfl (.inl rfl))) (fun _ _ _ _ _ => ts_nil) (fun _ _ _ _ _ => (eg_bin od_mul (ep_var (pv 2)) (eg_ix ix_d (eg_lst (ag_cons (mcall E__law_take (hr.mono (by decide)) (by rfl) (am_here (pv 0) (ap_cons ep_int ap_nil))) (ag_cons (mcall E__law_take (hr.mono (by decide)) (by rfl) (am_here (pv 0) (ap_cons ep_int ap_nil))) ap_nil))) (mcall E__law_take (hr.mono (by decide)) (by rfl) (am_here (pv 0) (ap_cons ep_int ap_nil)))))) (oo_name 4) rfl rfl (by rfl) (fun h => nomatch h)) (sb_cons (sg_if (tw_tg (tw_and (tp_cmp (od_gt hr.units) (ep_var (pv 1)) ep_int) (tw_and1 (tg_cmp (od_eq hr.units) (mcall E__law_take (hr.mono (by decide)) (by rfl) (am_here (pv 0) (ap_cons ep_int ap_nil))) ep_int)))) (sb_one (sg_storeL (ep_ix ix_d (ep_varB (pv 3)) (ep_bin od_sub (ep_var (pv 1)) ep_int)) (pv 3) ep_int)) sb_nil) (sb_one (sg_ret (ep_callT cd_tup (by rfl) T.n_tuple (ab_cons (ep_varB (pv 3)) ab_nil))))))
theorem ok__law_shares (T : Top K mg) : Ent P w K mg base 1 "_law_shares" ["parts", "makers"] (spP K 2 .k m__law_shares) := by
  have S := sc__law_shares
  have z := ent_pure (k := 0) (P := P) (w := w) (base := base) T.d__law_shares (b := b__law_shares) S
  refine z fun f cdv A outer s H E hr => ?_
  exact
    (sb_cons (sg_set S.nd rfl (.inl rfl) ((ep_lst (ap_cons (ep_tup (ap_cons (ep_tup ap_nil) (ap_cons (ep_bin od_repT (ep_tup (ap_cons ep_int ap_nil)) (ep_var (pv 1))) ap_nil))) ap_nil)).toK)) (sb_cons (sg_for PassesOwn.never rfl (ip_any (ep_var (pv 0))) (gg_name S.nd rfl (.inr rfl)) (sb_cons (sg_set S.nd rfl (.inl rfl) ((ep_lst ap_nil).toK)) (sb_cons (sg_for PassesOwn.never rfl (ip_any (ep_var (pv 2))) (gg_tup rfl (ggs_cons (gg_name S.nd rfl (.inr rfl)) (ggs_cons (gg_name S.nd rfl (.inr rfl)) ggs_nil))) (sb_one (sg_set S.nd rfl (.inl rfl) (ep_bin od_add (ep_var (pv 5)) (ep_comp (own := [("k", 9)]) rfl S.nd (ip_range1 (by rfl) T.n_range (ap_cons (ep_var (pv 1)) ap_nil)) (blkOk_by (by rfl)) (fun _ _ _ _ _ => (gg_name S.nd rfl (.inl rfl))) (fun _ _ _ _ _ => ts_nil) (fun _ _ _ _ _ => (ep_tup (ap_cons (ep_bin od_add (ep_var (pv 6)) (ep_tup (ap_cons (ep_var (pv 9)) ap_nil))) (ap_cons (ep_bin od_add (ep_bin od_add (ep_sl sl_d (ep_var (pv 7)) og_none (og_some (ep_var (pv 9)))) (ep_tup (ap_cons (ep_bin od_add (ep_ix ix_d (ep_var (pv 7)) (ep_var (pv 9))) (ep_var (pv 3))) ap_nil))) (ep_sl sl_d (ep_var (pv 7)) (og_some (ep_bin od_add (ep_var (pv 9)) ep_int)) og_none)) ap_nil)))) (oo_name 9)))))) (sb_one (sg_set S.nd rfl (.inl rfl) (ep_var (pv 5))))))) (sb_cons (sg_set S.nd rfl (.inr rfl) (ep_callB (cd_minL rfl hr.units) (by rfl) T.n_min (ab_cons (ep_comp (own := [("pair", 8)]) rfl S.nd (ip_any (ep_var (pv 2))) (blkOk_by (by rfl)) (fun _ _ _ _ _ => (gg_name S.nd rfl (.inl rfl))) (fun _ _ _ _ _ => ts_nil) (fun _ _ _ _ _ => (ep_callB (cd_maxL rfl hr.units) (by rfl) T.n_max (ab_cons (ep_ix ix_d (ep_var (pv 8)) ep_int) ab_nil))) (oo_name 8)) ab_nil))) (sb_one (sg_ret (ep_tup (ap_cons (ep_var (pv 4)) (ap_cons (ep_callB (cd_minL rfl hr.units) (by rfl) T.n_min (ab_cons (ep_comp (own := [("pair", 8)]) rfl S.nd (ip_any (ep_var (pv 2))) (blkOk_by (by rfl)) (fun _ _ _ _ _ => (gg_name S.nd rfl (.inl rfl))) (fun _ _ _ _ _ => (ts_one (tp_cmp (od_eq hr.units) (ep_callB (cd_maxL rfl hr.units) (by rfl) T.n_max (ab_cons (ep_ix ix_d (ep_var (pv 8)) ep_int) ab_nil)) (ep_var (pv 4))))) (fun _ _ _ _ _ => (ep_ix ix_d (ep_var (pv 8)) ep_int)) (oo_name 8)) ab_nil)) ap_nil))))))))
theorem ok__law_up (T : Top K mg) : Ent P w K mg base 1 "_law_up" ["number", "by"] (spP K 2 .k m__law_up) := by
  have S := sc__law_up
  have z := ent_pure (k := 0) (P := P) (w := w) (base := base) T.d__law_up (b := b__law_up) S
  refine z fun f cdv A outer s H E hr => ?_
  exact
    (sb_one (sg_ret (ep_bin od_div (ep_bin od_sub (ep_bin od_add (ep_var (pv 0)) (ep_var (pv 1))) ep_int) (ep_var (pv 1)))))
theorem ok__law_are_shares_right (T : Top K mg) (E__law_same : Ent P w K mg base 6 "_law_same" ["actual", "due"] (spP K 2 .k (m__law_same 6))) (E__law_shares : Ent P w K mg base 1 "_law_shares" ["parts", "makers"] (spP K 2 .k m__law_shares)) (E__law_take : Ent P w K mg base 1 "_law_take" ["draws", "many"] (spM K 2 0 m__law_take)) (E_shared_parts : Ent P w K mg base 3 "shared_parts" ["parts", "many"] (spP K 2 .k m_shared_parts)) (E_told_shares : Ent P w K mg base 4 "told_shares" ["parts", "many"] (spP K 2 .k m_told_shares)) : Ent P w K mg base 7 "_law_are_shares_right" ["draws", "parts", "makers"] (spM K 3 0 m__law_are_shares_right) := by
  have S := sc__law_are_shares_right
  have z := ent_mut (k := 6) (j := 0) (P := P) (w := w) (base := base) T.d__law_are_shares_right (b := b__law_are_shares_right) S
  refine z fun f cdv A outer s H E hr => ?_
  exact
    (sb_cons (sg_asg (pcall E__law_shares (hr.mono (by decide)) (by rfl) (ap_cons (ep_var (pv 1)) (ap_cons (ep_var (pv 2)) ap_nil))) (gg_tup rfl (ggs_cons (gg_name S.nd rfl (.inl rfl)) (ggs_cons (gg_name S.nd rfl (.inl rfl)) ggs_nil)))) (sb_cons (sg_if (tw_tg (tpw_or (tp_not (tp_val (pcall E__law_same (hr.mono (by decide)) (by rfl) (ap_cons (pcall E_shared_parts (hr.mono (by decide)) (by rfl) (ap_cons (ep_var (pv 1)) (ap_cons (ep_var (pv 2)) ap_nil))) (ap_cons (ep_var (pv 5)) ap_nil))))) (tw_or1 (tp_not (tp_val (pcall E__law_same (hr.mono (by decide)) (by rfl) (ap_cons (pcall E_told_shares (hr.mono (by decide)) (by rfl) (ap_cons (ep_var (pv 1)) (ap_cons (ep_var (pv 2)) ap_nil))) (ap_cons (ep_var (pv 6)) ap_nil)))))))) (sb_one (sg_ret ep_bl)) sb_nil) (sb_cons (sg_if (tw_tg (tpw_or (tp_cmp (od_lt hr.units) (ep_var (pv 5)) (ep_callB (cd_maxL rfl hr.units) (by rfl) T.n_max (ab_cons (ep_bin od_add (ep_tup (ap_cons ep_int ap_nil)) (ep_var (pv 1))) ab_nil))) (tpw_or (tp_cmp (od_lt hr.units) (ep_bin od_mul (ep_var (pv 5)) (ep_var (pv 2))) (ep_callB (cd_sum rfl) (by rfl) T.n_sum (ab_cons (ep_var (pv 1)) ab_nil))) (tw_or1 (tp_cmp (od_gt hr.units) (ep_var (pv 5)) (ep_callB (cd_sum rfl) (by rfl) T.n_sum (ab_cons (ep_var (pv 1)) ab_nil))))))) (sb_one (sg_ret ep_bl)) sb_nil) (sb_cons (sg_if (tw_tg (tpw_or (tw_tg (tpw_and (tp_cmp (od_lt hr.units) (ep_var (pv 2)) ep_int) (tw_and1 (tp_cmp (od_gt hr.units) (pcall E_shared_parts (hr.mono (by decide)) (by rfl) (ap_cons (ep_var (pv 1)) (ap_cons (ep_bin od_add (ep_var (pv 2)) ep_int) ap_nil))) (ep_var (pv 5)))))) (tw_or1 (tp_cmp (od_gt hr.units) (pcall E_shared_parts (hr.mono (by decide)) (by rfl) (ap_cons (ep_sl sl_d (ep_var (pv 1)) og_none (og_some (ep_un ud_neg ep_int))) (ap_cons (ep_var (pv 2)) ap_nil))) (ep_var (pv 5)))))) (sb_one (sg_ret ep_bl)) sb_nil) (sb_cons (sg_set S.nd rfl (.inr rfl) (eg_bin od_add ep_int (mcall E__law_take (hr.mono (by decide)) (by rfl) (am_here (pv 0) (ap_cons ep_int ap_nil))))) (sb_cons (sg_set S.nd rfl (.inl rfl) (ep_callT cd_tup (by rfl) T.n_tuple (ab_cons (ep_comp (own := [("pages", 7)]) rfl S.nd (ip_any (ep_var (pv 1))) (blkOk_by (by rfl)) (fun _ _ _ _ _ => (gg_name S.nd rfl (.inl rfl))) (fun _ _ _ _ _ => ts_nil) (fun _ _ _ _ _ => (ep_bin od_mul (ep_var (pv 3)) (ep_var (pv 7)))) (oo_name 7)) ab_nil))) (sb_one (sg_ret (ep_and (pcall E__law_same (hr.mono (by decide)) (by rfl) (ap_cons (pcall E_shared_parts (hr.mono (by decide)) (by rfl) (ap_cons (ep_var (pv 4)) (ap_cons (ep_var (pv 2)) ap_nil))) (ap_cons (ep_bin od_mul (ep_var (pv 3)) (ep_var (pv 5))) ap_nil))) (eg_one (pcall E__law_same (hr.mono (by decide)) (by rfl) (ap_cons (pcall E_told_shares (hr.mono (by decide)) (by rfl) (ap_cons (ep_var (pv 4)) (ap_cons (ep_var (pv 2)) ap_nil))) (ap_cons (ep_var (pv 6)) ap_nil)))))))))))))
theorem ok__law_are_minutes_right (T : Top K mg) (E__law_same : Ent P w K mg base 6 "_law_same" ["actual", "due"] (spP K 2 .k (m__law_same 6))) (E__law_take : Ent P w K mg base 1 "_law_take" ["draws", "many"] (spM K 2 0 m__law_take)) (E__law_up : Ent P w K mg base 1 "_law_up" ["number", "by"] (spP K 2 .k m__law_up)) (E_ends_by : Ent P w K mg base 4 "ends_by" ["parts", "speed", "begin", "day"] (spP K 4 .k m_ends_by)) (E_joined_late : Ent P w K mg base 4 "joined_late" ["parts", "speed", "more", "at"] (spP K 4 .k m_joined_late)) (E_minutes_needed : Ent P w K mg base 3 "minutes_needed" ["parts", "speed"] (spP K 2 .k m_minutes_needed)) : Ent P w K mg base 7 "_law_are_minutes_right" ["draws", "parts", "speed"] (spM K 3 0 m__law_are_minutes_right) := by
  have S := sc__law_are_minutes_right
  have z := ent_mut (k := 6) (j := 0) (P := P) (w := w) (base := base) T.d__law_are_minutes_right (b := b__law_are_minutes_right) S
  refine z fun f cdv A outer s H E hr => ?_
  exact
    (sb_cons (sg_set S.nd rfl (.inl rfl) (ep_callB (cd_sum rfl) (by rfl) T.n_sum (ab_cons (ep_comp (own := [("pages", 12)]) rfl S.nd (ip_any (ep_var (pv 1))) (blkOk_by (by rfl)) (fun _ _ _ _ _ => (gg_name S.nd rfl (.inl rfl))) (fun _ _ _ _ _ => ts_nil) (fun _ _ _ _ _ => (pcall E__law_up (hr.mono (by decide)) (by rfl) (ap_cons (ep_bin od_mul ep_int (ep_var (pv 12))) (ap_cons (ep_var (pv 2)) ap_nil)))) (oo_name 12)) ab_nil))) (sb_cons (sg_set S.nd rfl (.inl rfl) (mcall E__law_take (hr.mono (by decide)) (by rfl) (am_here (pv 0) (ap_cons (ep_bin od_add (ep_callB cd_len (by rfl) T.n_len (ab_cons (ep_var (pv 1)) ab_nil)) ep_int) ap_nil)))) (sb_cons (sg_if (tw_tg (tpw_or (tp_not (tp_val (pcall E__law_same (hr.mono (by decide)) (by rfl) (ap_cons (pcall E_minutes_needed (hr.mono (by decide)) (by rfl) (ap_cons (ep_var (pv 1)) (ap_cons (ep_var (pv 2)) ap_nil))) (ap_cons (ep_var (pv 3)) ap_nil))))) (tw_or1 (tp_not (tp_val (pcall E__law_same (hr.mono (by decide)) (by rfl) (ap_cons (ep_bin od_add (pcall E_minutes_needed (hr.mono (by decide)) (by rfl) (ap_cons (ep_sl sl_d (ep_var (pv 1)) og_none (og_some (ep_var (pv 4)))) (ap_cons (ep_var (pv 2)) ap_nil))) (pcall E_minutes_needed (hr.mono (by decide)) (by rfl) (ap_cons (ep_sl sl_d (ep_var (pv 1)) (og_some (ep_var (pv 4))) og_none) (ap_cons (ep_var (pv 2)) ap_nil)))) (ap_cons (ep_var (pv 3)) ap_nil)))))))) (sb_one (sg_ret ep_bl)) sb_nil) (sb_cons (sg_set S.nd rfl (.inl rfl) (eg_bin od_sub (mcall E__law_take (hr.mono (by decide)) (by rfl) (am_here (pv 0) (ap_cons ep_int ap_nil))) ep_int)) (sb_cons (sg_set S.nd rfl (.inl rfl) (eg_ix ix_d (eg_lst (ag_cons (eg_bin od_add ep_int (mcall E__law_take (hr.mono (by decide)) (by rfl) (am_here (pv 0) (ap_cons ep_int ap_nil)))) (ag_cons (ep_bin od_add ep_int (ep_var (pv 3))) (ag_cons (ep_callB (cd_max2 rfl) (by rfl) T.n_max (ab_cons ep_int (ab_cons (ep_var (pv 3)) ab_nil))) ap_nil)))) (mcall E__law_take (hr.mono (by decide)) (by rfl) (am_here (pv 0) (ap_cons ep_int ap_nil))))) (sb_cons (sg_set S.nd rfl (.inl rfl) (pcall E_ends_by (hr.mono (by decide)) (by rfl) (ap_cons (ep_var (pv 1)) (ap_cons (ep_var (pv 2)) (ap_cons (ep_var (pv 5)) (ap_cons (ep_var (pv 6)) ap_nil)))))) (sb_cons (sg_if (tw_tg (tpw_or (tp_not (tp_val (ep_isi (T := .it) (by rfl) T.n_isinstance rfl (ep_var (pv 7)) (by rfl) T.n_int (by decide +kernel)))) (tpw_or (tp_val (ep_isi (T := .bo) (by rfl) T.n_isinstance rfl (ep_var (pv 7)) (by rfl) T.n_bool (by decide +kernel))) (tpw_or (tp_cmp (od_lt hr.units) (ep_var (pv 7)) (ep_var (pv 5))) (tw_or1 (tp_cmp (od_lt hr.units) (ep_bin od_mul (ep_bin od_add (ep_bin od_sub (ep_var (pv 7)) (ep_var (pv 5))) ep_int) (ep_var (pv 6))) (ep_var (pv 3)))))))) (sb_one (sg_ret ep_bl)) sb_nil) (sb_cons (sg_if (tw_tg (tpw_and (tp_cmp (od_gt hr.units) (ep_var (pv 7)) (ep_var (pv 5))) (tw_and1 (tp_cmp (od_ge hr.units) (ep_bin od_mul (ep_bin od_sub (ep_var (pv 7)) (ep_var (pv 5))) (ep_var (pv 6))) (ep_var (pv 3)))))) (sb_one (sg_ret ep_bl)) sb_nil) (sb_cons (sg_for PassesOwn.never rfl (ig_any (eg_lst (ag_cons ep_int (ag_cons (ep_var (pv 3)) (ag_cons (ep_bin od_div (ep_var (pv 3)) ep_int) (ag_cons (mcall E__law_take (hr.mono (by decide)) (by rfl) (am_here (pv 0) (ap_cons ep_int ap_nil))) (ag_cons (ep_bin od_add (ep_var (pv 3)) ep_int) ap_nil))))))) (gg_name S.nd rfl (.inl rfl)) (sb_one (sg_for PassesOwn.never rfl (ig_any (eg_lst (ag_cons ep_int (ag_cons ep_int (ag_cons (mcall E__law_take (hr.mono (by decide)) (by rfl) (am_here (pv 0) (ap_cons ep_int ap_nil))) ap_nil))))) (gg_name S.nd rfl (.inl rfl)) (sb_cons (sg_set S.nd rfl (.inl rfl) (ep_var (pv 3))) (sb_cons (sg_if (tp_cmp (od_lt hr.units) (ep_var (pv 8)) (ep_var (pv 3))) (sb_one (sg_set S.nd rfl (.inl rfl) (ep_bin od_add (ep_var (pv 8)) (pcall E__law_up (hr.mono (by decide)) (by rfl) (ap_cons (ep_bin od_sub (ep_var (pv 3)) (ep_var (pv 8))) (ap_cons (ep_bin od_add ep_int (ep_var (pv 9))) ap_nil)))))) sb_nil) (sb_cons (sg_set S.nd rfl (.inl rfl) (pcall E_joined_late (hr.mono (by decide)) (by rfl) (ap_cons (ep_var (pv 1)) (ap_cons (ep_var (pv 2)) (ap_cons (ep_var (pv 9)) (ap_cons (ep_var (pv 8)) ap_nil)))))) (sb_cons (sg_if (tw_tg (tpw_or (tp_not (tp_val (pcall E__law_same (hr.mono (by decide)) (by rfl) (ap_cons (ep_var (pv 11)) (ap_cons (ep_var (pv 10)) ap_nil))))) (tpw_or (tp_cmp (od_gt hr.units) (ep_var (pv 11)) (ep_var (pv 3))) (tpw_or (tp_cmp (od_lt hr.units) (ep_var (pv 11)) (ep_callB (cd_min2 rfl) (by rfl) T.n_min (ab_cons (ep_var (pv 3)) (ab_cons (ep_var (pv 8)) ab_nil)))) (tw_or1 (tw_tg (tpw_and (tp_cmp (od_eq hr.units) (ep_var (pv 9)) ep_int) (tw_and1 (tp_cmp (od_ne hr.units) (ep_var (pv 11)) (ep_var (pv 3))))))))))) (sb_one (sg_ret ep_bl)) sb_nil) (sb_one (sg_if (tp_cmp (od_gt hr.units) (pcall E_joined_late (hr.mono (by decide)) (by rfl) (ap_cons (ep_var (pv 1)) (ap_cons (ep_var (pv 2)) (ap_cons (ep_bin od_add (ep_var (pv 9)) ep_int) (ap_cons (ep_var (pv 8)) ap_nil))))) (ep_var (pv 11))) (sb_one (sg_ret ep_bl)) sb_nil))))))))) (sb_one (sg_ret ep_bl)))))))))))
theorem ok_law (T : Top K mg) (E__law_are_minutes_right : Ent P w K mg base 7 "_law_are_minutes_right" ["draws", "parts", "speed"] (spM K 3 0 m__law_are_minutes_right)) (E__law_are_shares_right : Ent P w K mg base 7 "_law_are_shares_right" ["draws", "parts", "makers"] (spM K 3 0 m__law_are_shares_right)) (E__law_cell : Ent P w K mg base 2 "_law_cell" ["script", "draws"] (spM K 2 1 m__law_cell)) (E__law_draws : Ent P w K mg base 1 "_law_draws" ["script", "many"] (spP K 2 .f m__law_draws)) (E__law_parts : Ent P w K mg base 2 "_law_parts" ["draws", "many", "scale"] (spM K 3 0 m__law_parts)) (E__law_same : Ent P w K mg base 6 "_law_same" ["actual", "due"] (spP K 2 .k (m__law_same 6))) (E__law_take : Ent P w K mg base 1 "_law_take" ["draws", "many"] (spM K 2 0 m__law_take)) (E_ends_by : Ent P w K mg base 4 "ends_by" ["parts", "speed", "begin", "day"] (spP K 4 .k m_ends_by)) (E_joined_late : Ent P w K mg base 4 "joined_late" ["parts", "speed", "more", "at"] (spP K 4 .k m_joined_late)) (E_minutes_needed : Ent P w K mg base 3 "minutes_needed" ["parts", "speed"] (spP K 2 .k m_minutes_needed)) (E_shared_parts : Ent P w K mg base 3 "shared_parts" ["parts", "many"] (spP K 2 .k m_shared_parts)) (E_told_shares : Ent P w K mg base 4 "told_shares" ["parts", "many"] (spP K 2 .k m_told_shares)) : Ent P w K mg base 8 "law" ["script"] (spP K 1 .k m_law) := by
  have S := sc_law
  have z := ent_pure (k := 7) (P := P) (w := w) (base := base) T.d_law (b := b_law) S
  refine z fun f cdv A outer s H E hr => ?_
  exact
    (sb_cons (sg_setO S.nd rfl (.inl rfl) (pcall E__law_draws (hr.mono (by decide)) (by rfl) (ap_cons (ep_var (pv 0)) (ap_cons ep_int ap_nil)))) (sb_cons (sg_for PassesOwn.never rfl (ip_range1 (by rfl) T.n_range (ap_cons ep_int ap_nil)) (gg_name S.nd rfl (.inl rfl)) (sb_cons (sg_set S.nd rfl (.inl rfl) (eg_ix ix_d (eg_lst (ag_cons ep_int (ag_cons ep_int (ag_cons (eg_bin od_add ep_int (eg_bin od_mod (eg_callB cd_abs (by rfl) T.n_abs (ag_cons (mcall E__law_cell (hr.mono (by decide)) (by rfl) (am_cons (ep_var (pv 0)) (am_here (pv 1) ap_nil))) ap_nil)) (ep_bin od_pow ep_int ep_int))) ap_nil)))) (mcall E__law_take (hr.mono (by decide)) (by rfl) (am_here (pv 1) (ap_cons ep_int ap_nil))))) (sb_cons (sg_set S.nd rfl (.inl rfl) (eg_bin od_add ep_int (mcall E__law_take (hr.mono (by decide)) (by rfl) (am_here (pv 1) (ap_cons ep_int ap_nil))))) (sb_cons (sg_set S.nd rfl (.inl rfl) (mcall E__law_parts (hr.mono (by decide)) (by rfl) (am_here (pv 1) (ag_cons (mcall E__law_take (hr.mono (by decide)) (by rfl) (am_here (pv 1) (ap_cons (ep_ix ix_d (ep_lst (ap_cons ep_int (ap_cons ep_int (ap_cons ep_int ap_nil)))) (ep_bin od_sub (ep_var (pv 5)) ep_int)) ap_nil))) (ag_cons (ep_var (pv 4)) ap_nil))))) (sb_one (sg_if (tw_tg (tw_or (tg_not (tg_val (mcall E__law_are_shares_right (hr.mono (by decide)) (by rfl) (am_here (pv 1) (ap_cons (ep_var (pv 3)) (ap_cons (ep_var (pv 5)) ap_nil)))))) (tw_or1 (tg_not (tg_val (mcall E__law_are_minutes_right (hr.mono (by decide)) (by rfl) (am_here (pv 1) (ag_cons (ep_var (pv 3)) (ag_cons (eg_bin od_add ep_int (mcall E__law_take (hr.mono (by decide)) (by rfl) (am_here (pv 1) (ap_cons ep_int ap_nil)))) ap_nil))))))))) (sb_one (sg_ret ep_bl)) sb_nil)))))) (sb_cons (sg_set S.nd rfl (.inl rfl) (ep_tup (ap_cons ep_int (ap_cons ep_int (ap_cons ep_int (ap_cons ep_int ap_nil)))))) (sb_cons (sg_if (tw_tg (tpw_or (tp_not (tp_val (pcall E__law_same (hr.mono (by decide)) (by rfl) (ap_cons (pcall E_shared_parts (hr.mono (by decide)) (by rfl) (ap_cons (ep_var (pv 3)) (ap_cons ep_int ap_nil))) (ap_cons ep_int ap_nil))))) (tpw_or (tp_not (tp_val (pcall E__law_same (hr.mono (by decide)) (by rfl) (ap_cons (pcall E_told_shares (hr.mono (by decide)) (by rfl) (ap_cons (ep_var (pv 3)) (ap_cons ep_int ap_nil))) (ap_cons (ep_tup (ap_cons ep_int (ap_cons ep_int (ap_cons ep_int (ap_cons ep_int ap_nil))))) ap_nil))))) (tw_or1 (tp_not (tp_val (pcall E__law_same (hr.mono (by decide)) (by rfl) (ap_cons (pcall E_shared_parts (hr.mono (by decide)) (by rfl) (ap_cons (ep_var (pv 3)) (ap_cons ep_int ap_nil))) (ap_cons ep_int ap_nil))))))))) (sb_one (sg_ret ep_bl)) sb_nil) (sb_cons (sg_if (tw_tg (tpw_or (tp_not (tp_val (pcall E__law_same (hr.mono (by decide)) (by rfl) (ap_cons (pcall E_told_shares (hr.mono (by decide)) (by rfl) (ap_cons (ep_var (pv 3)) (ap_cons ep_int ap_nil))) (ap_cons (ep_tup (ap_cons ep_int (ap_cons ep_int (ap_cons ep_int (ap_cons ep_int ap_nil))))) ap_nil))))) (tpw_or (tp_not (tp_val (pcall E__law_same (hr.mono (by decide)) (by rfl) (ap_cons (pcall E_minutes_needed (hr.mono (by decide)) (by rfl) (ap_cons (ep_var (pv 3)) (ap_cons ep_int ap_nil))) (ap_cons ep_int ap_nil))))) (tw_or1 (tp_not (tp_val (pcall E__law_same (hr.mono (by decide)) (by rfl) (ap_cons (pcall E_ends_by (hr.mono (by decide)) (by rfl) (ap_cons (ep_var (pv 3)) (ap_cons ep_int (ap_cons ep_int (ap_cons ep_int ap_nil))))) (ap_cons ep_int ap_nil))))))))) (sb_one (sg_ret ep_bl)) sb_nil) (sb_one (sg_ret (ep_and (pcall E__law_same (hr.mono (by decide)) (by rfl) (ap_cons (pcall E_joined_late (hr.mono (by decide)) (by rfl) (ap_cons (ep_var (pv 3)) (ap_cons ep_int (ap_cons ep_int (ap_cons ep_int ap_nil))))) (ap_cons ep_int ap_nil))) (ep_and (pcall E__law_same (hr.mono (by decide)) (by rfl) (ap_cons (pcall E_shared_parts (hr.mono (by decide)) (by rfl) (ap_cons (ep_tup ap_nil) (ap_cons ep_int ap_nil))) (ap_cons ep_int ap_nil))) (ep_and (pcall E__law_same (hr.mono (by decide)) (by rfl) (ap_cons (pcall E_told_shares (hr.mono (by decide)) (by rfl) (ap_cons (ep_tup ap_nil) (ap_cons ep_int ap_nil))) (ap_cons (ep_tup ap_nil) ap_nil))) (eg_one (pcall E__law_same (hr.mono (by decide)) (by rfl) (ap_cons (pcall E_ends_by (hr.mono (by decide)) (by rfl) (ap_cons (ep_tup ap_nil) (ap_cons ep_int (ap_cons ep_int (ap_cons ep_int ap_nil))))) (ap_cons ep_int ap_nil))))))))))))))
end
theorem all_mk {l : PySem.W.OpenLaw} {w : World} {K : PySem.W.Frag} {h : Heap} {mg : Str → Option Value} {fa f0 f1 f2 f3 f4 f5 f6 f7 f8 f9 f10 f11 f12 f13 f14 f15 f16 f17 f18 f19 : Addr} (X : K.In h) (G : h.Ns mainGlobals mg) (hfa : mg "law" = some (.ref fa))
    {od0 an0 od1 an1 od2 an2 od3 an3 od4 an4 od5 an5 od6 an6 od7 an7 od8 an8 od9 an9 od10 an10 od11 an11 od12 an12 od13 an13 od14 an14 od15 an15 od16 an16 od17 an17 od18 an18 od19 an19 : Option Addr} {sl0 sl1 sl2 sl3 sl4 sl5 sl6 sl7 sl8 sl9 sl10 sl11 sl12 sl13 sl14 sl15 sl16 sl17 sl18 sl19 : Array (Option Value)} {oc0 kV0 dc0 pm0 cd0 ct0 oc1 kV1 dc1 pm1 cd1 ct1 oc2 kV2 dc2 pm2 cd2 ct2 oc3 kV3 dc3 pm3 cd3 ct3 oc4 kV4 dc4 pm4 cd4 ct4 oc5 kV5 dc5 pm5 cd5 ct5 oc6 kV6 dc6 pm6 cd6 ct6 oc7 kV7 dc7 pm7 cd7 ct7 oc8 kV8 dc8 pm8 cd8 ct8 oc9 kV9 dc9 pm9 cd9 ct9 oc10 kV10 dc10 pm10 cd10 ct10 oc11 kV11 dc11 pm11 cd11 ct11 oc12 kV12 dc12 pm12 cd12 ct12 oc13 kV13 dc13 pm13 cd13 ct13 oc14 kV14 dc14 pm14 cd14 ct14 oc15 kV15 dc15 pm15 cd15 ct15 oc16 kV16 dc16 pm16 cd16 ct16 oc17 kV17 dc17 pm17 cd17 ct17 oc18 kV18 dc18 pm18 cd18 ct18 oc19 kV19 dc19 pm19 cd19 ct19 : Value}
    (a0 : PySem.W.nsIn K mainGlobals "rounded_up" = some (some (.ref f0))) (l0 : K.lookup f0 = some ⟨oc0, od0, .func (PySem.W.fnOf "rounded_up" "rounded_up" (defArgs (topS 1)) (defBody (topS 1)) (defScope (topS 1)) .none kV0 dc0 pm0 an0 cd0 ct0), sl0⟩) (c0 : PySem.W.codeIn K cd0 "rounded_up" = true) (k0 : PySem.W.keepIn K (.ref f0) = true)
    (a1 : PySem.W.nsIn K mainGlobals "minutes_of_part" = some (some (.ref f1))) (l1 : K.lookup f1 = some ⟨oc1, od1, .func (PySem.W.fnOf "minutes_of_part" "minutes_of_part" (defArgs (topS 2)) (defBody (topS 2)) (defScope (topS 2)) .none kV1 dc1 pm1 an1 cd1 ct1), sl1⟩) (c1 : PySem.W.codeIn K cd1 "minutes_of_part" = true) (k1 : PySem.W.keepIn K (.ref f1) = true)
    (a2 : PySem.W.nsIn K mainGlobals "minutes_needed" = some (some (.ref f2))) (l2 : K.lookup f2 = some ⟨oc2, od2, .func (PySem.W.fnOf "minutes_needed" "minutes_needed" (defArgs (topS 3)) (defBody (topS 3)) (defScope (topS 3)) .none kV2 dc2 pm2 an2 cd2 ct2), sl2⟩) (c2 : PySem.W.codeIn K cd2 "minutes_needed" = true) (k2 : PySem.W.keepIn K (.ref f2) = true)
    (a3 : PySem.W.nsIn K mainGlobals "all_shares" = some (some (.ref f3))) (l3 : K.lookup f3 = some ⟨oc3, od3, .func (PySem.W.fnOf "all_shares" "all_shares" (defArgs (topS 4)) (defBody (topS 4)) (defScope (topS 4)) .none kV3 dc3 pm3 an3 cd3 ct3), sl3⟩) (c3 : PySem.W.codeIn K cd3 "all_shares" = true) (k3 : PySem.W.keepIn K (.ref f3) = true)
    (a4 : PySem.W.nsIn K mainGlobals "pages_of_maker" = some (some (.ref f4))) (l4 : K.lookup f4 = some ⟨oc4, od4, .func (PySem.W.fnOf "pages_of_maker" "pages_of_maker" (defArgs (topS 5)) (defBody (topS 5)) (defScope (topS 5)) .none kV4 dc4 pm4 an4 cd4 ct4), sl4⟩) (c4 : PySem.W.codeIn K cd4 "pages_of_maker" = true) (k4 : PySem.W.keepIn K (.ref f4) = true)
    (a5 : PySem.W.nsIn K mainGlobals "greatest_share" = some (some (.ref f5))) (l5 : K.lookup f5 = some ⟨oc5, od5, .func (PySem.W.fnOf "greatest_share" "greatest_share" (defArgs (topS 6)) (defBody (topS 6)) (defScope (topS 6)) .none kV5 dc5 pm5 an5 cd5 ct5), sl5⟩) (c5 : PySem.W.codeIn K cd5 "greatest_share" = true) (k5 : PySem.W.keepIn K (.ref f5) = true)
    (a6 : PySem.W.nsIn K mainGlobals "shared_parts" = some (some (.ref f6))) (l6 : K.lookup f6 = some ⟨oc6, od6, .func (PySem.W.fnOf "shared_parts" "shared_parts" (defArgs (topS 7)) (defBody (topS 7)) (defScope (topS 7)) .none kV6 dc6 pm6 an6 cd6 ct6), sl6⟩) (c6 : PySem.W.codeIn K cd6 "shared_parts" = true) (k6 : PySem.W.keepIn K (.ref f6) = true)
    (a7 : PySem.W.nsIn K mainGlobals "told_shares" = some (some (.ref f7))) (l7 : K.lookup f7 = some ⟨oc7, od7, .func (PySem.W.fnOf "told_shares" "told_shares" (defArgs (topS 8)) (defBody (topS 8)) (defScope (topS 8)) .none kV7 dc7 pm7 an7 cd7 ct7), sl7⟩) (c7 : PySem.W.codeIn K cd7 "told_shares" = true) (k7 : PySem.W.keepIn K (.ref f7) = true)
    (a8 : PySem.W.nsIn K mainGlobals "ends_by" = some (some (.ref f8))) (l8 : K.lookup f8 = some ⟨oc8, od8, .func (PySem.W.fnOf "ends_by" "ends_by" (defArgs (topS 9)) (defBody (topS 9)) (defScope (topS 9)) .none kV8 dc8 pm8 an8 cd8 ct8), sl8⟩) (c8 : PySem.W.codeIn K cd8 "ends_by" = true) (k8 : PySem.W.keepIn K (.ref f8) = true)
    (a9 : PySem.W.nsIn K mainGlobals "joined_late" = some (some (.ref f9))) (l9 : K.lookup f9 = some ⟨oc9, od9, .func (PySem.W.fnOf "joined_late" "joined_late" (defArgs (topS 10)) (defBody (topS 10)) (defScope (topS 10)) .none kV9 dc9 pm9 an9 cd9 ct9), sl9⟩) (c9 : PySem.W.codeIn K cd9 "joined_late" = true) (k9 : PySem.W.keepIn K (.ref f9) = true)
    (a10 : PySem.W.nsIn K mainGlobals "_law_draws" = some (some (.ref f10))) (l10 : K.lookup f10 = some ⟨oc10, od10, .func (PySem.W.fnOf "_law_draws" "_law_draws" (defArgs (topS 12)) (defBody (topS 12)) (defScope (topS 12)) .none kV10 dc10 pm10 an10 cd10 ct10), sl10⟩) (c10 : PySem.W.codeIn K cd10 "_law_draws" = true) (k10 : PySem.W.keepIn K (.ref f10) = true)
    (a11 : PySem.W.nsIn K mainGlobals "_law_take" = some (some (.ref f11))) (l11 : K.lookup f11 = some ⟨oc11, od11, .func (PySem.W.fnOf "_law_take" "_law_take" (defArgs (topS 13)) (defBody (topS 13)) (defScope (topS 13)) .none kV11 dc11 pm11 an11 cd11 ct11), sl11⟩) (c11 : PySem.W.codeIn K cd11 "_law_take" = true) (k11 : PySem.W.keepIn K (.ref f11) = true)
    (a12 : PySem.W.nsIn K mainGlobals "_law_cell" = some (some (.ref f12))) (l12 : K.lookup f12 = some ⟨oc12, od12, .func (PySem.W.fnOf "_law_cell" "_law_cell" (defArgs (topS 14)) (defBody (topS 14)) (defScope (topS 14)) .none kV12 dc12 pm12 an12 cd12 ct12), sl12⟩) (c12 : PySem.W.codeIn K cd12 "_law_cell" = true) (k12 : PySem.W.keepIn K (.ref f12) = true)
    (a13 : PySem.W.nsIn K mainGlobals "_law_same" = some (some (.ref f13))) (l13 : K.lookup f13 = some ⟨oc13, od13, .func (PySem.W.fnOf "_law_same" "_law_same" (defArgs (topS 15)) (defBody (topS 15)) (defScope (topS 15)) .none kV13 dc13 pm13 an13 cd13 ct13), sl13⟩) (c13 : PySem.W.codeIn K cd13 "_law_same" = true) (k13 : PySem.W.keepIn K (.ref f13) = true)
    (a14 : PySem.W.nsIn K mainGlobals "_law_parts" = some (some (.ref f14))) (l14 : K.lookup f14 = some ⟨oc14, od14, .func (PySem.W.fnOf "_law_parts" "_law_parts" (defArgs (topS 16)) (defBody (topS 16)) (defScope (topS 16)) .none kV14 dc14 pm14 an14 cd14 ct14), sl14⟩) (c14 : PySem.W.codeIn K cd14 "_law_parts" = true) (k14 : PySem.W.keepIn K (.ref f14) = true)
    (a15 : PySem.W.nsIn K mainGlobals "_law_shares" = some (some (.ref f15))) (l15 : K.lookup f15 = some ⟨oc15, od15, .func (PySem.W.fnOf "_law_shares" "_law_shares" (defArgs (topS 17)) (defBody (topS 17)) (defScope (topS 17)) .none kV15 dc15 pm15 an15 cd15 ct15), sl15⟩) (c15 : PySem.W.codeIn K cd15 "_law_shares" = true) (k15 : PySem.W.keepIn K (.ref f15) = true)
    (a16 : PySem.W.nsIn K mainGlobals "_law_up" = some (some (.ref f16))) (l16 : K.lookup f16 = some ⟨oc16, od16, .func (PySem.W.fnOf "_law_up" "_law_up" (defArgs (topS 18)) (defBody (topS 18)) (defScope (topS 18)) .none kV16 dc16 pm16 an16 cd16 ct16), sl16⟩) (c16 : PySem.W.codeIn K cd16 "_law_up" = true) (k16 : PySem.W.keepIn K (.ref f16) = true)
    (a17 : PySem.W.nsIn K mainGlobals "_law_are_shares_right" = some (some (.ref f17))) (l17 : K.lookup f17 = some ⟨oc17, od17, .func (PySem.W.fnOf "_law_are_shares_right" "_law_are_shares_right" (defArgs (topS 19)) (defBody (topS 19)) (defScope (topS 19)) .none kV17 dc17 pm17 an17 cd17 ct17), sl17⟩) (c17 : PySem.W.codeIn K cd17 "_law_are_shares_right" = true) (k17 : PySem.W.keepIn K (.ref f17) = true)
    (a18 : PySem.W.nsIn K mainGlobals "_law_are_minutes_right" = some (some (.ref f18))) (l18 : K.lookup f18 = some ⟨oc18, od18, .func (PySem.W.fnOf "_law_are_minutes_right" "_law_are_minutes_right" (defArgs (topS 20)) (defBody (topS 20)) (defScope (topS 20)) .none kV18 dc18 pm18 an18 cd18 ct18), sl18⟩) (c18 : PySem.W.codeIn K cd18 "_law_are_minutes_right" = true) (k18 : PySem.W.keepIn K (.ref f18) = true)
    (a19 : PySem.W.nsIn K mainGlobals "law" = some (some (.ref f19))) (l19 : K.lookup f19 = some ⟨oc19, od19, .func (PySem.W.fnOf "law" "law" (defArgs (topS 21)) (defBody (topS 21)) (defScope (topS 21)) .none kV19 dc19 pm19 an19 cd19 ct19), sl19⟩) (c19 : PySem.W.codeIn K cd19 "law" = true) (k19 : PySem.W.keepIn K (.ref f19) = true)
    (z_abs : PySem.W.nsIn K mainGlobals "abs" = some none)
    (z_bool : PySem.W.nsIn K mainGlobals "bool" = some none)
    (z_int : PySem.W.nsIn K mainGlobals "int" = some none)
    (z_isinstance : PySem.W.nsIn K mainGlobals "isinstance" = some none)
    (z_len : PySem.W.nsIn K mainGlobals "len" = some none)
    (z_list : PySem.W.nsIn K mainGlobals "list" = some none)
    (z_max : PySem.W.nsIn K mainGlobals "max" = some none)
    (z_min : PySem.W.nsIn K mainGlobals "min" = some none)
    (z_range : PySem.W.nsIn K mainGlobals "range" = some none)
    (z_str : PySem.W.nsIn K mainGlobals "str" = some none)
    (z_sum : PySem.W.nsIn K mainGlobals "sum" = some none)
    (z_tuple : PySem.W.nsIn K mainGlobals "tuple" = some none)
    : ∃ fd : FuncData, (∀ (s : Shared) (v : Value), BindsTo s fd ⟨[v], []⟩ [("script", v)]) ∧ ∀ base : Heap, K.In base → base.Ns mainGlobals mg → FnOk l.prog w K mg base CX0 8 fa fd ["script"] (spP K 1 .k m_law) := by
  have e := hfa.symm.trans (PySem.W.mg_of X G a19)
  cases e
  have T : Top K mg := ⟨⟨_, _, fun_mk (st := topS 1) l0 c0 k0, PySem.W.mg_of X G a0, (fun_mk (st := topS 1) l0 c0 k0).binds (ps := ["number", "by"]) fun _ _ _ _ _ _ us hl => match us, hl with | [_, _], _ => rfl⟩, ⟨_, _, fun_mk (st := topS 2) l1 c1 k1, PySem.W.mg_of X G a1, (fun_mk (st := topS 2) l1 c1 k1).binds (ps := ["pages", "speed"]) fun _ _ _ _ _ _ us hl => match us, hl with | [_, _], _ => rfl⟩, ⟨_, _, fun_mk (st := topS 3) l2 c2 k2, PySem.W.mg_of X G a2, (fun_mk (st := topS 3) l2 c2 k2).binds (ps := ["parts", "speed"]) fun _ _ _ _ _ _ us hl => match us, hl with | [_, _], _ => rfl⟩, ⟨_, _, fun_mk (st := topS 4) l3 c3 k3, PySem.W.mg_of X G a3, (fun_mk (st := topS 4) l3 c3 k3).binds (ps := ["many", "makers"]) fun _ _ _ _ _ _ us hl => match us, hl with | [_, _], _ => rfl⟩, ⟨_, _, fun_mk (st := topS 5) l4 c4 k4, PySem.W.mg_of X G a4, (fun_mk (st := topS 5) l4 c4 k4).binds (ps := ["parts", "row", "maker"]) fun _ _ _ _ _ _ us hl => match us, hl with | [_, _, _], _ => rfl⟩, ⟨_, _, fun_mk (st := topS 6) l5 c5 k5, PySem.W.mg_of X G a5, (fun_mk (st := topS 6) l5 c5 k5).binds (ps := ["parts", "row", "makers"]) fun _ _ _ _ _ _ us hl => match us, hl with | [_, _, _], _ => rfl⟩, ⟨_, _, fun_mk (st := topS 7) l6 c6 k6, PySem.W.mg_of X G a6, (fun_mk (st := topS 7) l6 c6 k6).binds (ps := ["parts", "many"]) fun _ _ _ _ _ _ us hl => match us, hl with | [_, _], _ => rfl⟩, ⟨_, _, fun_mk (st := topS 8) l7 c7 k7, PySem.W.mg_of X G a7, (fun_mk (st := topS 8) l7 c7 k7).binds (ps := ["parts", "many"]) fun _ _ _ _ _ _ us hl => match us, hl with | [_, _], _ => rfl⟩, ⟨_, _, fun_mk (st := topS 9) l8 c8 k8, PySem.W.mg_of X G a8, (fun_mk (st := topS 9) l8 c8 k8).binds (ps := ["parts", "speed", "begin", "day"]) fun _ _ _ _ _ _ us hl => match us, hl with | [_, _, _, _], _ => rfl⟩, ⟨_, _, fun_mk (st := topS 10) l9 c9 k9, PySem.W.mg_of X G a9, (fun_mk (st := topS 10) l9 c9 k9).binds (ps := ["parts", "speed", "more", "at"]) fun _ _ _ _ _ _ us hl => match us, hl with | [_, _, _, _], _ => rfl⟩, ⟨_, _, fun_mk (st := topS 12) l10 c10 k10, PySem.W.mg_of X G a10, (fun_mk (st := topS 12) l10 c10 k10).binds (ps := ["script", "many"]) fun _ _ _ _ _ _ us hl => match us, hl with | [_, _], _ => rfl⟩, ⟨_, _, fun_mk (st := topS 13) l11 c11 k11, PySem.W.mg_of X G a11, (fun_mk (st := topS 13) l11 c11 k11).binds (ps := ["draws", "many"]) fun _ _ _ _ _ _ us hl => match us, hl with | [_, _], _ => rfl⟩, ⟨_, _, fun_mk (st := topS 14) l12 c12 k12, PySem.W.mg_of X G a12, (fun_mk (st := topS 14) l12 c12 k12).binds (ps := ["script", "draws"]) fun _ _ _ _ _ _ us hl => match us, hl with | [_, _], _ => rfl⟩, ⟨_, _, fun_mk (st := topS 15) l13 c13 k13, PySem.W.mg_of X G a13, (fun_mk (st := topS 15) l13 c13 k13).binds (ps := ["actual", "due"]) fun _ _ _ _ _ _ us hl => match us, hl with | [_, _], _ => rfl⟩, ⟨_, _, fun_mk (st := topS 16) l14 c14 k14, PySem.W.mg_of X G a14, (fun_mk (st := topS 16) l14 c14 k14).binds (ps := ["draws", "many", "scale"]) fun _ _ _ _ _ _ us hl => match us, hl with | [_, _, _], _ => rfl⟩, ⟨_, _, fun_mk (st := topS 17) l15 c15 k15, PySem.W.mg_of X G a15, (fun_mk (st := topS 17) l15 c15 k15).binds (ps := ["parts", "makers"]) fun _ _ _ _ _ _ us hl => match us, hl with | [_, _], _ => rfl⟩, ⟨_, _, fun_mk (st := topS 18) l16 c16 k16, PySem.W.mg_of X G a16, (fun_mk (st := topS 18) l16 c16 k16).binds (ps := ["number", "by"]) fun _ _ _ _ _ _ us hl => match us, hl with | [_, _], _ => rfl⟩, ⟨_, _, fun_mk (st := topS 19) l17 c17 k17, PySem.W.mg_of X G a17, (fun_mk (st := topS 19) l17 c17 k17).binds (ps := ["draws", "parts", "makers"]) fun _ _ _ _ _ _ us hl => match us, hl with | [_, _, _], _ => rfl⟩, ⟨_, _, fun_mk (st := topS 20) l18 c18 k18, PySem.W.mg_of X G a18, (fun_mk (st := topS 20) l18 c18 k18).binds (ps := ["draws", "parts", "speed"]) fun _ _ _ _ _ _ us hl => match us, hl with | [_, _, _], _ => rfl⟩, ⟨_, _, fun_mk (st := topS 21) l19 c19 k19, PySem.W.mg_of X G a19, (fun_mk (st := topS 21) l19 c19 k19).binds (ps := ["script"]) fun _ _ _ _ _ _ us hl => match us, hl with | [_], _ => rfl⟩, PySem.W.mg_none_of X G z_abs, PySem.W.mg_none_of X G z_bool, PySem.W.mg_none_of X G z_int, PySem.W.mg_none_of X G z_isinstance, PySem.W.mg_none_of X G z_len, PySem.W.mg_none_of X G z_list, PySem.W.mg_none_of X G z_max, PySem.W.mg_none_of X G z_min, PySem.W.mg_none_of X G z_range, PySem.W.mg_none_of X G z_str, PySem.W.mg_none_of X G z_sum, PySem.W.mg_none_of X G z_tuple⟩
  refine ⟨PySem.W.fnOf "law" "law" (defArgs (topS 21)) (defBody (topS 21)) (defScope (topS 21)) .none kV19 dc19 pm19 an19 cd19 ct19, fun s v => .of_eq rfl, fun base _ _ => ?_⟩
  have z : Ent l.prog w K mg base 8 "law" ["script"] (spP K 1 .k m_law) := by
    have e_rounded_up := ok_rounded_up (P := l.prog) (w := w) (base := base) T
    have e_minutes_of_part := ok_minutes_of_part (P := l.prog) (w := w) (base := base) T e_rounded_up
    have e_minutes_needed := ok_minutes_needed (P := l.prog) (w := w) (base := base) T e_minutes_of_part
    have e_all_shares := ok_all_shares (P := l.prog) (w := w) (base := base) T
    have e_pages_of_maker := ok_pages_of_maker (P := l.prog) (w := w) (base := base) T
    have e_greatest_share := ok_greatest_share (P := l.prog) (w := w) (base := base) T e_pages_of_maker
    have e_shared_parts := ok_shared_parts (P := l.prog) (w := w) (base := base) T e_all_shares e_greatest_share
    have e_told_shares := ok_told_shares (P := l.prog) (w := w) (base := base) T e_all_shares e_greatest_share e_shared_parts
    have e_ends_by := ok_ends_by (P := l.prog) (w := w) (base := base) T e_minutes_needed e_rounded_up
    have e_joined_late := ok_joined_late (P := l.prog) (w := w) (base := base) T e_minutes_needed e_rounded_up
    have e__law_draws := ok__law_draws (P := l.prog) (w := w) (base := base) T
    have e__law_take := ok__law_take (P := l.prog) (w := w) (base := base) T
    have e__law_cell := ok__law_cell (P := l.prog) (w := w) (base := base) T e__law_take
    have e__law_same := ok__law_same (P := l.prog) (w := w) (base := base) T
    have e__law_parts := ok__law_parts (P := l.prog) (w := w) (base := base) T e__law_take
    have e__law_shares := ok__law_shares (P := l.prog) (w := w) (base := base) T
    have e__law_up := ok__law_up (P := l.prog) (w := w) (base := base) T
    have e__law_are_shares_right := ok__law_are_shares_right (P := l.prog) (w := w) (base := base) T e__law_same e__law_shares e__law_take e_shared_parts e_told_shares
    have e__law_are_minutes_right := ok__law_are_minutes_right (P := l.prog) (w := w) (base := base) T e__law_same e__law_take e__law_up e_ends_by e_joined_late e_minutes_needed
    have e_law := ok_law (P := l.prog) (w := w) (base := base) T e__law_are_minutes_right e__law_are_shares_right e__law_cell e__law_draws e__law_parts e__law_same e__law_take e_ends_by e_joined_late e_minutes_needed e_shared_parts e_told_shares
    exact e_law
  exact ent_fn l19 (PySem.W.mg_of X G a19) z
end K81
namespace DL
open L2 PyProof.Rows PySem PySem.Spec
/-! ## reading the mirrors -/
def Rn (b : Sf) (ρ : Rho) (Q : Out → Prop) : Prop := ∃ o, b ρ = some o ∧ Q o
def Ev (f : Ef) (ρ : Rho) (Q : D → Rho → Prop) : Prop := ∃ d ρ', f ρ = some (d, ρ') ∧ Q d ρ'
def Te (f : Tf) (ρ : Rho) (Q : Bool → Rho → Prop) : Prop := ∃ d ρ', f ρ = some (d, ρ') ∧ Q d ρ'
def Aw (f : Af) (ρ : Rho) (Q : List D → Rho → Prop) : Prop := ∃ d ρ', f ρ = some (d, ρ') ∧ Q d ρ'
def Cm (g : D → List D → Option (D × D)) (c : D) (as : List D) (Q : D → D → Prop) : Prop := ∃ r c', g c as = some (r, c') ∧ Q r c'
def OkP {α β : Type} (o : Option (α × β)) (Q : α → β → Prop) : Prop := ∃ p, o = some p ∧ Q p.1 p.2
@[simp] theorem okP_some {α β : Type} {a : α} {b : β} {Q : α → β → Prop} : OkP (some (a, b)) Q ↔ Q a b := ⟨fun ⟨p, h, q⟩ => by cases h; exact q, fun q => ⟨_, rfl, q⟩⟩
def sq (g : Sf) (Q : Out → Prop) : Out → Prop
  | .nx ρ => Rn g ρ Q
  | o => Q o
section
variable {b f g : Sf} {ρ : Rho} {Q : Out → Prop} {i : Nat}
@[simp] theorem sq_nx : sq g Q (.nx ρ) = Rn g ρ Q := rfl
@[simp] theorem sq_rt {d : D} : sq g Q (.rt d ρ) = Q (.rt d ρ) := rfl
@[simp] theorem sq_bk : sq g Q (.bk ρ) = Q (.bk ρ) := rfl
@[simp] theorem sq_ct : sq g Q (.ct ρ) = Q (.ct ρ) := rfl
theorem rn_seq (h : Rn f ρ (sq g Q)) : Rn (sSeq f g) ρ Q := by
  obtain ⟨o, h1, h2⟩ := h
  cases o with
  | nx ρ1 =>
    obtain ⟨o, h3, h4⟩ := h2
    exact ⟨o, by unfold sSeq; rw [h1]; exact h3, h4⟩
  | bk ρ1 => exact ⟨_, by unfold sSeq; rw [h1]; rfl, h2⟩
  | ct ρ1 => exact ⟨_, by unfold sSeq; rw [h1]; rfl, h2⟩
  | rt d ρ1 => exact ⟨_, by unfold sSeq; rw [h1]; rfl, h2⟩
theorem rn_nx (h : Q (.nx ρ)) : Rn sNx ρ Q := ⟨_, rfl, h⟩
theorem rn_setP {fe : Ef} (h : Ev fe ρ fun d ρ1 => ∃ ρ2, setP i d ρ1 = some ρ2 ∧ Q (.nx ρ2)) : Rn (sSetP i fe) ρ Q := by
  obtain ⟨d, ρ1, h1, ρ2, h2, h3⟩ := h
  exact ⟨_, by unfold sSetP; rw [h1]; show (setP i d ρ1).map _ = _; rw [h2]; rfl, h3⟩
theorem rn_setO {fe : Ef} (h : Ev fe ρ fun d ρ1 => ∃ ρ2, setO i d ρ1 = some ρ2 ∧ Q (.nx ρ2)) : Rn (sSetO i fe) ρ Q := by
  obtain ⟨d, ρ1, h1, ρ2, h2, h3⟩ := h
  exact ⟨_, by unfold sSetO; rw [h1]; show (setO i d ρ1).map _ = _; rw [h2]; rfl, h3⟩
theorem rn_if {t : Tf} (h : Te t ρ fun c ρ1 => (c = true → Rn f ρ1 Q) ∧ (c = false → Rn g ρ1 Q)) : Rn (sIf t f g) ρ Q := by
  obtain ⟨c, ρ1, h1, h2, h3⟩ := h
  cases c with
  | true =>
    obtain ⟨o, h4, h5⟩ := h2 rfl
    exact ⟨o, by unfold sIf; rw [h1]; exact h4, h5⟩
  | false =>
    obtain ⟨o, h4, h5⟩ := h3 rfl
    exact ⟨o, by unfold sIf; rw [h1]; exact h4, h5⟩
theorem rn_rt {fe : Ef} (h : Ev fe ρ fun d ρ1 => Q (.rt d ρ1)) : Rn (sRt fe) ρ Q := by
  obtain ⟨d, ρ1, h1, h2⟩ := h
  exact ⟨_, by unfold sRt; rw [h1]; rfl, h2⟩
theorem rn_ex {fe : Ef} (h : Ev fe ρ fun d ρ1 => Q (.nx ρ1)) : Rn (sEx fe) ρ Q := by
  obtain ⟨d, ρ1, h1, h2⟩ := h
  exact ⟨_, by unfold sEx; rw [h1]; rfl, h2⟩
theorem rn_asg {gf : Gf} {fe : Ef} (h : Ev fe ρ fun d ρ1 => ∃ ρ2, gf d ρ1 = some ρ2 ∧ Q (.nx ρ2)) : Rn (sAsg gf fe) ρ Q := by
  obtain ⟨d, ρ1, h1, ρ2, h2, h3⟩ := h
  exact ⟨_, by unfold sAsg; rw [h1]; show (gf d ρ1).map _ = _; rw [h2]; rfl, h3⟩
theorem rn_fz (h : Rn f (frz i ρ) Q) : Rn (sFz i f) ρ Q := h
theorem rn_par {j : Nat} {fa : Af} (h : Aw fa ρ fun as ρ1 => ∃ x y ρ2 ρ3, as = [x, y] ∧ setP i x ρ1 = some ρ2 ∧ setP j y ρ2 = some ρ3 ∧ Q (.nx ρ3)) : Rn (sPar i j fa) ρ Q := by
  obtain ⟨as, ρ1, h1, x, y, ρ2, ρ3, rfl, h2, h3, h4⟩ := h
  exact ⟨_, by unfold sPar; rw [h1]; show (setP i x ρ1).bind _ = _; rw [h2]; show (setP j y ρ2).map _ = _; rw [h3]; rfl, h4⟩
theorem rn_aug {gd : D → D → Option D} {fe : Ef} (h : ∃ a, vP i ρ = some a ∧ Ev fe ρ fun b ρ1 => ∃ z ρ2, gd a b = some z ∧ setP i z ρ1 = some ρ2 ∧ Q (.nx ρ2)) : Rn (sAug i gd fe) ρ Q := by
  obtain ⟨a, h1, b, ρ1, h2, z, ρ2, h3, h4, h5⟩ := h
  exact ⟨_, by unfold sAug; rw [h1]; show (fe ρ).bind _ = _; rw [h2]; show (gd a b).bind _ = _; rw [h3]; show (setP i z ρ1).map _ = _; rw [h4]; rfl, h5⟩
theorem rn_store {fe fi : Ef} (h : Ev fe ρ fun a ρ1 => ∃ c0, ownd i ρ1 = some c0 ∧ Ev fi ρ1 fun b ρ2 => ∃ ds k j, b = .int k ∧ ownd i ρ2 = some (.list ds) ∧ ixN ds.length k = some j ∧ Q (.nx (wr i (.list (ds.set j a)) ρ2))) : Rn (storeL i fe fi) ρ Q := by
  obtain ⟨a, ρ1, h1, c0, h2, b, ρ2, h3, ds, k, j, rfl, h4, h5, h6⟩ := h
  exact ⟨_, by unfold storeL; rw [h1]; show (ownd i ρ1).bind _ = _; rw [h2]; show (fi ρ1).bind _ = _; rw [h3]; show (ownd i ρ2).bind _ = _; rw [h4]; show (ixN ds.length k).map _ = _; rw [h5]; rfl, h6⟩
theorem rn_for {it : Af} {gf : Gf} (h : Aw it ρ fun ds ρ1 => Rn (forS gf b ds) ρ1 Q) : Rn (sFor it gf b) ρ Q := by
  obtain ⟨ds, ρ1, h1, o, h2, h3⟩ := h
  exact ⟨o, by unfold sFor; rw [h1]; exact h2, h3⟩
/-- how a turn may end -/
def turn (N : Rho → Prop) (Q : Out → Prop) : Out → Prop
  | .nx ρ => N ρ
  | .ct ρ => N ρ
  | .bk ρ => Q (.nx ρ)
  | .rt d ρ => Q (.rt d ρ)
@[simp] theorem turn_nx {N : Rho → Prop} : turn N Q (.nx ρ) = N ρ := rfl
@[simp] theorem turn_ct {N : Rho → Prop} : turn N Q (.ct ρ) = N ρ := rfl
@[simp] theorem turn_bk {N : Rho → Prop} : turn N Q (.bk ρ) = Q (.nx ρ) := rfl
@[simp] theorem turn_rt {N : Rho → Prop} {d : D} : turn N Q (.rt d ρ) = Q (.rt d ρ) := rfl
def goOn (k : Rho → Option Out) : Out → Option Out
  | .nx ρ => k ρ
  | .ct ρ => k ρ
  | .bk ρ => some (.nx ρ)
  | .rt d ρ => some (.rt d ρ)
theorem forS_cons {gf : Gf} {d : D} {ds : List D} : forS gf b (d :: ds) ρ = (gf d ρ).bind fun ρ1 => (b ρ1).bind (goOn (forS gf b ds)) := by
  show (gf d ρ).bind _ = _
  refine congrArg _ (funext fun ρ1 => ?_)
  show (b ρ1).bind _ = _
  refine congrArg _ (funext fun o => ?_)
  cases o <;> rfl
theorem whileX_eq (c : Tf) (b : Sf) (ρ : Rho) : whileX c b ρ = (c ρ).bind fun t => if t.1 = true then (b t.2).bind (goOn (whileX c b)) else some (.nx t.2) := by
  rw [whileX]
  show (c ρ).bind _ = _
  refine congrArg _ (funext fun t => ?_)
  by_cases ht : t.1 = true
  · rw [if_pos ht, if_pos ht]
    show (b t.2).bind _ = _
    refine congrArg _ (funext fun o => ?_)
    cases o <;> rfl
  · rw [if_neg ht, if_neg ht]
theorem goOn_rn {k : Rho → Option Out} {N : Rho → Prop} {o : Out} (h : turn N Q o) (hk : ∀ ρ, N ρ → ∃ o, k ρ = some o ∧ Q o) : ∃ o', goOn k o = some o' ∧ Q o' := by
  cases o with
  | nx ρ => exact hk ρ h
  | ct ρ => exact hk ρ h
  | bk ρ => exact ⟨_, rfl, h⟩
  | rt d ρ => exact ⟨_, rfl, h⟩
theorem rn_forS {gf : Gf} : ∀ (ds : List D) (I : Nat → Rho → Prop) (ρ : Rho), I 0 ρ → (∀ i d ρ, ds[i]? = some d → I i ρ → ∃ ρ1, gf d ρ = some ρ1 ∧ Rn b ρ1 (turn (I (i + 1)) Q)) → (∀ ρ, I ds.length ρ → Q (.nx ρ)) → Rn (forS gf b ds) ρ Q
  | [], I, ρ, h0, _, he => ⟨_, rfl, he ρ h0⟩
  | d :: ds, I, ρ, h0, hs, he => by
    obtain ⟨ρ1, h1, o, h2, h3⟩ := hs 0 d ρ rfl h0
    obtain ⟨o', q1, q2⟩ := goOn_rn (k := forS gf b ds) h3 fun ρ2 h => rn_forS ds (fun i => I (i + 1)) ρ2 h (fun i e ρ hi hI => hs (i + 1) e ρ (by simpa using hi) hI) fun ρ h => he ρ (by simpa using h)
    refine ⟨o', ?_, q2⟩
    rw [forS_cons, h1]
    show (b ρ1).bind _ = _
    rw [h2]
    exact q1
/-- the loop over encoded items, with what is left to do -/
theorem rn_forL {α : Type} {gf : Gf} (enc : α → D) (I : List α → Rho → Prop) (xs : List α) (h0 : I xs ρ) (hs : ∀ x r ρ, I (x :: r) ρ → ∃ ρ1, gf (enc x) ρ = some ρ1 ∧ Rn b ρ1 (turn (I r) Q)) (he : ∀ ρ, I [] ρ → Q (.nx ρ)) : Rn (forS gf b (xs.map enc)) ρ Q := by
  induction xs generalizing ρ with
  | nil => exact ⟨_, rfl, he ρ h0⟩
  | cons x r ih =>
    obtain ⟨ρ1, h1, o, h2, h3⟩ := hs x r ρ h0
    obtain ⟨o', q1, q2⟩ := goOn_rn (k := forS gf b (r.map enc)) h3 fun ρ2 h => ih h
    refine ⟨o', ?_, q2⟩
    rw [List.map_cons, forS_cons, h1]
    show (b ρ1).bind _ = _
    rw [h2]
    exact q1
/-- a loop by a measure -/
theorem rn_while {c : Tf} (I : Nat → Rho → Prop) (hs : ∀ n ρ, I n ρ → Te c ρ fun t ρ1 => (t = true → Rn b ρ1 (turn (fun ρ2 => ∃ m, m < n ∧ I m ρ2) Q)) ∧ (t = false → Q (.nx ρ1))) : ∀ (n : Nat) (ρ : Rho), I n ρ → Rn (whileX c b) ρ Q := by
  intro n
  induction n using Nat.strongRecOn with
  | _ n ih =>
    intro ρ h
    obtain ⟨t, ρ1, h1, h2, h3⟩ := hs n ρ h
    cases t with
    | false => exact ⟨_, by rw [whileX_eq, h1]; rfl, h3 rfl⟩
    | true =>
      obtain ⟨o, h4, h5⟩ := h2 rfl
      obtain ⟨o', q1, q2⟩ := goOn_rn (k := whileX c b) h5 fun ρ2 ⟨m, q1, q2⟩ => ih m q1 ρ2 q2
      refine ⟨o', ?_, q2⟩
      rw [whileX_eq, h1]
      show (b ρ1).bind _ = _
      rw [h4]
      exact q1
end
section
variable {ρ : Rho} {Q : D → Rho → Prop} {i : Nat}
theorem ev_lift {f : Rho → Option D} (h : ∃ d, f ρ = some d ∧ Q d ρ) : Ev (lift f) ρ Q := by
  obtain ⟨d, h1, h2⟩ := h
  exact ⟨d, ρ, by unfold lift; rw [h1]; rfl, h2⟩
theorem ev_seq1 {g : D → Option D} {f : Ef} (h : Ev f ρ fun x ρ1 => ∃ z, g x = some z ∧ Q z ρ1) : Ev (seq1 g f) ρ Q := by
  obtain ⟨x, ρ1, h1, z, h2, h3⟩ := h
  exact ⟨z, ρ1, by unfold seq1; rw [h1]; show (g x).map _ = _; rw [h2]; rfl, h3⟩
theorem ev_seq2 {g : D → D → Option D} {fa fb : Ef} (h : Ev fa ρ fun x ρ1 => Ev fb ρ1 fun y ρ2 => ∃ z, g x y = some z ∧ Q z ρ2) : Ev (seq2 g fa fb) ρ Q := by
  obtain ⟨x, ρ1, h1, y, ρ2, h2, z, h3, h4⟩ := h
  exact ⟨z, ρ2, by unfold seq2; rw [h1]; show (fb ρ1).bind _ = _; rw [h2]; show (g x y).map _ = _; rw [h3]; rfl, h4⟩
theorem ev_seqA {g : List D → Option D} {fa : Af} (h : Aw fa ρ fun as ρ1 => ∃ z, g as = some z ∧ Q z ρ1) : Ev (seqA g fa) ρ Q := by
  obtain ⟨x, ρ1, h1, z, h2, h3⟩ := h
  exact ⟨z, ρ1, by unfold seqA; rw [h1]; show (g x).map _ = _; rw [h2]; rfl, h3⟩
theorem ev_mkL {fa : Af} (h : Aw fa ρ fun as ρ1 => Q (.list as) ρ1) : Ev (mkL fa) ρ Q := by
  obtain ⟨x, ρ1, h1, h2⟩ := h
  exact ⟨_, ρ1, by unfold mkL; rw [h1]; rfl, h2⟩
theorem ev_mkT {fa : Af} (h : Aw fa ρ fun as ρ1 => Q (.tuple as) ρ1) : Ev (mkT fa) ρ Q := by
  obtain ⟨x, ρ1, h1, h2⟩ := h
  exact ⟨_, ρ1, by unfold mkT; rw [h1]; rfl, h2⟩
theorem ev_if {t : Tf} {f g : Ef} (h : Te t ρ fun c ρ1 => (c = true → Ev f ρ1 Q) ∧ (c = false → Ev g ρ1 Q)) : Ev (ifV t f g) ρ Q := by
  obtain ⟨c, ρ1, h1, h2, h3⟩ := h
  cases c with
  | true => obtain ⟨d, ρ2, q1, q2⟩ := h2 rfl; exact ⟨d, ρ2, by unfold ifV; rw [h1]; exact q1, q2⟩
  | false => obtain ⟨d, ρ2, q1, q2⟩ := h3 rfl; exact ⟨d, ρ2, by unfold ifV; rw [h1]; exact q1, q2⟩
theorem ev_and {f g : Ef} (h : Ev f ρ fun a ρ1 => ∃ c, blOf a = some c ∧ (c = true → Ev g ρ1 Q) ∧ (c = false → Q (.bool false) ρ1)) : Ev (andV f g) ρ Q := by
  obtain ⟨a, ρ1, h1, c, h2, h3, h4⟩ := h
  cases c with
  | true => obtain ⟨d, ρ2, q1, q2⟩ := h3 rfl; exact ⟨d, ρ2, by unfold andV; rw [h1]; show (blOf a).bind _ = _; rw [h2]; exact q1, q2⟩
  | false => exact ⟨_, ρ1, by unfold andV; rw [h1]; show (blOf a).bind _ = _; rw [h2]; rfl, h4 rfl⟩
theorem ev_or {f g : Ef} (h : Ev f ρ fun a ρ1 => ∃ c, blOf a = some c ∧ (c = false → Ev g ρ1 Q) ∧ (c = true → Q (.bool true) ρ1)) : Ev (orV f g) ρ Q := by
  obtain ⟨a, ρ1, h1, c, h2, h3, h4⟩ := h
  cases c with
  | false => obtain ⟨d, ρ2, q1, q2⟩ := h3 rfl; exact ⟨d, ρ2, by unfold orV; rw [h1]; show (blOf a).bind _ = _; rw [h2]; exact q1, q2⟩
  | true => exact ⟨_, ρ1, by unfold orV; rw [h1]; show (blOf a).bind _ = _; rw [h2]; rfl, h4 rfl⟩
theorem ev_callM {g : D → List D → Option (D × D)} {fa : Af} (h : ∃ c0, ownd i ρ = some c0 ∧ Aw fa ρ fun as ρ1 => ∃ c, ownd i ρ1 = some c ∧ Cm g c as fun r c' => Q r (wr i c' ρ1)) : Ev (callM i g fa) ρ Q := by
  obtain ⟨c0, h0, as, ρ1, h1, c, h2, r, c', h3, h4⟩ := h
  exact ⟨r, _, by unfold callM; rw [h0]; show (fa ρ).bind _ = _; rw [h1]; show (ownd i ρ1).bind _ = _; rw [h2]; show (g c as).map _ = _; rw [h3]; rfl, h4⟩
theorem ev_mut {g : List D → List D → Option (D × List D)} {fa : Af} (h : ∃ c0, ownd i ρ = some (.list c0) ∧ Aw fa ρ fun as ρ1 => ∃ ds, ownd i ρ1 = some (.list ds) ∧ OkP (g ds as) fun r ds' => Q r (wr i (.list ds') ρ1)) : Ev (mutE i g fa) ρ Q := by
  obtain ⟨c0, h0, as, ρ1, h1, ds, h2, p, h3, h4⟩ := h
  exact ⟨p.1, _, by unfold mutE; rw [h0]; show (fa ρ).bind _ = _; rw [h1]; show (ownd i ρ1).bind _ = _; rw [h2]; show (g ds as).map _ = _; rw [h3]; rfl, h4⟩
end
section
variable {ρ : Rho} {Q : Bool → Rho → Prop}
theorem te_lift {f : Rho → Option Bool} (h : ∃ d, f ρ = some d ∧ Q d ρ) : Te (liftT f) ρ Q := by
  obtain ⟨d, h1, h2⟩ := h
  exact ⟨d, ρ, by unfold liftT; rw [h1]; rfl, h2⟩
theorem te_tst {f : Ef} (h : Ev f ρ fun d ρ1 => ∃ c, blOf d = some c ∧ Q c ρ1) : Te (tst f) ρ Q := by
  obtain ⟨d, ρ1, h1, c, h2, h3⟩ := h
  exact ⟨c, ρ1, by unfold tst; rw [h1]; show (blOf d).map _ = _; rw [h2]; rfl, h3⟩
theorem te_not {f : Tf} (h : Te f ρ fun c ρ1 => Q (!c) ρ1) : Te (notT f) ρ Q := by
  obtain ⟨d, ρ1, h1, h2⟩ := h
  exact ⟨_, ρ1, by unfold notT; rw [h1]; rfl, h2⟩
theorem te_and {f g : Tf} (h : Te f ρ fun c ρ1 => (c = true → Te g ρ1 Q) ∧ (c = false → Q false ρ1)) : Te (andT f g) ρ Q := by
  obtain ⟨c, ρ1, h1, h2, h3⟩ := h
  cases c with
  | true => obtain ⟨d, ρ2, q1, q2⟩ := h2 rfl; exact ⟨d, ρ2, by unfold andT; rw [h1]; exact q1, q2⟩
  | false => exact ⟨_, ρ1, by unfold andT; rw [h1]; rfl, h3 rfl⟩
theorem te_or {f g : Tf} (h : Te f ρ fun c ρ1 => (c = false → Te g ρ1 Q) ∧ (c = true → Q true ρ1)) : Te (orT f g) ρ Q := by
  obtain ⟨c, ρ1, h1, h2, h3⟩ := h
  cases c with
  | false => obtain ⟨d, ρ2, q1, q2⟩ := h2 rfl; exact ⟨d, ρ2, by unfold orT; rw [h1]; exact q1, q2⟩
  | true => exact ⟨_, ρ1, by unfold orT; rw [h1]; rfl, h3 rfl⟩
end
section
variable {ρ : Rho} {Q : List D → Rho → Prop}
theorem aw_lift {f : Rho → Option (List D)} (h : ∃ d, f ρ = some d ∧ Q d ρ) : Aw (liftA f) ρ Q := by
  obtain ⟨d, h1, h2⟩ := h
  exact ⟨d, ρ, by unfold liftA; rw [h1]; rfl, h2⟩
theorem aw_cons {f : Ef} {g : Af} (h : Ev f ρ fun a ρ1 => Aw g ρ1 fun as ρ2 => Q (a :: as) ρ2) : Aw (aS f g) ρ Q := by
  obtain ⟨a, ρ1, h1, as, ρ2, h2, h3⟩ := h
  exact ⟨_, ρ2, by unfold aS; rw [h1]; show (g ρ1).map _ = _; rw [h2]; rfl, h3⟩
theorem aw_items {f : Ef} (h : Ev f ρ fun a ρ1 => ∃ ds, items a = some ds ∧ Q ds ρ1) : Aw (seqI f) ρ Q := by
  obtain ⟨a, ρ1, h1, ds, h2, h3⟩ := h
  exact ⟨_, ρ1, by unfold seqI; rw [h1]; show (items a).map _ = _; rw [h2]; rfl, h3⟩
theorem aw_range {f : Af} (h : Aw f ρ fun as ρ1 => ∃ ds, rng as = some ds ∧ Q ds ρ1) : Aw (seqR f) ρ Q := by
  obtain ⟨a, ρ1, h1, ds, h2, h3⟩ := h
  exact ⟨_, ρ1, by unfold seqR; rw [h1]; show (rng a).map _ = _; rw [h2]; rfl, h3⟩
end
/-- a comprehension whose turns change the state: I by what is left and what is made -/
theorem ev_comp {α : Type} {it : Af} {g : Gf} {p : Tf} {e : Ef} {vs : List Nat} {ρ : Rho} {Q : D → Rho → Prop} (enc : α → D) (I : List α → List D → Rho → Prop)
    (h : Aw it ρ fun ds ρ1 => ∃ xs ρw, ds = xs.map enc ∧ xs.length ≤ lim ∧ unwO vs ρ1 = some ρw ∧ I xs [] ρw ∧ ∀ out ρe, I [] out ρe → Q (.list out) (rst ρ1 ρe vs))
    (hs : ∀ x r out ρ, I (x :: r) out ρ → ∃ ρ1, g (enc x) ρ = some ρ1 ∧ Te p ρ1 fun c ρ2 => (c = true → Ev e ρ2 fun a ρ3 => ∃ ρ4, unwO vs ρ3 = some ρ4 ∧ I r (out ++ [a]) ρ4) ∧ (c = false → ∃ ρ4, unwO vs ρ2 = some ρ4 ∧ I r out ρ4)) : Ev (compE it g p e vs) ρ Q := by
  obtain ⟨ds, ρ1, h1, xs, ρw, rfl, hl, h2, h3, hq⟩ := h
  have run : ∀ (xs : List α) (out : List D) (ρ : Rho), I xs out ρ → ∃ rest ρe, compS g p e vs (xs.map enc) ρ = some (rest, ρe) ∧ I [] (out ++ rest) ρe ∧ rest.length ≤ xs.length := by
    intro xs
    induction xs with
    | nil => intro out ρ h; exact ⟨[], ρ, rfl, by rw [List.append_nil]; exact h, Nat.le_refl _⟩
    | cons x r ih =>
      intro out ρ h
      obtain ⟨ρ1, e1, c, ρ2, e2, ht, hf⟩ := hs x r out ρ h
      cases c with
      | true =>
        obtain ⟨a, ρ3, e3, ρ4, e4, h4⟩ := ht rfl
        obtain ⟨rest, ρe, q1, q2, q3⟩ := ih _ _ h4
        refine ⟨a :: rest, ρe, ?_, by rw [List.append_assoc] at q2; exact q2, by simp; omega⟩
        show (g (enc x) ρ).bind _ = _
        rw [e1]
        show (p ρ1).bind _ = _
        rw [e2]
        show (e ρ2).bind _ = _
        rw [e3]
        show (unwO vs ρ3).bind _ = _
        rw [e4]
        show (compS g p e vs (r.map enc) ρ4).map _ = _
        rw [q1]
        rfl
      | false =>
        obtain ⟨ρ4, e4, h4⟩ := hf rfl
        obtain ⟨rest, ρe, q1, q2, q3⟩ := ih _ _ h4
        refine ⟨rest, ρe, ?_, q2, by simp; omega⟩
        show (g (enc x) ρ).bind _ = _
        rw [e1]
        show (p ρ1).bind _ = _
        rw [e2]
        show (unwO vs ρ2).bind _ = _
        rw [e4]
        exact q1
  obtain ⟨rest, ρe, q1, q2, q3⟩ := run xs [] ρw h3
  refine ⟨.list rest, rst ρ1 ρe vs, ?_, hq _ _ q2⟩
  unfold compE
  rw [h1]
  show (unwO vs ρ1).bind _ = _
  rw [h2]
  show (compS g p e vs (xs.map enc) ρw).bind _ = _
  rw [q1]
  show (if rest.length ≤ lim then _ else _) = _
  rw [if_pos (Nat.le_trans q3 hl)]
/-- a comprehension that changes nothing -/
theorem compPs_map {α : Type} {g : Gf} {p : Rho → Option Bool} {e : Rho → Option D} {ρ : Rho} (enc : α → D) (q : α → Bool) (h : α → D) (xs : List α)
    (H : ∀ x ∈ xs, ∃ ρ1, g (enc x) ρ = some ρ1 ∧ p ρ1 = some (q x) ∧ (q x = true → e ρ1 = some (h x))) : compPs g p e ρ (xs.map enc) = some ((xs.filter q).map h) := by
  induction xs with
  | nil => rfl
  | cons x r ih =>
    obtain ⟨ρ1, h1, h2, h3⟩ := H x List.mem_cons_self
    have ih := ih fun y hy => H y (List.mem_cons_of_mem _ hy)
    show (g (enc x) ρ).bind _ = _
    rw [h1]
    show (p ρ1).bind _ = _
    rw [h2]
    cases hq : q x with
    | true =>
      show (e ρ1).bind _ = _
      rw [h3 hq]
      show (compPs g p e ρ (r.map enc)).map _ = _
      rw [ih, List.filter_cons_of_pos hq]
      rfl
    | false =>
      show compPs g p e ρ (r.map enc) = _
      rw [ih, List.filter_cons_of_neg (by rw [hq]; exact Bool.false_ne_true)]
theorem compPE_map {α : Type} {it : Rho → Option (List D)} {g : Gf} {p : Rho → Option Bool} {e : Rho → Option D} {vs : List Nat} {ρ : Rho} (enc : α → D) (q : α → Bool) (h : α → D) (xs : List α) (h1 : it ρ = some (xs.map enc)) (h2 : free vs ρ = true) (hl : xs.length ≤ lim)
    (H : ∀ x ∈ xs, ∃ ρ1, g (enc x) (unw ρ vs) = some ρ1 ∧ p ρ1 = some (q x) ∧ (q x = true → e ρ1 = some (h x))) : compPE it g p e vs ρ = some (.list ((xs.filter q).map h)) := by
  unfold compPE unwO
  rw [h1, if_pos h2]
  show (compPs g p e (unw ρ vs) (xs.map enc)).bind _ = _
  rw [compPs_map enc q h xs H]
  show (if _ then _ else _) = _
  rw [if_pos]
  rw [List.length_map]
  exact Nat.le_trans (List.length_filter_le _ _) hl
/-- .. without a test -/
theorem compPE_all {α : Type} {it : Rho → Option (List D)} {g : Gf} {e : Rho → Option D} {vs : List Nat} {ρ : Rho} (enc : α → D) (h : α → D) (xs : List α) (h1 : it ρ = some (xs.map enc)) (h2 : free vs ρ = true) (hl : xs.length ≤ lim)
    (H : ∀ x ∈ xs, ∃ ρ1, g (enc x) (unw ρ vs) = some ρ1 ∧ e ρ1 = some (h x)) : compPE it g tsN e vs ρ = some (.list (xs.map h)) := by
  have z := compPE_map (p := tsN) enc (fun _ => true) h xs h1 h2 hl fun x hx => let ⟨ρ1, a, b⟩ := H x hx; ⟨ρ1, a, rfl, fun _ => b⟩
  rw [List.filter_eq_self.mpr fun _ _ => rfl] at z
  exact z
theorem compPs2_map {α β : Type} {g g1 : Gf} {p p1 : Rho → Option Bool} {it1 : Rho → Option (List D)} {e : Rho → Option D} {vs1 : List Nat} {ρ : Rho} (enc : α → D) (f : α → List D) (xs : List α)
    (H : ∀ x ∈ xs, ∃ ρ1 es, g (enc x) ρ = some ρ1 ∧ p ρ1 = some true ∧ it1 ρ1 = some es ∧ compPs g1 p1 e (unw ρ1 vs1) es = some (f x)) : compPs2 g p it1 g1 p1 e vs1 ρ (xs.map enc) = some (xs.flatMap f) := by
  induction xs with
  | nil => rfl
  | cons x r ih =>
    obtain ⟨ρ1, es, h1, h2, h3, h4⟩ := H x List.mem_cons_self
    have ih := ih fun y hy => H y (List.mem_cons_of_mem _ hy)
    show (g (enc x) ρ).bind _ = _
    rw [h1]
    show (p ρ1).bind _ = _
    rw [h2]
    show (it1 ρ1).bind _ = _
    rw [h3]
    show (compPs g1 p1 e (unw ρ1 vs1) es).bind _ = _
    rw [h4]
    show (compPs2 g p it1 g1 p1 e vs1 ρ (r.map enc)).map _ = _
    rw [ih, List.flatMap_cons]
    rfl
theorem compPE2_map {α : Type} {it : Rho → Option (List D)} {g g1 : Gf} {p p1 : Rho → Option Bool} {it1 : Rho → Option (List D)} {e : Rho → Option D} {vs vs1 : List Nat} {ρ : Rho} (enc : α → D) (f : α → List D) (xs : List α) (h1 : it ρ = some (xs.map enc)) (h2 : free vs ρ = true) (hl : (xs.flatMap f).length ≤ lim)
    (H : ∀ x ∈ xs, ∃ ρ1 es, g (enc x) (unw ρ vs) = some ρ1 ∧ p ρ1 = some true ∧ it1 ρ1 = some es ∧ compPs g1 p1 e (unw ρ1 vs1) es = some (f x)) : compPE2 it g p it1 g1 p1 e vs vs1 ρ = some (.list (xs.flatMap f)) := by
  unfold compPE2 unwO
  rw [h1, if_pos h2]
  show (compPs2 g p it1 g1 p1 e vs1 (unw ρ vs) (xs.map enc)).bind _ = _
  rw [compPs2_map (β := α) enc f xs H]
  show (if _ then _ else _) = _
  rw [if_pos hl]
end DL
namespace DL
open L2 PyProof.Rows PySem PySem.Spec
/-! ## the combinators evaluated -/
section
variable {ρ : Rho} {s : Sl} {d e : D} {i j : Nat} {g : D → Option D} {g2 : D → D → Option D} {gl : List D → Option D} {f f1 f2 : Rho → Option D} {t t1 t2 : Rho → Option Bool} {a : Rho → Option (List D)}
/-- a slot that is the def's own, no list of its own -/
def Sl.pl : Sl → Bool
  | .un => true
  | .p _ => true
  | _ => false
@[simp] theorem pl_un : Sl.pl .un = true := rfl
@[simp] theorem pl_p : Sl.pl (.p d) = true := rfl
@[simp] theorem own_pl (h : s.pl = true) : s.own = false := by cases s <;> first | rfl | cases h
@[simp] theorem own_un : Sl.own .un = false := rfl
@[simp] theorem own_p : Sl.own (.p d) = false := rfl
@[simp] theorem pu1_eq : pu1 g f ρ = (f ρ).bind g := rfl
@[simp] theorem pu2_eq : pu2 g2 f1 f2 ρ = (f1 ρ).bind fun x => (f2 ρ).bind fun y => g2 x y := rfl
@[simp] theorem puA_eq : puA gl a ρ = (a ρ).bind gl := rfl
@[simp] theorem pu0_eq : pu0 gl ρ = gl [] := rfl
@[simp] theorem aN_eq : aN ρ = some [] := rfl
@[simp] theorem aC_eq : aC f a ρ = (f ρ).bind fun x => (a ρ).map fun r => x :: r := rfl
@[simp] theorem cC_eq : cC d ρ = some d := rfl
@[simp] theorem vP_zero : vP 0 (.p d :: ρ) = some d := rfl
@[simp] theorem vP_succ : vP (i + 1) (s :: ρ) = vP i ρ := rfl
@[simp] theorem vB_zero : vB 0 (.p d :: ρ) = some d := rfl
@[simp] theorem vB_zeroO : vB 0 (.o d :: ρ) = some d := rfl
@[simp] theorem vB_zeroM : vB 0 (.m d :: ρ) = some d := rfl
@[simp] theorem vB_succ : vB (i + 1) (s :: ρ) = vB i ρ := rfl
@[simp] theorem ifP_eq : ifP t f1 f2 ρ = (t ρ).bind fun c => if c = true then f1 ρ else f2 ρ := rfl
@[simp] theorem andP_eq : andP t1 t2 ρ = (t1 ρ).bind fun c => if c = true then t2 ρ else some false := rfl
@[simp] theorem orP_eq : orP t1 t2 ρ = (t1 ρ).bind fun c => if c = true then some true else t2 ρ := rfl
@[simp] theorem notP_eq : notP t ρ = (t ρ).map fun c => !c := rfl
@[simp] theorem tstP_eq : tstP f ρ = (f ρ).bind blOf := rfl
@[simp] theorem tsN_eq : tsN ρ = some true := rfl
@[simp] theorem andVP_eq : andVP f1 f2 ρ = (f1 ρ).bind fun a => (blOf a).bind fun c => if c = true then f2 ρ else some (.bool false) := rfl
@[simp] theorem orVP_eq : orVP f1 f2 ρ = (f1 ρ).bind fun a => (blOf a).bind fun c => if c = true then some (.bool true) else f2 ρ := rfl
@[simp] theorem mkLP_eq : mkLP a ρ = (a ρ).map .list := rfl
@[simp] theorem mkTP_eq : mkTP a ρ = (a ρ).map .tuple := rfl
@[simp] theorem puI_eq : puI f ρ = (f ρ).bind items := rfl
@[simp] theorem puR_eq : puR a ρ = (a ρ).bind rng := rfl
@[simp] theorem oN_eq : oN ρ = some none := rfl
@[simp] theorem oI_eq : oI f ρ = (f ρ).bind fun d => (intOf d).map some := rfl
@[simp] theorem puS_eq {gs : D → Option Int → Option Int → Option D} {fl fh : Rho → Option (Option Int)} : puS gs f fl fh ρ = (f ρ).bind fun a => (fl ρ).bind fun l => (fh ρ).bind fun h => gs a l h := rfl
@[simp] theorem chP_eq {h2 : D → D → Option D} {fa fb fc : Rho → Option D} : chP g2 h2 fa fb fc ρ = (fa ρ).bind fun a => (fb ρ).bind fun b => (g2 a b).bind fun z => (blOf z).bind fun t => if t = true then (fc ρ).bind fun c => h2 b c else some (.bool false) := rfl
@[simp] theorem blOf_bool {b : Bool} : blOf (.bool b) = some b := rfl
@[simp] theorem intOf_int {i : Int} : intOf (.int i) = some i := rfl
@[simp] theorem items_list {l : List D} : items (.list l) = some l := rfl
@[simp] theorem items_tup {l : List D} : items (.tuple l) = some l := rfl
@[simp] theorem items_str {x : Str} : items (.str x) = some (chars x) := rfl
@[simp] theorem on1_one : on1 g [d] = g d := rfl
@[simp] theorem setP_zero : setP 0 d (.p e :: ρ) = some (.p d :: ρ) := rfl
@[simp] theorem setP_zeroU : setP 0 d (.un :: ρ) = some (.p d :: ρ) := rfl
@[simp] theorem setP_zeroO : setP 0 d (.o e :: ρ) = some (.p d :: ρ) := rfl
@[simp] theorem setP_zeroF (h : s.pl = true) : setP 0 d (s :: ρ) = some (.p d :: ρ) := by cases s <;> first | rfl | cases h
@[simp] theorem setP_succ : setP (i + 1) d (s :: ρ) = (setP i d ρ).map (s :: ·) := by
  show (match ρ[i]? with
    | none => none
    | some (.m _) => none
    | some _ => some ((s :: ρ).set (i + 1) (.p d))) = (match ρ[i]? with
    | none => none
    | some (.m _) => none
    | some _ => some (ρ.set i (.p d))).map (s :: ·)
  split <;> rfl
@[simp] theorem setO_zero : setO 0 d (.p e :: ρ) = some (.o d :: ρ) := rfl
@[simp] theorem setO_zeroU : setO 0 d (.un :: ρ) = some (.o d :: ρ) := rfl
@[simp] theorem setO_zeroO : setO 0 d (.o e :: ρ) = some (.o d :: ρ) := rfl
@[simp] theorem setO_zeroF (h : s.pl = true) : setO 0 d (s :: ρ) = some (.o d :: ρ) := by cases s <;> first | rfl | cases h
@[simp] theorem setO_succ : setO (i + 1) d (s :: ρ) = (setO i d ρ).map (s :: ·) := by
  show (match ρ[i]? with
    | none => none
    | some (.m _) => none
    | some _ => some ((s :: ρ).set (i + 1) (.o d))) = (match ρ[i]? with
    | none => none
    | some (.m _) => none
    | some _ => some (ρ.set i (.o d))).map (s :: ·)
  split <;> rfl
@[simp] theorem ownd_zeroO : ownd 0 (.o d :: ρ) = some d := rfl
@[simp] theorem ownd_zeroM : ownd 0 (.m d :: ρ) = some d := rfl
@[simp] theorem ownd_succ : ownd (i + 1) (s :: ρ) = ownd i ρ := rfl
@[simp] theorem wr_zeroO : wr 0 e (.o d :: ρ) = .o e :: ρ := rfl
@[simp] theorem wr_zeroM : wr 0 e (.m d :: ρ) = .m e :: ρ := rfl
@[simp] theorem wr_succ : wr (i + 1) e (s :: ρ) = s :: wr i e ρ := by
  show (match ρ[i]? with
    | some s' => (s :: ρ).set (i + 1) (s'.put e)
    | none => s :: ρ) = s :: (match ρ[i]? with
    | some s' => ρ.set i (s'.put e)
    | none => ρ)
  split <;> rfl
@[simp] theorem frz_zeroO : frz 0 (.o d :: ρ) = .p d :: ρ := rfl
@[simp] theorem frz_zero : frz 0 (.p d :: ρ) = .p d :: ρ := rfl
@[simp] theorem frz_succ : frz (i + 1) (s :: ρ) = s :: frz i ρ := by
  show (match ρ[i]? with
    | some (.o d) => (s :: ρ).set (i + 1) (.p d)
    | _ => s :: ρ) = s :: (match ρ[i]? with
    | some (.o d) => ρ.set i (.p d)
    | _ => ρ)
  split <;> rfl
@[simp] theorem unw_nil : unw ρ [] = ρ := rfl
@[simp] theorem unw_cons {v : Nat} {vs : List Nat} : unw ρ (v :: vs) = (unw ρ vs).set v .un := rfl
@[simp] theorem rst_nil {ρ0 : Rho} : rst ρ0 ρ [] = ρ := rfl
@[simp] theorem rst_cons {ρ0 : Rho} {v : Nat} {vs : List Nat} : rst ρ0 ρ (v :: vs) = (rst ρ0 ρ vs).set v (ρ0.getD v .un) := rfl
@[simp] theorem free_nil : free [] ρ = true := rfl
def freeAt (v : Nat) (ρ : Rho) : Bool := match ρ[v]? with
  | some s => !s.own
  | none => false
@[simp] theorem free_cons {v : Nat} {vs : List Nat} : free (v :: vs) ρ = (freeAt v ρ && free vs ρ) := rfl
@[simp] theorem freeAt_zero : freeAt 0 (s :: ρ) = !s.own := rfl
@[simp] theorem freeAt_succ : freeAt (i + 1) (s :: ρ) = freeAt i ρ := rfl
theorem unwO_eq {vs : List Nat} (h : free vs ρ = true) : unwO vs ρ = some (unw ρ vs) := by unfold unwO; rw [if_pos h]
@[simp] theorem gTup_eq {n : Nat} {gs : List D → Rho → Option Rho} {ds : List D} : gTup n gs (.tuple ds) ρ = if ds.length = n then gs ds ρ else none := rfl
@[simp] theorem gNil_eq : gNil [] ρ = some ρ := rfl
@[simp] theorem gCons_eq {gf : Gf} {gs : List D → Rho → Option Rho} {ds : List D} : gCons gf gs (d :: ds) ρ = (gf d ρ).bind (gs ds) := rfl
/-! statements -/
@[simp] theorem fnP_eq {N : Nat} {b : Sf} {ds : List D} : fnP N b ds = (b (ds.map Sl.p ++ List.replicate (N - ds.length) .un)).bind outD := rfl
@[simp] theorem lift_eq : lift f ρ = (f ρ).map fun d => (d, ρ) := rfl
@[simp] theorem liftT_eq : liftT t ρ = (t ρ).map fun d => (d, ρ) := rfl
@[simp] theorem liftA_eq : liftA a ρ = (a ρ).map fun d => (d, ρ) := rfl
@[simp] theorem sRt_eq {fe : Ef} : sRt fe ρ = (fe ρ).map fun a => .rt a.1 a.2 := rfl
@[simp] theorem sNx_eq : sNx ρ = some (.nx ρ) := rfl
@[simp] theorem sBk_eq : sBk ρ = some (.bk ρ) := rfl
@[simp] theorem sCt_eq : sCt ρ = some (.ct ρ) := rfl
def thenO (b : Sf) : Out → Option Out
  | .nx ρ1 => b ρ1
  | o => some o
@[simp] theorem thenO_nx {b : Sf} : thenO b (.nx ρ) = b ρ := rfl
@[simp] theorem thenO_rt {b : Sf} : thenO b (.rt d ρ) = some (.rt d ρ) := rfl
@[simp] theorem thenO_bk {b : Sf} : thenO b (.bk ρ) = some (.bk ρ) := rfl
@[simp] theorem thenO_ct {b : Sf} : thenO b (.ct ρ) = some (.ct ρ) := rfl
@[simp] theorem sSeq_eq {b c : Sf} : sSeq b c ρ = (b ρ).bind (thenO c) := by
  show (b ρ).bind _ = _
  refine congrArg _ (funext fun o => ?_)
  cases o <;> rfl
@[simp] theorem sSetP_eq {fe : Ef} : sSetP i fe ρ = (fe ρ).bind fun a => (setP i a.1 a.2).map .nx := rfl
@[simp] theorem sSetO_eq {fe : Ef} : sSetO i fe ρ = (fe ρ).bind fun a => (setO i a.1 a.2).map .nx := rfl
@[simp] theorem sIf_eq {tf : Tf} {b c : Sf} : sIf tf b c ρ = (tf ρ).bind fun x => if x.1 = true then b x.2 else c x.2 := rfl
@[simp] theorem sAsg_eq {gf : Gf} {fe : Ef} : sAsg gf fe ρ = (fe ρ).bind fun a => (gf a.1 a.2).map .nx := rfl
@[simp] theorem sFz_eq {b : Sf} : sFz i b ρ = b (frz i ρ) := rfl
@[simp] theorem sEx_eq {fe : Ef} : sEx fe ρ = (fe ρ).map fun a => .nx a.2 := rfl
@[simp] theorem sFor_eq {it : Af} {gf : Gf} {b : Sf} : sFor it gf b ρ = (it ρ).bind fun a => forS gf b a.1 a.2 := rfl
@[simp] theorem outD_rt : outD (.rt d ρ) = some d := rfl
@[simp] theorem outD_nx : outD (.nx ρ) = some .none := rfl
def ownAt (i : Nat) (ρ : Rho) : Option D := match ρ[i]? with
  | some (.o d) => some d
  | _ => none
@[simp] theorem ownAt_zero : ownAt 0 (.o d :: ρ) = some d := rfl
@[simp] theorem ownAt_succ : ownAt (i + 1) (s :: ρ) = ownAt i ρ := rfl
@[simp] theorem sRtO_eq : sRtO i ρ = (ownAt i ρ).map fun d => .rt d ρ := by
  unfold sRtO ownAt
  generalize ρ[i]? = o
  cases o with
  | none => rfl
  | some s => cases s <;> rfl
def mAt (i : Nat) (ρ : Rho) : Option D := match ρ[i]? with
  | some (.m d) => some d
  | _ => none
@[simp] theorem mAt_zero : mAt 0 (.m d :: ρ) = some d := rfl
@[simp] theorem mAt_succ : mAt (i + 1) (s :: ρ) = mAt i ρ := rfl
@[simp] theorem outM_rt : outM i (.rt d ρ) = (mAt i ρ).map fun c => (d, c) := by
  unfold mAt
  show (match ρ[i]? with
    | some (.m c) => some (d, c)
    | _ => none) = _
  split <;> rfl
@[simp] theorem outM_nx : outM i (.nx ρ) = (mAt i ρ).map fun c => (.none, c) := by
  unfold mAt
  show (match ρ[i]? with
    | some (.m c) => some (PyData.none, c)
    | _ => none) = _
  split <;> rfl
end
theorem rn_of {b : Sf} {ρ : Rho} {o : Out} {Q : Out → Prop} (h : b ρ = some o) (q : Q o) : Rn b ρ Q := ⟨o, h, q⟩
theorem fnP_rn {N : Nat} {b : Sf} {ds : List D} {d : D} (h : Rn b (ds.map Sl.p ++ List.replicate (N - ds.length) .un) fun o => outD o = some d) : fnP N b ds = some d := by
  obtain ⟨o, h1, h2⟩ := h
  unfold fnP
  rw [h1]
  exact h2
theorem fnP_go {N : Nat} {b : Sf} {ds : List D} {d : D} (ρ : Rho) (e : ds.map Sl.p ++ List.replicate (N - ds.length) .un = ρ) (h : Rn b ρ fun o => outD o = some d) : fnP N b ds = some d := fnP_rn (by rw [e]; exact h)
theorem fnM_go {N k : Nat} {b : Sf} {c : D} {ds : List D} {Q : D → D → Prop} (ρ : Rho) (e : ins k (.m c) (ds.map Sl.p) ++ List.replicate (N - (ds.length + 1)) .un = ρ) (h : Rn b ρ fun o => OkP (outM k o) Q) : Cm (fnM N k b) c ds Q := by
  obtain ⟨o, h1, ⟨r, c'⟩, h2, h3⟩ := h
  refine ⟨r, c', ?_, h3⟩
  unfold fnM
  rw [e, h1]
  exact h2
theorem fnM_rn {N k : Nat} {b : Sf} {c : D} {ds : List D} {Q : D → D → Prop} (h : Rn b (ins k (.m c) (ds.map Sl.p) ++ List.replicate (N - (ds.length + 1)) .un) fun o => ∃ r c', outM k o = some (r, c') ∧ Q r c') : Cm (fnM N k b) c ds Q := by
  obtain ⟨o, h1, r, c', h2, h3⟩ := h
  refine ⟨r, c', ?_, h3⟩
  unfold fnM
  rw [h1]
  exact h2
theorem rn_rtO {i : Nat} {ρ : Rho} {Q : Out → Prop} (h : ∃ d, ownAt i ρ = some d ∧ Q (.rt d ρ)) : Rn (sRtO i) ρ Q := by
  obtain ⟨d, h1, h2⟩ := h
  exact ⟨_, by rw [sRtO_eq, h1]; rfl, h2⟩
/-! ## values -/
section
variable {i j : Int}
@[simp] theorem addD_int : addD (.int i) (.int j) = some (.int (i + j)) := rfl
@[simp] theorem subD_int : subD (.int i) (.int j) = some (.int (i - j)) := rfl
@[simp] theorem negD_int : negD (.int i) = some (.int (-i)) := rfl
@[simp] theorem absD_int : absD (.int i) = some (.int (if i < 0 then -i else i)) := rfl
@[simp] theorem intD_int : intD (.int i) = some (.int i) := rfl
@[simp] theorem intD_bool {b : Bool} : intD (.bool b) = some (.int (if b then 1 else 0)) := rfl
theorem divOk_small (h : 0 < j) (h2 : j < 1073741824) : divOk i j = true := by
  unfold divOk
  rw [Bool.and_eq_true, Bool.or_eq_true, Nat.blt_eq]
  exact ⟨decide_eq_true h, .inl (by omega)⟩
theorem divOk_wide {k : Nat} (h : 0 < j) (h2 : j < 2 ^ k) (hk : k ≤ 9000 := by decide) (h0 : 0 < k := by decide) : divOk i j = true := by
  unfold divOk
  rw [Bool.and_eq_true, Bool.or_eq_true, Nat.blt_eq, Nat.blt_eq]
  have e : j.natAbs < 2 ^ k := by
    have : ((2 ^ k : Nat) : Int) = (2 : Int) ^ k := by simp
    omega
  exact ⟨decide_eq_true h, .inr (Nat.lt_of_lt_of_le (PySem.Flt.log2_lt_of h0 e) hk)⟩
theorem divD_int (h : divOk i j = true) : divD (.int i) (.int j) = some (.int (i / j)) := by
  show (if divOk i j = true then _ else _) = _
  rw [if_pos h]
theorem modD_int (h : 0 < j) : modD (.int i) (.int j) = some (.int (i % j)) := by
  show (if decide (0 < j) = true then _ else _) = _
  rw [if_pos (decide_eq_true h)]
theorem mulOk_l (h : -18446744073709551616 < i) (h2 : i < 18446744073709551616) : mulOk i j = true := by
  unfold mulOk
  rw [Bool.or_eq_true, Bool.or_eq_true, Nat.blt_eq, Nat.blt_eq]
  exact .inl (.inl (by omega))
theorem mulOk_r (h : -18446744073709551616 < j) (h2 : j < 18446744073709551616) : mulOk i j = true := by
  unfold mulOk
  rw [Bool.or_eq_true, Bool.or_eq_true, Nat.blt_eq, Nat.blt_eq]
  exact .inl (.inr (by omega))
theorem mulOk_wide {a b : Nat} (h1 : i.natAbs < 2 ^ a) (h2 : j.natAbs < 2 ^ b) (h : a + b ≤ 1000000 := by decide) (ha : 0 < a := by decide) (hb : 0 < b := by decide) : mulOk i j = true := by
  unfold mulOk
  have x := PySem.Flt.log2_lt_of ha h1
  have y := PySem.Flt.log2_lt_of hb h2
  rw [Bool.or_eq_true, Nat.blt_eq]
  exact .inr (by omega)
theorem mulD_int (h : mulOk i j = true) : mulD (.int i) (.int j) = some (.int (i * j)) := by
  show (if mulOk i j = true then _ else _) = _
  rw [if_pos h]
@[simp] theorem dOk_int : dOk (.int i) = true := by simp [dOk, PyData.plain, PyData.depth]
@[simp] theorem dOk_str {x : Str} : dOk (.str x) = true := by simp [dOk, PyData.plain, PyData.depth]
@[simp] theorem dOk_bool {x : Bool} : dOk (.bool x) = true := by simp [dOk, PyData.plain, PyData.depth]
@[simp] theorem dOk_none : dOk .none = true := by simp [dOk, PyData.plain, PyData.depth]
@[simp] theorem eqD_int : eqD (.int i) (.int j) = some (.bool (decide (i = j))) := by
  simp only [eqD, dOk_int, Bool.and_self, if_true, PyData.eqv]
  rfl
@[simp] theorem neD_int : neD (.int i) (.int j) = some (.bool (!decide (i = j))) := by
  simp only [neD, dOk_int, Bool.and_self, if_true, PyData.eqv]
  rfl
theorem dataLt_int : PySem.W.dataLt (.int i) (.int j) = decide (i < j) := by
  have h := PySem.W.dataLt_ints [i] [j]
  have e := PySem.W.dataLe_int (β := Int) (fun x => x)
  have e2 := congrFun (congrFun e j) i
  rw [PySem.W.dataLe_eq] at e2
  have e3 : (!PySem.W.dataLt (.int i) (.int j)) = decide (j ≤ i) := e2
  cases hx : PySem.W.dataLt (.int i) (.int j) with
  | true =>
    rw [hx] at e3
    have : ¬ j ≤ i := by simpa using e3.symm
    exact (decide_eq_true (by omega)).symm
  | false =>
    rw [hx] at e3
    have : j ≤ i := by simpa using e3.symm
    exact (decide_eq_false (by omega)).symm
theorem cOk_int : cOk (.int i) (.int j) = true := by
  unfold cOk
  simp [PySem.W.alike, notN]
@[simp] theorem ltD_int : ltD (.int i) (.int j) = some (.bool (decide (i < j))) := by rw [ltD, if_pos cOk_int, dataLt_int]
@[simp] theorem gtD_int : gtD (.int i) (.int j) = some (.bool (decide (j < i))) := by rw [gtD, if_pos cOk_int, dataLt_int]
@[simp] theorem leD_int : leD (.int i) (.int j) = some (.bool (decide (i ≤ j))) := by
  rw [leD, if_pos cOk_int, dataLt_int]
  congr 2
  by_cases h : i ≤ j
  · rw [decide_eq_true h, decide_eq_false (by omega)]; rfl
  · rw [decide_eq_false h, decide_eq_true (by omega)]; rfl
@[simp] theorem geD_int : geD (.int i) (.int j) = some (.bool (decide (j ≤ i))) := by
  rw [geD, if_pos cOk_int, dataLt_int]
  congr 2
  by_cases h : j ≤ i
  · rw [decide_eq_true h, decide_eq_false (by omega)]; rfl
  · rw [decide_eq_false h, decide_eq_true (by omega)]; rfl
@[simp] theorem lenD_list {l : List D} : lenD (.list l) = some (.int l.length) := rfl
@[simp] theorem lenD_tup {l : List D} : lenD (.tuple l) = some (.int l.length) := rfl
@[simp] theorem tupD_list {l : List D} : tupD (.list l) = some (.tuple l) := rfl
@[simp] theorem tupD_tup {l : List D} : tupD (.tuple l) = some (.tuple l) := rfl
@[simp] theorem lstD_list {l : List D} : lstD (.list l) = some (.list l) := rfl
@[simp] theorem lstD_tup {l : List D} : lstD (.tuple l) = some (.list l) := rfl
@[simp] theorem max2D_int : max2D [.int i, .int j] = some (.int (max i j)) := by
  show some (PyData.int (if j > i then j else i)) = _
  congr 2
  omega
@[simp] theorem min2D_int : min2D [.int i, .int j] = some (.int (min i j)) := by
  show some (PyData.int (if j < i then j else i)) = _
  congr 2
  omega
theorem sumD_list (ns : List Int) : sumD (.list (ns.map .int)) = some (.int (sumI ns)) := by
  show (intsOf (ns.map .int)).map _ = _
  rw [intsOf_map]
  rfl
theorem sumD_tup (ns : List Int) : sumD (.tuple (ns.map .int)) = some (.int (sumI ns)) := by
  show (intsOf (ns.map .int)).map _ = _
  rw [intsOf_map]
  rfl
@[simp] theorem ixD_list {l : List D} : ixD (.list l) (.int i) = atI l i := rfl
@[simp] theorem ixD_tup {l : List D} : ixD (.tuple l) (.int i) = atI l i := rfl
theorem atI_nat {α : Type} {l : List α} {n : Nat} (h : n < l.length) : atI l (n : Int) = some l[n] := by
  unfold atI ixN
  rw [if_pos (by omega), if_pos (by omega)]
  show l[(n : Int).toNat]? = _
  rw [Int.toNat_natCast, List.getElem?_eq_getElem h]
theorem rng_one {n : Nat} (h : n < 4611686018427387904) : rng [.int n] = some ((List.range n).map fun i => .int (i : Nat)) := by
  have e : rng [.int (n : Int)] = if bnd (n : Int) = true then some (rgI 0 ((n : Int).toNat)) else none := by rw [rng]
  rw [e, if_pos (bnd_iff.mpr ⟨by omega, by omega⟩), Int.toNat_natCast]
  unfold rgI
  refine congrArg some (List.map_congr_left fun i _ => ?_)
  rw [Int.zero_add]
theorem catOk {a b : Nat} (h : a + b ≤ 16777216) : Nat.ble (a + b) lim = true := Nat.ble_eq.mpr h
theorem addD_tup {a b : List D} (h : a.length + b.length ≤ 16777216) : addD (.tuple a) (.tuple b) = some (.tuple (a ++ b)) := by
  show (if _ then _ else _) = _
  rw [if_pos (catOk h)]
theorem addD_list {a b : List D} (h : a.length + b.length ≤ 16777216) : addD (.list a) (.list b) = some (.list (a ++ b)) := by
  show (if _ then _ else _) = _
  rw [if_pos (catOk h)]
theorem addD_str {a b : Str} (h : a.length + b.length ≤ 16777216) : addD (.str a) (.str b) = some (.str (a ++ b)) := by
  show (if _ then _ else _) = _
  rw [if_pos (catOk h)]
@[simp] theorem notD_bool {b : Bool} : notD (.bool b) = some (.bool (!b)) := rfl
end
end DL
namespace DL
open L2 PyProof.Rows PySem PySem.Spec
/-! ## what every law shares: draws, take, cell, same -/
def b_Ldraws : Sf :=
  (sSeq (sSetO 2 (lift (compPE (puI (vP 0)) (setP 7) tsN (puA (on1 intD) (aC (vP 7) aN)) [7]))) (sSeq (sIf (liftT (tstP (pu2 eqD (puA (on1 lenD) (aC (vB 2) aN)) (cC (.int 0))))) (sEx (mutE 2 gAppend (liftA (aC (cC (.int 0)) aN)))) sNx) (sSeq (sSetO 3 (lift (puA (on1 lstD) (aC (vB 2) aN)))) (sSeq (sSetO 4 (lift (mkLP aN))) (sSeq (sFor (liftA (puR (aC (vP 1) aN))) (setP 5) (sSeq (sSetP 6 (lift (pu2 modD (vP 5) (puA (on1 lenD) (aC (vB 2) aN))))) (sIf (liftT (andP (tstP (pu2 geD (pu2 ixD (vB 2) (vP 6)) (pu2 powD (cC (.int 10)) (cC (.int 18))))) (tstP (pu2 gtD (pu2 ixD (vB 3) (vP 6)) (cC (.int 0)))))) (sSeq (sEx (mutE 4 gAppend (liftA (aC (pu2 modD (puA (on1 intD) (aC (pu2 ixD (vB 3) (vP 6)) aN)) (cC (.int 1000))) aN)))) (storeL 3 (lift (pu2 divD (pu2 ixD (vB 3) (vP 6)) (cC (.int 1000)))) (lift (vP 6)))) (sSeq (sSetP 8 (lift (pu2 modD (puA (on1 intD) (aC (pu2 addD (pu2 addD (pu2 mulD (pu2 ixD (vB 2) (vP 6)) (cC (.int 48271))) (pu2 mulD (vP 5) (cC (.int 69621)))) (cC (.int 11))) aN)) (cC (.int 2147483647))))) (sEx (mutE 4 gAppend (liftA (aC (pu2 modD (puA (on1 intD) (aC (pu2 addD (pu2 addD (pu2 mulD (vP 8) (vP 8)) (pu2 mulD (cC (.int 3)) (vP 8))) (vP 5)) aN)) (cC (.int 1000003))) aN)))))))) (sSeq (sEx (mutE 4 gReverse (liftA aN))) (sRtO 4)))))))
def m_Ldraws : List D → Option D := fnP 9 b_Ldraws
def b_Ltake : Sf :=
  (sSeq (sIf (liftT (tstP (pu2 eqD (puA (on1 lenD) (aC (vB 0) aN)) (cC (.int 0))))) (sRt (lift (cC (.int 0)))) sNx) (sRt (seq2 modD (seqA (on1 intD) (aS (mutE 0 gPop (liftA aN)) (liftA aN))) (lift (vP 1)))))
def m_Ltake : D → List D → Option (D × D) := fnM 2 0 b_Ltake
def b_Lcell : Sf :=
  (sSeq (sIf (liftT (tstP (pu2 eqD (puA (on1 lenD) (aC (vP 0) aN)) (cC (.int 0))))) (sRt (lift (cC (.int 0)))) sNx) (sSeq (sSetP 2 (seqA (on1 intD) (aS (seq2 ixD (lift (vP 0)) (callM 1 m_Ltake (liftA (aC (puA (on1 lenD) (aC (vP 0) aN)) aN)))) (liftA aN)))) (sRt (lift (pu2 mulD (pu2 modD (puA (on1 absD) (aC (vP 2) aN)) (pu2 powD (cC (.int 10)) (cC (.int 60)))) (pu2 ixD (mkLP (aC (cC (.int 1)) (aC (pu1 negD (cC (.int 1))) aN))) (puA (on1 intD) (aC (pu2 ltD (vP 2) (cC (.int 0))) aN))))))))
def m_Lcell : D → List D → Option (D × D) := fnM 3 1 b_Lcell
def b_Lsame (slf : List D → Option D) : Sf :=
  (sSeq (sIf (liftT (tstP (pu1 (isiD .bo) (vP 1)))) (sRt (lift (andVP (pu1 (isiD .bo) (vP 0)) (pu2 eqD (vP 0) (vP 1))))) sNx) (sSeq (sIf (liftT (tstP (pu1 (isiD .it) (vP 1)))) (sRt (lift (andVP (pu1 (isiD .it) (vP 0)) (andVP (pu1 notD (pu1 (isiD .bo) (vP 0))) (pu2 eqD (vP 0) (vP 1)))))) sNx) (sSeq (sIf (liftT (tstP (pu1 (isiD .st) (vP 1)))) (sRt (lift (andVP (pu1 (isiD .st) (vP 0)) (pu2 eqD (vP 0) (vP 1))))) sNx) (sSeq (sIf (liftT (tstP (pu2 isN (vP 1) (cC .none)))) (sRt (lift (pu2 isN (vP 0) (cC .none)))) sNx) (sSeq (sIf (liftT (orP (notP (tstP (pu1 (isiD .tu) (vP 0)))) (tstP (pu2 neD (puA (on1 lenD) (aC (vP 0) aN)) (puA (on1 lenD) (aC (vP 1) aN)))))) (sRt (lift (cC (.bool false)))) sNx) (sSeq (sFor (liftA (puR (aC (puA (on1 lenD) (aC (vP 1) aN)) aN))) (setP 2) (sIf (liftT (notP (tstP (puA slf (aC (pu2 ixD (vP 0) (vP 2)) (aC (pu2 ixD (vP 1) (vP 2)) aN)))))) (sRt (lift (cC (.bool false)))) sNx)) (sRt (lift (cC (.bool true))))))))))
def m_Lsame : Nat → List D → Option D
  | 0 => fun _ => none
  | n + 1 => fnP 3 (b_Lsame (m_Lsame n))
/-- a list of ints -/
def Dr (c : D) : Prop := ∃ ns : List Int, c = .list (ns.map .int)
theorem powD_int {i j : Int} (h : powOk i j = true) : powD (.int i) (.int j) = some (.int (i ^ j.toNat)) := by
  show (if powOk i j = true then _ else _) = _
  rw [if_pos h]
theorem cm_take {c : D} {m : Int} {Q : D → D → Prop} (hc : Dr c) (hm : 0 < m) (h : ∀ v c', 0 ≤ v → v < m → Dr c' → Q (.int v) c') : Cm m_Ltake c [.int m] Q := by
  obtain ⟨ns, rfl⟩ := hc
  refine fnM_go [.m (.list (ns.map .int)), .p (.int m)] rfl ?_
  by_cases hn : ns = []
  · subst hn
    refine rn_seq (rn_if (te_lift ?_))
    simp
    refine rn_rt (ev_lift ?_)
    simp
    exact h 0 (.list []) (by omega) hm ⟨[], rfl⟩
  · obtain ⟨a, x, rfl⟩ : ∃ a x, ns = a ++ [x] := ⟨ns.dropLast, ns.getLast hn, (List.dropLast_concat_getLast hn).symm⟩
    refine rn_seq (rn_if (te_lift ?_))
    simp
    refine ⟨fun z => absurd z (by omega), fun _ => rn_nx ?_⟩
    simp
    refine rn_rt (ev_seq2 (ev_seqA (aw_cons (ev_mut ?_))))
    simp
    refine aw_lift ?_
    refine ⟨[], rfl, ?_⟩
    simp [gPop]
    refine aw_lift ?_
    simp
    refine ev_lift ?_
    simp [modD_int hm]
    exact h _ _ (Int.emod_nonneg _ (by omega)) (Int.emod_lt_of_pos _ hm) ⟨a, rfl⟩
theorem fnP_ex {N : Nat} {b : Sf} {ds : List D} {Q : D → Prop} (ρ : Rho) (e : ds.map Sl.p ++ List.replicate (N - ds.length) .un = ρ) (h : Rn b ρ fun o => ∃ d, outD o = some d ∧ Q d) : ∃ d, fnP N b ds = some d ∧ Q d := by
  obtain ⟨o, h1, d, h2, h3⟩ := h
  refine ⟨d, ?_, h3⟩
  unfold fnP
  rw [e, h1]
  exact h2
theorem atI_int {ns : List Int} {i : Nat} (h : i < ns.length) : atI (ns.map PyData.int) (i : Int) = some (.int (ns.getD i 0)) := by
  rw [atI_nat (by simpa using h)]
  simp [List.getD, List.getElem?_eq_getElem h]
theorem ixN_nat {n i : Nat} (h : i < n) : ixN n (i : Int) = some i := by
  unfold ixN
  rw [if_pos (by omega), if_pos (by omega), Int.toNat_natCast]
theorem big18 : powD (.int 10) (.int 18) = some (.int 1000000000000000000) := by
  rw [powD_int (by decide +kernel)]
  rfl
theorem big60 : powD (.int 10) (.int 60) = some (.int (10 ^ 60)) := by
  rw [powD_int (by decide +kernel)]
  rfl
theorem draws_ok {ns : List Int} (hl : ns.length ≤ 1000) {many : Nat} (hm : many ≤ 100000) : ∃ c, m_Ldraws [.list (ns.map .int), .int many] = some c ∧ Dr c := by
  refine fnP_ex [.p (.list (ns.map .int)), .p (.int many), .un, .un, .un, .un, .un, .un, .un] rfl ?_
  have z := compPE_all (it := puI (vP 0)) (g := setP 7) (e := puA (on1 intD) (aC (vP 7) aN)) (vs := [7]) (ρ := [.p (.list (ns.map .int)), .p (.int many), .un, .un, .un, .un, .un, .un, .un]) (fun n : Int => .int n) (fun n : Int => .int n) ns (by simp) (by simp) (by simp [lim]; omega) fun x hx => ⟨_, rfl, by simp⟩
  refine rn_seq (rn_setO (ev_lift ⟨_, z, ?_⟩))
  simp
  -- not empty
  have two : ∀ (cs : List Int) (b : Sf) (Q : Out → Prop), 0 < cs.length → cs.length ≤ 1001 → Rn b [.p (.list (ns.map .int)), .p (.int many), .o (.list (cs.map .int)), .un, .un, .un, .un, .un, .un] Q → Rn b [.p (.list (ns.map .int)), .p (.int many), .o (.list (cs.map .int)), .un, .un, .un, .un, .un, .un] Q := fun _ _ _ _ _ h => h
  refine rn_seq (rn_if (te_lift ?_))
  simp
  suffices key : ∀ cs : List Int, 0 < cs.length → cs.length ≤ 1001 → Rn (sSeq (sSetO 3 (lift (puA (on1 lstD) (aC (vB 2) aN)))) (sSeq (sSetO 4 (lift (mkLP aN))) (sSeq (sFor (liftA (puR (aC (vP 1) aN))) (setP 5) (sSeq (sSetP 6 (lift (pu2 modD (vP 5) (puA (on1 lenD) (aC (vB 2) aN))))) (sIf (liftT (andP (tstP (pu2 geD (pu2 ixD (vB 2) (vP 6)) (pu2 powD (cC (.int 10)) (cC (.int 18))))) (tstP (pu2 gtD (pu2 ixD (vB 3) (vP 6)) (cC (.int 0)))))) (sSeq (sEx (mutE 4 gAppend (liftA (aC (pu2 modD (puA (on1 intD) (aC (pu2 ixD (vB 3) (vP 6)) aN)) (cC (.int 1000))) aN)))) (storeL 3 (lift (pu2 divD (pu2 ixD (vB 3) (vP 6)) (cC (.int 1000)))) (lift (vP 6)))) (sSeq (sSetP 8 (lift (pu2 modD (puA (on1 intD) (aC (pu2 addD (pu2 addD (pu2 mulD (pu2 ixD (vB 2) (vP 6)) (cC (.int 48271))) (pu2 mulD (vP 5) (cC (.int 69621)))) (cC (.int 11))) aN)) (cC (.int 2147483647))))) (sEx (mutE 4 gAppend (liftA (aC (pu2 modD (puA (on1 intD) (aC (pu2 addD (pu2 addD (pu2 mulD (vP 8) (vP 8)) (pu2 mulD (cC (.int 3)) (vP 8))) (vP 5)) aN)) (cC (.int 1000003))) aN)))))))) (sSeq (sEx (mutE 4 gReverse (liftA aN))) (sRtO 4)))))
      [.p (.list (ns.map .int)), .p (.int many), .o (.list (cs.map .int)), .un, .un, .un, .un, .un, .un] (fun o => ∃ d, outD o = some d ∧ Dr d) by
    refine ⟨fun e => ?_, fun e => rn_nx ?_⟩
    · subst e
      refine rn_ex (ev_mut ?_)
      simp
      refine aw_lift ?_
      simp [gAppend, lim]
      exact key [0] (by simp) (by simp)
    · simp
      exact key ns (by cases ns with
        | nil => exact absurd rfl e
        | cons _ _ => simp) (by omega)
  intro cs h0 h1
  refine rn_seq (rn_setO (ev_lift ?_))
  simp
  refine rn_seq (rn_setO (ev_lift ?_))
  simp
  refine rn_seq (rn_for (aw_lift ?_))
  simp [rng_one (n := many) (by omega)]
  refine rn_forS _ (fun i ρ => ∃ (rs ds : List Int) (s5 s6 s8 : Sl), ρ = [.p (.list (ns.map .int)), .p (.int many), .o (.list (cs.map .int)), .o (.list (rs.map .int)), .o (.list (ds.map .int)), s5, s6, .un, s8] ∧ rs.length = cs.length ∧ ds.length ≤ i ∧ s5.pl = true ∧ s6.pl = true ∧ s8.pl = true) _ ⟨cs, [], .un, .un, .un, rfl, rfl, Nat.le_refl _, rfl, rfl, rfl⟩ ?_ ?_
  · rintro i d ρ hi ⟨rs, ds, s5, s6, s8, rfl, e1, e2, p5, p6, p8⟩
    obtain ⟨hlt, hd⟩ := List.getElem?_eq_some_iff.mp hi
    have hlt : i < many := by simpa using hlt
    have hd : d = .int (i : Int) := by simpa using hd.symm
    subst hd
    simp [p5]
    have hp : (0 : Int) < (cs.length : Int) := by omega
    have hat : ∃ j : Nat, j < cs.length ∧ (i : Int) % (cs.length : Int) = (j : Int) := ⟨i % cs.length, Nat.mod_lt _ h0, by simp⟩
    obtain ⟨j, hj, ej⟩ := hat
    have hj2 : j < rs.length := by omega
    refine rn_seq (rn_setP (ev_lift ?_))
    simp [modD_int hp, ej, p6]
    have dl : ds.length < lim := by
      have : (100000 : Nat) < lim := by decide
      omega
    have tst : andP (tstP (pu2 geD (pu2 ixD (vB 2) (vP 6)) (pu2 powD (cC (.int 10)) (cC (.int 18))))) (tstP (pu2 gtD (pu2 ixD (vB 3) (vP 6)) (cC (.int 0)))) [.p (.list (ns.map .int)), .p (.int many), .o (.list (cs.map .int)), .o (.list (rs.map .int)), .o (.list (ds.map .int)), .p (.int i), .p (.int j), .un, s8] = some (decide (1000000000000000000 ≤ cs.getD j 0) && decide (0 < rs.getD j 0)) := by
      simp only [andP_eq, tstP_eq, pu2_eq, vB_succ, vB_zeroO, vP_succ, vP_zero, cC_eq, Option.bind_some, ixD_list, atI_int hj, atI_int hj2, big18, geD_int, gtD_int, blOf_bool]
      cases decide (1000000000000000000 ≤ cs.getD j 0) <;> rfl
    refine rn_if (te_lift ⟨_, tst, fun _ => ?_, fun _ => ?_⟩)
    · refine rn_seq (rn_ex (ev_mut ?_))
      simp
      refine aw_lift ?_
      simp [atI_int hj2, modD_int (i := rs[j]?.getD 0) (j := 1000) (by decide), gAppend, dl]
      refine rn_store (ev_lift ?_)
      simp [atI_int hj2, divD_int (divOk_small (i := rs[j]?.getD 0) (j := 1000) (by decide) (by decide))]
      refine ev_lift ?_
      simp [ixN_nat (n := rs.length) (i := j) (by omega)]
      refine ⟨rs.set j (rs[j]?.getD 0 / 1000), ds ++ [rs[j]?.getD 0 % 1000], _, _, _, ⟨by simp [List.map_set], by simp, rfl, rfl, rfl⟩, by simpa using e1, by simpa using e2, rfl, rfl, p8⟩
    · have m1 : ∀ x : Int, mulD (.int x) (.int 48271) = some (.int (x * 48271)) := fun x => mulD_int (mulOk_r (by decide) (by decide))
      have m2 : ∀ x : Int, mulD (.int x) (.int 69621) = some (.int (x * 69621)) := fun x => mulD_int (mulOk_r (by decide) (by decide))
      have m3 : ∀ x : Int, mulD (.int 3) (.int x) = some (.int (3 * x)) := fun x => mulD_int (mulOk_l (by decide) (by decide))
      have m4 : ∀ x : Int, modD (.int x) (.int 2147483647) = some (.int (x % 2147483647)) := fun x => modD_int (by decide)
      have m5 : ∀ x : Int, modD (.int x) (.int 1000003) = some (.int (x % 1000003)) := fun x => modD_int (by decide)
      have m6 : ∀ x : Int, mulD (.int (x % 2147483647)) (.int (x % 2147483647)) = some (.int (x % 2147483647 * (x % 2147483647))) := fun x => mulD_int (mulOk_l (by omega) (by omega))
      refine rn_seq (rn_setP (ev_lift ?_))
      simp [atI_int hj, m1, m2, m4, p8]
      refine rn_ex (ev_mut ?_)
      simp
      refine aw_lift ?_
      simp [m3, m5, m6, gAppend, dl]
      refine ⟨rs, ds ++ [_], _, _, _, ⟨rfl, (List.map_append (f := PyData.int) (l₁ := ds) (l₂ := [_])).symm, rfl, rfl, rfl⟩, e1, ?_, rfl, rfl, rfl⟩
      simpa using e2
  · rintro ρ ⟨rs, ds, s5, s6, s8, rfl, e1, e2, p5, p6, p8⟩
    simp
    refine rn_seq (rn_ex (ev_mut ?_))
    simp
    refine aw_lift ?_
    simp [gReverse]
    refine rn_rtO ?_
    simp
    exact ⟨ds.reverse, by simp⟩
theorem cm_cell {c : D} {ns : List Int} {Q : D → D → Prop} (hc : Dr c) (h : ∀ v c', -(10 ^ 60) < v → v < 10 ^ 60 → Dr c' → Q (.int v) c') : Cm m_Lcell c [.list (ns.map .int)] Q := by
  refine fnM_go [.p (.list (ns.map .int)), .m c, .un] rfl ?_
  by_cases hn : ns = []
  · subst hn
    refine rn_seq (rn_if (te_lift ?_))
    simp
    refine rn_rt (ev_lift ?_)
    simp
    exact h 0 c (by decide) (by decide) hc
  · have hp : 0 < ns.length := by
      cases ns with
      | nil => exact absurd rfl hn
      | cons _ _ => simp
    refine rn_seq (rn_if (te_lift ?_))
    simp
    refine ⟨fun z => absurd z hn, fun _ => rn_nx ?_⟩
    simp
    refine rn_seq (rn_setP (ev_seqA (aw_cons (ev_seq2 (ev_lift ?_)))))
    simp
    refine ev_callM ?_
    simp
    refine aw_lift ?_
    simp
    refine cm_take hc (by omega) fun v c' h0 h1 hc' => ?_
    obtain ⟨j, rfl⟩ : ∃ j : Nat, v = (j : Int) := ⟨v.toNat, by omega⟩
    have hj : j < ns.length := by omega
    simp [atI_int hj]
    refine aw_lift ?_
    simp
    generalize ns[j]?.getD 0 = x
    have e1 : ∀ y : Int, modD (.int y) (.int (10 ^ 60)) = some (.int (y % 10 ^ 60)) := fun y => modD_int (by decide)
    have a1 := Int.emod_nonneg (if x < 0 then -x else x) (b := 10 ^ 60) (by decide)
    have a2 := Int.emod_lt_of_pos (if x < 0 then -x else x) (b := 10 ^ 60) (by decide)
    have fin : ∀ s : Int, s = 1 ∨ s = -1 → Q (.int ((if x < 0 then -x else x) % 10 ^ 60 * s)) c' := fun s hs => by
      refine h _ _ ?_ ?_ hc' <;> rcases hs with rfl | rfl <;> omega
    refine rn_rt (ev_lift ?_)
    simp only [pu2_eq, puA_eq, aC_eq, aN_eq, vP_succ, vP_zero, cC_eq, Option.bind_some, Option.map_some, on1_one, absD_int, big60, e1, mkLP_eq, pu1_eq, negD_int, ltD_int, intD_bool]
    by_cases hx : x < 0
    · rw [if_pos hx] at fin
      have e2 : mulD (.int (-x % 10 ^ 60)) (.int (-1)) = some (.int (-x % 10 ^ 60 * -1)) := mulD_int (mulOk_r (by decide) (by decide))
      have e3 : atI [PyData.int 1, PyData.int (-1)] 1 = some (.int (-1)) := rfl
      simp only [hx, if_true, decide_true, ixD_list, e3, Option.bind_some, e2]
      exact ⟨_, rfl, by simpa using fin (-1) (.inr rfl)⟩
    · rw [if_neg hx] at fin
      have e2 : mulD (.int (x % 10 ^ 60)) (.int 1) = some (.int (x % 10 ^ 60 * 1)) := mulD_int (mulOk_r (by decide) (by decide))
      have e3 : atI [PyData.int 1, PyData.int (-1)] 0 = some (.int 1) := rfl
      simp only [hx, if_false, decide_false, Bool.false_eq_true, ixD_list, e3, Option.bind_some, e2]
      exact ⟨_, rfl, by simpa using fin 1 (.inl rfl)⟩
def smOk : Nat → D → Bool
  | _, .none => true
  | _, .bool _ => true
  | _, .int _ => true
  | _, .str _ => true
  | n + 1, .tuple xs => Nat.ble xs.length 1000000 && xs.all (smOk n)
  | _, _ => false
@[simp] theorem isi_none {T : Ty4} : isiD T .none = some (.bool false) := rfl
@[simp] theorem isi_bo {b : Bool} : isiD .bo (.bool b) = some (.bool true) := rfl
@[simp] theorem isi_bi {b : Bool} : isiD .it (.bool b) = some (.bool true) := rfl
@[simp] theorem isi_ib {i : Int} : isiD .bo (.int i) = some (.bool false) := rfl
@[simp] theorem isi_ii {i : Int} : isiD .it (.int i) = some (.bool true) := rfl
@[simp] theorem isi_is {i : Int} : isiD .st (.int i) = some (.bool false) := rfl
@[simp] theorem isi_it {i : Int} : isiD .tu (.int i) = some (.bool false) := rfl
@[simp] theorem isi_sb {i : Str} : isiD .bo (.str i) = some (.bool false) := rfl
@[simp] theorem isi_si {i : Str} : isiD .it (.str i) = some (.bool false) := rfl
@[simp] theorem isi_ss {i : Str} : isiD .st (.str i) = some (.bool true) := rfl
@[simp] theorem isi_st {i : Str} : isiD .tu (.str i) = some (.bool false) := rfl
@[simp] theorem isi_tb {i : List D} : isiD .bo (.tuple i) = some (.bool false) := rfl
@[simp] theorem isi_ti {i : List D} : isiD .it (.tuple i) = some (.bool false) := rfl
@[simp] theorem isi_ts {i : List D} : isiD .st (.tuple i) = some (.bool false) := rfl
@[simp] theorem isi_tt {i : List D} : isiD .tu (.tuple i) = some (.bool true) := rfl
@[simp] theorem isN_int {i : Int} : isN (.int i) .none = some (.bool false) := rfl
@[simp] theorem isN_str {i : Str} : isN (.str i) .none = some (.bool false) := rfl
@[simp] theorem isN_tup {i : List D} : isN (.tuple i) .none = some (.bool false) := rfl
@[simp] theorem isN_bool {i : Bool} : isN (.bool i) .none = some (.bool false) := rfl
@[simp] theorem isN_none : isN .none .none = some (.bool true) := rfl
@[simp] theorem isNN_int {i : Int} : isNN (.int i) .none = some (.bool true) := rfl
@[simp] theorem isNN_str {i : Str} : isNN (.str i) .none = some (.bool true) := rfl
@[simp] theorem isNN_tup {i : List D} : isNN (.tuple i) .none = some (.bool true) := rfl
@[simp] theorem isNN_bool {i : Bool} : isNN (.bool i) .none = some (.bool true) := rfl
@[simp] theorem isNN_none : isNN .none .none = some (.bool false) := rfl
@[simp] theorem eqD_str {x y : Str} : eqD (.str x) (.str y) = some (.bool (decide (x = y))) := by
  simp only [eqD, dOk_str, Bool.and_self, if_true, PyData.eqv]
  rfl
@[simp] theorem neD_str {x y : Str} : neD (.str x) (.str y) = some (.bool (!decide (x = y))) := by
  simp only [neD, dOk_str, Bool.and_self, if_true, PyData.eqv]
  rfl
@[simp] theorem eqD_bool {x y : Bool} : eqD (.bool x) (.bool y) = some (.bool (decide (x = y))) := by
  simp only [eqD, dOk_bool, Bool.and_self, if_true, PyData.eqv]
  cases x <;> cases y <;> rfl
theorem same_refl : ∀ (n : Nat) (d : D), smOk n d = true → m_Lsame (n + 1) [d, d] = some (.bool true) := by
  intro n
  induction n with
  | zero =>
    intro d h
    cases d with
    | none => simp [m_Lsame, b_Lsame]
    | bool b => simp [m_Lsame, b_Lsame]
    | int i => simp [m_Lsame, b_Lsame]
    | str i => simp [m_Lsame, b_Lsame]
    | _ => cases h
  | succ n ih =>
    intro d h
    cases d with
    | none => simp [m_Lsame, b_Lsame]
    | bool b => simp [m_Lsame, b_Lsame]
    | int i => simp [m_Lsame, b_Lsame]
    | str i => simp [m_Lsame, b_Lsame]
    | tuple xs =>
      have h' : (Nat.ble xs.length 1000000 && xs.all (smOk n)) = true := h
      rw [Bool.and_eq_true, Nat.ble_eq, List.all_eq_true] at h'
      obtain ⟨h1, h2⟩ := h'
      refine fnP_go [.p (.tuple xs), .p (.tuple xs), .un] rfl ?_
      refine rn_seq (rn_if (te_lift ?_))
      simp
      refine rn_nx ?_
      simp
      refine rn_seq (rn_if (te_lift ?_))
      simp
      refine rn_nx ?_
      simp
      refine rn_seq (rn_if (te_lift ?_))
      simp
      refine rn_nx ?_
      simp
      refine rn_seq (rn_if (te_lift ?_))
      simp
      refine rn_nx ?_
      simp
      refine rn_seq (rn_if (te_lift ?_))
      simp
      refine rn_nx ?_
      simp
      refine rn_seq (rn_for (aw_lift ?_))
      simp [rng_one (n := xs.length) (by omega)]
      refine rn_forS _ (fun i ρ => ∃ s : Sl, ρ = [.p (.tuple xs), .p (.tuple xs), s] ∧ s.pl = true) _ ⟨.un, rfl, rfl⟩ ?_ ?_
      · rintro i d ρ hi ⟨s, rfl, hs⟩
        obtain ⟨hlt, hd⟩ := List.getElem?_eq_some_iff.mp hi
        have hlt : i < xs.length := by simpa using hlt
        have hd : d = .int (i : Int) := by simpa using hd.symm
        subst hd
        simp [hs]
        refine rn_if (te_lift ?_)
        simp [atI_nat hlt, ih _ (h2 _ (List.getElem_mem hlt))]
        refine rn_nx ?_
        simp
      · rintro ρ ⟨s, rfl, hs⟩
        simp
        refine rn_rt (ev_lift ?_)
        simp
    | _ => cases h
end DL
namespace K81
open PySem DL PyProof.Rows L2
def up (n b : Int) : Int := -(-n / b)
theorem m_up {n b : Int} (h : divOk (-n) b = true) : m_rounded_up [.int n, .int b] = some (.int (up n b)) := by
  simp [m_rounded_up, b_rounded_up, divD_int h, up]
theorem m_part {n b : Int} (h : divOk (-(n * 60)) b = true) : m_minutes_of_part [.int n, .int b] = some (.int (up (n * 60) b)) := by
  simp [m_minutes_of_part, b_minutes_of_part, mulD_int (mulOk_r (i := n) (j := 60) (by decide) (by decide)), m_up h]
def need (ps : List Int) (b : Int) : Int := sumI (ps.map fun n => up (n * 60) b)
abbrev tupI (ns : List Int) : D := .tuple (ns.map .int)
theorem m_need {ps : List Int} {b : Int} (hl : ps.length ≤ lim) (h : ∀ i, divOk i b = true) : m_minutes_needed [tupI ps, .int b] = some (.int (need ps b)) := by
  have z := compPE_all (it := puI (vP 0)) (g := setP 2) (e := puA m_minutes_of_part (aC (vP 2) (aC (vP 1) aN))) (vs := [2]) (ρ := [.p (tupI ps), .p (.int b), .un]) (fun n : Int => .int n) (fun n => .int (up (n * 60) b)) ps (by simp) (by simp) hl fun x hx => ⟨_, rfl, by simp [m_part (h _)]⟩
  have e : (ps.map fun n => PyData.int (up (n * 60) b)) = (ps.map fun n => up (n * 60) b).map .int := by rw [List.map_map]; rfl
  simp [-List.map_map, m_minutes_needed, b_minutes_needed, z, e, sumD_list, need]
def shares (m : Nat) : Nat → List (List Int)
  | 0 => [[]]
  | n + 1 => (shares m n).flatMap fun r => (List.range m).map fun k => r ++ [((k : Nat) : Int)]
theorem shares_len (m : Nat) : ∀ n r, r ∈ shares m n → r.length = n
  | 0, r, h => by simp [shares] at h; simp [h]
  | n + 1, r, h => by
    simp only [shares, List.mem_flatMap, List.mem_map, List.mem_range] at h
    obtain ⟨q, hq, k, _, rfl⟩ := h
    simp [shares_len m n q hq]
theorem shares_count (m : Nat) : ∀ n, (shares m n).length = m ^ n
  | 0 => rfl
  | n + 1 => by
    simp only [shares, List.length_flatMap, List.length_map, List.length_range]
    rw [List.map_const', List.sum_replicate_nat, shares_count m n, Nat.pow_succ]
def rowsD (rs : List (List Int)) : D := .list (rs.map tupI)
theorem row_step {r : List Int} {k : Int} (h : r.length ≤ 100) : addD (tupI r) (.tuple [.int k]) = some (tupI (r ++ [k])) := by
  rw [addD_tup (by simp; omega)]
  simp
theorem m_shares {n m : Nat} (hn : n ≤ 8) (hm : m ≤ 4) : m_all_shares [.int n, .int m] = some (rowsD (shares m n)) := by
  refine fnP_go [.p (.int n), .p (.int m), .un, .un, .un, .un] rfl ?_
  refine rn_seq (rn_setP (ev_lift ?_))
  simp
  refine rn_seq (rn_for (aw_lift ?_))
  simp [rng_one (n := n) (by omega)]
  refine rn_forS _ (fun i ρ => ∃ s, ρ = [.p (.int n), .p (.int m), .p (rowsD (shares m i)), s, .un, .un] ∧ s.pl = true) _ ⟨.un, rfl, rfl⟩ ?_ ?_
  · rintro i d ρ hi ⟨s, rfl, hs⟩
    have hlt : i < n := by
      have := List.getElem?_eq_some_iff.mp hi
      obtain ⟨h, _⟩ := this
      simpa using h
    simp [hs]
    refine rn_setP (ev_lift ⟨_, compPE2_map (α := List Int) tupI (fun r => (List.range m).map fun k => tupI (r ++ [((k : Nat) : Int)])) (shares m i) (by simp [rowsD]) (by simp) ?_ fun r hr => ⟨_, (List.range m).map fun k => .int ((k : Nat) : Int), rfl, rfl, ?_, ?_⟩, ?_⟩)
    · have e : ((shares m i).flatMap fun r => (List.range m).map fun k => tupI (r ++ [((k : Nat) : Int)])).length = m ^ (i + 1) := by
        rw [List.length_flatMap]
        simp only [List.length_map, List.length_range]
        rw [List.map_const', List.sum_replicate_nat, shares_count m i, Nat.pow_succ]
      rw [e]
      have h1 : m ^ (i + 1) ≤ 4 ^ (i + 1) := Nat.pow_le_pow_left hm _
      have h2 : 4 ^ (i + 1) ≤ 4 ^ 8 := Nat.pow_le_pow_right (by decide) (by omega)
      have h3 : (4 : Nat) ^ 8 ≤ lim := by decide
      omega
    · simp [rng_one (n := m) (by omega)]
    · have z := compPs_map (g := setP 5) (p := tsN) (e := pu2 addD (vP 4) (mkTP (aC (vP 5) aN))) (ρ := [.p (.int n), .p (.int m), .p (rowsD (shares m i)), .p d, .p (tupI r), .un]) (fun k : Nat => PyData.int (k : Int)) (fun _ => true) (fun k => tupI (r ++ [((k : Nat) : Int)])) (List.range m) fun k hk => ⟨_, rfl, rfl, fun _ => ?_⟩
      · rw [List.filter_eq_self.mpr fun _ _ => rfl] at z
        exact z
      · have := shares_len m i r hr
        simp [row_step (r := r) (k := (k : Int)) (by omega)]
    · simp
      refine ⟨.p d, ?_, rfl⟩
      simp [rowsD, shares, List.map_flatMap]
      rfl
  · rintro ρ ⟨s, rfl, hs⟩
    simp
    exact rn_of (by simp; rfl) (by simp)
/-! pages of a maker -/
def load (ps row : List Int) (k : Int) : Int := sumI (((List.range ps.length).filter fun i => decide (row.getD i 0 = k)).map fun i => ps.getD i 0)
theorem m_load {ps row : List Int} {k : Int} (hl : ps.length ≤ 1000) (hr : row.length = ps.length) : m_pages_of_maker [tupI ps, tupI row, .int k] = some (.int (load ps row k)) := by
  have z := compPE_map (it := puR (aC (puA (on1 lenD) (aC (vP 0) aN)) aN)) (g := setP 3) (p := tstP (pu2 eqD (pu2 ixD (vP 1) (vP 3)) (vP 2))) (e := pu2 ixD (vP 0) (vP 3)) (vs := [3]) (ρ := [.p (tupI ps), .p (tupI row), .p (.int k), .un])
    (fun i : Nat => .int (i : Int)) (fun i => decide (row.getD i 0 = k)) (fun i => .int (ps.getD i 0)) (List.range ps.length) (by simp [rng_one (n := ps.length) (by omega)]) (by simp) (by simp [lim]; omega) fun i hi => ⟨_, rfl, ?_, fun _ => ?_⟩
  · have e : (((List.range ps.length).filter fun i => decide (row.getD i 0 = k)).map fun i => PyData.int (ps.getD i 0)) = (((List.range ps.length).filter fun i => decide (row.getD i 0 = k)).map fun i => ps.getD i 0).map .int := by rw [List.map_map]; rfl
    rw [e] at z
    simp [-List.map_map, m_pages_of_maker, b_pages_of_maker, z, sumD_list, load]
  · have hi : i < row.length := by rw [hr]; simpa using hi
    simp [atI_int hi]
  · have hi : i < ps.length := by simpa using hi
    simp [atI_int hi]
theorem intsAlike : ∀ ns : List Int, allAlike (ns.map .int) = true := fun ns => by
  unfold allAlike
  simp [List.all_eq_true, PySem.W.alike]
theorem plain_ints : ∀ ns : List Int, PyData.plainAll (ns.map .int) = true
  | [] => by simp [PyData.plainAll]
  | n :: ns => by
    show PyData.plainAll (.int n :: ns.map .int) = true
    rw [PyData.plainAll, plain_ints ns]
    simp [PyData.plain]
theorem bestOk_ints (ns : List Int) : bestOk (ns.map .int) = true := by
  unfold bestOk plOk
  rw [intsAlike, plain_ints, PySem.W.depth_ints]
  simp [notN]
def maxI : List Int → Int
  | [] => 0
  | n :: ns => ns.foldl max n
def minI : List Int → Int
  | [] => 0
  | n :: ns => ns.foldl min n
theorem maxL_list {ns : List Int} (h : ns ≠ []) : maxL (.list (ns.map .int)) = some (.int (maxI ns)) := by
  cases ns with
  | nil => exact absurd rfl h
  | cons n ns =>
    show (if bestOk ((n :: ns).map .int) = true then some (PySem.W.maxD (.int n) (ns.map .int)) else none) = _
    rw [if_pos (bestOk_ints _), PySem.W.maxD_ints]
    rfl
theorem maxL_tup {ns : List Int} (h : ns ≠ []) : maxL (.tuple (ns.map .int)) = some (.int (maxI ns)) := by
  cases ns with
  | nil => exact absurd rfl h
  | cons n ns =>
    show (if bestOk ((n :: ns).map .int) = true then some (PySem.W.maxD (.int n) (ns.map .int)) else none) = _
    rw [if_pos (bestOk_ints _), PySem.W.maxD_ints]
    rfl
theorem minL_list {ns : List Int} (h : ns ≠ []) : minL (.list (ns.map .int)) = some (.int (minI ns)) := by
  cases ns with
  | nil => exact absurd rfl h
  | cons n ns =>
    show (if bestOk ((n :: ns).map .int) = true then some (PySem.W.minD (.int n) (ns.map .int)) else none) = _
    rw [if_pos (bestOk_ints _), PySem.W.minD_ints]
    rfl
def loads (ps row : List Int) (m : Nat) : List Int := (List.range m).map fun k => load ps row ((k : Nat) : Int)
def great (ps row : List Int) (m : Nat) : Int := maxI (loads ps row m)
theorem m_great {ps row : List Int} {m : Nat} (hl : ps.length ≤ 1000) (hr : row.length = ps.length) (h0 : 0 < m) (hm : m ≤ 1000) : m_greatest_share [tupI ps, tupI row, .int m] = some (.int (great ps row m)) := by
  have z := compPE_all (it := puR (aC (vP 2) aN)) (g := setP 3) (e := puA m_pages_of_maker (aC (vP 0) (aC (vP 1) (aC (vP 3) aN)))) (vs := [3]) (ρ := [.p (tupI ps), .p (tupI row), .p (.int m), .un])
    (fun i : Nat => .int (i : Int)) (fun k => .int (load ps row ((k : Nat) : Int))) (List.range m) (by simp [rng_one (n := m) (by omega)]) (by simp) (by simp [lim]; omega) fun k hk => ⟨_, rfl, by simp [m_load hl hr]⟩
  have e : ((List.range m).map fun k => PyData.int (load ps row ((k : Nat) : Int))) = (loads ps row m).map .int := by unfold loads; rw [List.map_map]; rfl
  rw [e] at z
  have hne : loads ps row m ≠ [] := by
    unfold loads
    intro h
    have := congrArg List.length h
    simp at this
    omega
  simp [-List.map_map, m_greatest_share, b_greatest_share, z, maxL_list hne, great]
def best (ps : List Int) (m : Nat) : Int := minI ((shares m ps.length).map fun r => great ps r m)
theorem shares_ne {m : Nat} (h : 0 < m) (n : Nat) : shares m n ≠ [] := fun e => by
  have := shares_count m n
  rw [e] at this
  have h2 : 0 < m ^ n := Nat.pow_pos h
  simp at this
  omega
theorem m_best {ps : List Int} {m : Nat} (hl : ps.length ≤ 8) (h0 : 0 < m) (hm : m ≤ 4) : m_shared_parts [tupI ps, .int m] = some (.int (best ps m)) := by
  have hc : (shares m ps.length).length ≤ lim := by
    rw [shares_count]
    have h1 : m ^ ps.length ≤ 4 ^ ps.length := Nat.pow_le_pow_left hm _
    have h2 : 4 ^ ps.length ≤ 4 ^ 8 := Nat.pow_le_pow_right (by decide) hl
    have h3 : (4 : Nat) ^ 8 ≤ lim := by decide
    omega
  have z := compPE_all (it := puI (puA m_all_shares (aC (puA (on1 lenD) (aC (vP 0) aN)) (aC (vP 1) aN)))) (g := setP 2) (e := puA m_greatest_share (aC (vP 0) (aC (vP 2) (aC (vP 1) aN)))) (vs := [2]) (ρ := [.p (tupI ps), .p (.int m), .un])
    tupI (fun r => .int (great ps r m)) (shares m ps.length) (by simp [m_shares hl hm, rowsD]) (by simp) hc fun r hr => ⟨_, rfl, by simp [m_great (ps := ps) (row := r) (by omega) (shares_len m _ r hr) h0 (by omega)]⟩
  have e : ((shares m ps.length).map fun r => PyData.int (great ps r m)) = ((shares m ps.length).map fun r => great ps r m).map .int := by rw [List.map_map]; rfl
  rw [e] at z
  have hne : ((shares m ps.length).map fun r => great ps r m) ≠ [] := by simpa using shares_ne h0 _
  simp [-List.map_map, m_shared_parts, b_shared_parts, z, minL_list hne, best]
def told (ps : List Int) (m : Nat) : List Int := (((shares m ps.length).filter fun r => decide (great ps r m = best ps m)).head?).getD []
theorem fold_min_mem (ns : List Int) : ∀ n, ns.foldl min n ∈ n :: ns := by
  induction ns with
  | nil => intro n; exact List.mem_cons_self
  | cons k ns ih =>
    intro n
    rw [List.foldl_cons]
    rcases List.mem_cons.mp (ih (min n k)) with h | h
    · rw [h]
      by_cases c : n ≤ k
      · rw [show min n k = n by omega]; exact List.mem_cons_self
      · rw [show min n k = k by omega]; exact List.mem_cons_of_mem _ List.mem_cons_self
    · exact List.mem_cons_of_mem _ (List.mem_cons_of_mem _ h)
theorem fold_max_mem (ns : List Int) : ∀ n, ns.foldl max n ∈ n :: ns := by
  induction ns with
  | nil => intro n; exact List.mem_cons_self
  | cons k ns ih =>
    intro n
    rw [List.foldl_cons]
    rcases List.mem_cons.mp (ih (max n k)) with h | h
    · rw [h]
      by_cases c : k ≤ n
      · rw [show max n k = n by omega]; exact List.mem_cons_self
      · rw [show max n k = k by omega]; exact List.mem_cons_of_mem _ List.mem_cons_self
    · exact List.mem_cons_of_mem _ (List.mem_cons_of_mem _ h)
theorem minI_mem {ns : List Int} (h : ns ≠ []) : minI ns ∈ ns := by
  cases ns with
  | nil => exact absurd rfl h
  | cons n ns => exact fold_min_mem ns n
theorem maxI_mem {ns : List Int} (h : ns ≠ []) : maxI ns ∈ ns := by
  cases ns with
  | nil => exact absurd rfl h
  | cons n ns => exact fold_max_mem ns n
theorem fold_min_le (ns : List Int) : ∀ n, ns.foldl min n ≤ n ∧ ∀ k ∈ ns, ns.foldl min n ≤ k := by
  induction ns with
  | nil => intro n; exact ⟨Int.le_refl _, fun k h => absurd h (by simp)⟩
  | cons a ns ih =>
    intro n
    rw [List.foldl_cons]
    obtain ⟨h1, h2⟩ := ih (min n a)
    refine ⟨by omega, fun k hk => ?_⟩
    rcases List.mem_cons.mp hk with rfl | hk
    · omega
    · exact h2 k hk
theorem fold_max_ge (ns : List Int) : ∀ n, n ≤ ns.foldl max n ∧ ∀ k ∈ ns, k ≤ ns.foldl max n := by
  induction ns with
  | nil => intro n; exact ⟨Int.le_refl _, fun k h => absurd h (by simp)⟩
  | cons a ns ih =>
    intro n
    rw [List.foldl_cons]
    obtain ⟨h1, h2⟩ := ih (max n a)
    refine ⟨by omega, fun k hk => ?_⟩
    rcases List.mem_cons.mp hk with rfl | hk
    · omega
    · exact h2 k hk
theorem minI_le {ns : List Int} {k : Int} (h : k ∈ ns) : minI ns ≤ k := by
  cases ns with
  | nil => cases h
  | cons n ns =>
    rcases List.mem_cons.mp h with rfl | h
    · exact (fold_min_le ns _).1
    · exact (fold_min_le ns n).2 k h
theorem maxI_ge {ns : List Int} {k : Int} (h : k ∈ ns) : k ≤ maxI ns := by
  cases ns with
  | nil => cases h
  | cons n ns =>
    rcases List.mem_cons.mp h with rfl | h
    · exact (fold_max_ge ns _).1
    · exact (fold_max_ge ns n).2 k h
theorem best_hit {ps : List Int} {m : Nat} (h0 : 0 < m) : ∃ r ∈ shares m ps.length, great ps r m = best ps m := by
  have := minI_mem (ns := (shares m ps.length).map fun r => great ps r m) (by simpa using shares_ne h0 _)
  obtain ⟨r, hr, e⟩ := List.mem_map.mp this
  exact ⟨r, hr, e⟩
theorem m_told {ps : List Int} {m : Nat} (hl : ps.length ≤ 8) (h0 : 0 < m) (hm : m ≤ 4) : m_told_shares [tupI ps, .int m] = some (tupI (told ps m)) := by
  have hc : (shares m ps.length).length ≤ lim := by
    rw [shares_count]
    have h1 : m ^ ps.length ≤ 4 ^ ps.length := Nat.pow_le_pow_left hm _
    have h2 : 4 ^ ps.length ≤ 4 ^ 8 := Nat.pow_le_pow_right (by decide) hl
    have h3 : (4 : Nat) ^ 8 ≤ lim := by decide
    omega
  have z := compPE_map (it := puI (puA m_all_shares (aC (puA (on1 lenD) (aC (vP 0) aN)) (aC (vP 1) aN)))) (g := setP 3) (p := tstP (pu2 eqD (puA m_greatest_share (aC (vP 0) (aC (vP 3) (aC (vP 1) aN)))) (vP 2))) (e := vP 3) (vs := [3]) (ρ := [.p (tupI ps), .p (.int m), .p (.int (best ps m)), .un])
    tupI (fun r => decide (great ps r m = best ps m)) tupI (shares m ps.length) (by simp [m_shares hl hm, rowsD]) (by simp) hc fun r hr => ⟨_, rfl, by simp [m_great (ps := ps) (row := r) (by omega) (shares_len m _ r hr) h0 (by omega)], fun _ => by simp⟩
  obtain ⟨r, hr, er⟩ := best_hit (ps := ps) h0
  have hm2 : r ∈ (shares m ps.length).filter fun r => decide (great ps r m = best ps m) := List.mem_filter.mpr ⟨hr, decide_eq_true er⟩
  cases hf : (shares m ps.length).filter fun r => decide (great ps r m = best ps m) with
  | nil => rw [hf] at hm2; cases hm2
  | cons a l =>
    rw [hf] at z
    have ea : atI ((a :: l).map tupI) 0 = some (tupI a) := atI_nat (n := 0) (by simp)
    simp only [List.map_cons] at z ea
    simp [m_told_shares, b_told_shares, m_best hl h0 hm, z, ea, told, hf]
end K81
namespace K81
open PySem DL PyProof.Rows L2
theorem take_eq : m__law_take = m_Ltake := rfl
theorem draws_eq : m__law_draws = m_Ldraws := rfl
theorem cell_eq : m__law_cell = m_Lcell := rfl
theorem same_eq : ∀ n, m__law_same n = m_Lsame n
  | 0 => rfl
  | n + 1 => by
    show fnP 3 (b__law_same (m__law_same n)) = fnP 3 (b_Lsame (m_Lsame n))
    rw [same_eq n]
    rfl
theorem getD_app {a b : List Int} {i : Nat} (h : i < a.length) : (a ++ b).getD i 0 = a.getD i 0 := by simp [List.getD, List.getElem?_append_left h]
theorem flatMap_cong {α β : Type} {f g : α → List β} {l : List α} (h : ∀ x ∈ l, f x = g x) : l.flatMap f = l.flatMap g := by
  induction l with
  | nil => rfl
  | cons x l ih => rw [List.flatMap_cons, List.flatMap_cons, h x List.mem_cons_self, ih fun y hy => h y (List.mem_cons_of_mem _ hy)]
/-! ## the loads, a part more -/
theorem sumI_app (a b : List Int) : sumI (a ++ b) = sumI a + sumI b := by
  induction a with
  | nil => show sumI b = 0 + sumI b; omega
  | cons x a ih =>
    show x + sumI (a ++ b) = (x + sumI a) + sumI b
    rw [ih]
    omega
theorem load_snoc {ps r : List Int} {p k j : Int} (h : r.length = ps.length) : load (ps ++ [p]) (r ++ [k]) j = load ps r j + if k = j then p else 0 := by
  unfold load
  rw [List.length_append, List.length_singleton, List.range_succ, List.filter_append, List.map_append, sumI_app]
  have e1 : ((List.range ps.length).filter fun i => decide ((r ++ [k]).getD i 0 = j)) = (List.range ps.length).filter fun i => decide (r.getD i 0 = j) := by
    apply List.filter_congr
    intro i hi
    have hi : i < r.length := by rw [h]; simpa using hi
    rw [getD_app hi]
  have e2 : ∀ l : List Nat, (∀ i ∈ l, i < ps.length) → (l.map fun i => (ps ++ [p]).getD i 0) = l.map fun i => ps.getD i 0 := fun l hl => List.map_congr_left fun i hi => getD_app (hl i hi)
  rw [e1, e2 _ fun i hi => by simpa using (List.mem_filter.mp hi).1]
  have g1 : (r ++ [k]).getD ps.length 0 = k := by rw [← h]; simp [List.getD]
  have g2 : (ps ++ [p]).getD ps.length 0 = p := by simp [List.getD]
  congr 1
  by_cases c : k = j
  · rw [List.filter_cons_of_pos (by simp only [g1]; exact decide_eq_true c), if_pos c]
    show (ps ++ [p]).getD ps.length 0 + 0 = p
    omega
  · rw [List.filter_cons_of_neg (by simp only [g1]; simpa using c), if_neg c]
    rfl
theorem loads_len {ps r : List Int} {m : Nat} : (loads ps r m).length = m := by simp [loads]
theorem loads_get {ps r : List Int} {m k : Nat} (h : k < m) : (loads ps r m)[k]? = some (load ps r k) := by
  unfold loads
  rw [List.getElem?_map, List.getElem?_range h]
  rfl
theorem loads_snoc {ps r : List Int} {p : Int} {k m : Nat} (h : r.length = ps.length) : loads (ps ++ [p]) (r ++ [((k : Nat) : Int)]) m = (loads ps r m).set k (load ps r k + p) := by
  apply List.ext_getElem?
  intro j
  by_cases hj : j < m
  · rw [loads_get hj, load_snoc h]
    by_cases c : k = j
    · subst c
      rw [List.getElem?_set_self (by rw [loads_len]; exact hj), if_pos rfl]
    · rw [List.getElem?_set_ne c, loads_get hj, if_neg (by omega)]
      congr 1
      omega
  · rw [List.getElem?_eq_none (by rw [loads_len]; omega), List.getElem?_eq_none (by rw [List.length_set, loads_len]; omega)]
def pairD (x : List Int × List Int) : D := .tuple [tupI x.1, tupI x.2]
def lrows (ps : List Int) (m : Nat) : List (List Int × List Int) := (shares m ps.length).map fun r => (r, loads ps r m)
theorem lrows_snoc (ps : List Int) (p : Int) (m : Nat) : lrows (ps ++ [p]) m = (lrows ps m).flatMap fun x => (List.range m).map fun k => (x.1 ++ [((k : Nat) : Int)], x.2.set k (x.2.getD k 0 + p)) := by
  unfold lrows
  rw [List.length_append, List.length_singleton]
  show ((shares m ps.length).flatMap _).map _ = _
  rw [List.map_flatMap, List.flatMap_map]
  refine flatMap_cong fun r hr => ?_
  have hl := shares_len m _ r hr
  rw [List.map_map]
  apply List.map_congr_left
  intro k hk
  have hk : k < m := by simpa using hk
  show (r ++ [((k : Nat) : Int)], loads (ps ++ [p]) (r ++ [((k : Nat) : Int)]) m) = _
  rw [loads_snoc hl]
  have : (loads ps r m).getD k 0 = load ps r k := by simp [List.getD, loads_get hk]
  rw [this]
theorem m_lup {n b : Int} (h : divOk (n + b - 1) b = true) : m__law_up [.int n, .int b] = some (.int ((n + b - 1) / b)) := by
  simp [m__law_up, b__law_up, divD_int h]
/-- sums[:k] + (sums[k] + p,) + sums[k + 1:] -/
theorem cut_set {l : List Int} {k : Nat} (h : k < l.length) (x : Int) : l.set k x = l.take k ++ x :: l.drop (k + 1) := by
  rw [List.set_eq_take_append_cons_drop, if_pos h]
theorem cut_to {α : Type} (l : List α) {k : Nat} (h : k ≤ l.length) : DL.cutD l none (some (k : Int)) = l.take k := by
  unfold DL.cutD
  rw [HT.sIx_none, HT.sIx_nat, Nat.min_eq_left h]
  simp
theorem cut_from {α : Type} (l : List α) {k : Nat} (h : k ≤ l.length) : DL.cutD l (some (k : Int)) none = l.drop k := by
  unfold DL.cutD
  rw [HT.sIx_none, HT.sIx_nat, Nat.min_eq_left h]
  rw [List.take_of_length_le (by simp)]
@[simp] theorem slD_tup {l : List D} {lo hi : Option Int} : slD (.tuple l) lo hi = some (.tuple (DL.cutD l lo hi)) := rfl
theorem repT_one {n : Nat} (h : n ≤ 1000) : repT (.tuple [.int 0]) (.int n) = some (tupI (List.replicate n 0)) := by
  show (if repOk 1 (n : Int) = true then some (PyData.tuple (rep (n : Int) [PyData.int 0])) else none) = _
  rw [if_pos]
  · unfold rep
    congr 2
    rw [Int.toNat_natCast, List.map_replicate]
    induction n with
    | zero => rfl
    | succ n ih => rw [List.replicate_succ, List.flatten_cons, ih (by omega)]; rfl
  · unfold repOk
    rw [Bool.and_eq_true, Nat.ble_eq, Nat.ble_eq]
    have : (1000000 : Nat) ≤ lim := by decide
    omega
theorem lrows_len (ps : List Int) (m : Nat) : (lrows ps m).length = m ^ ps.length := by rw [lrows, List.length_map, shares_count]
theorem lrows_ok {ps : List Int} {m : Nat} {x : List Int × List Int} (h : x ∈ lrows ps m) : x.1.length = ps.length ∧ x.2.length = m := by
  obtain ⟨r, hr, rfl⟩ := List.mem_map.mp h
  exact ⟨shares_len m _ r hr, loads_len⟩
/-- the law's inner turn -/
theorem grow_row {q s : List Int} {p : Int} {m : Nat} (hq : q.length ≤ 100) (hs : s.length = m) (hm : m ≤ 4) (ρ0 ρ1 ρ2 ρ3 ρ4 ρ5 ρ8 : D) (e3 : ρ3 = .int p) (e1 : ρ1 = .int m) : compPE (puR (aC (vP 1) aN)) (setP 9) tsN (mkTP (aC (pu2 addD (vP 6) (mkTP (aC (vP 9) aN))) (aC (pu2 addD (pu2 addD (puS slD (vP 7) oN (oI (vP 9))) (mkTP (aC (pu2 addD (pu2 ixD (vP 7) (vP 9)) (vP 3)) aN))) (puS slD (vP 7) (oI (pu2 addD (vP 9) (cC (.int 1)))) oN)) aN))) [9]
    [.p ρ0, .p ρ1, .p ρ2, .p ρ3, .un, .p ρ5, .p (tupI q), .p (tupI s), .un, .un] = some (.list ((List.range m).map fun k => pairD (q ++ [((k : Nat) : Int)], s.set k (s.getD k 0 + p)))) := by
  subst e3 e1
  refine compPE_all (fun i : Nat => .int (i : Int)) (fun k => pairD (q ++ [((k : Nat) : Int)], s.set k (s.getD k 0 + p))) (List.range m) (by simp [rng_one (n := m) (by omega)]) (by simp) (by simp [lim]; omega) fun k hk => ⟨_, rfl, ?_⟩
  have hk : k < s.length := by rw [hs]; simpa using hk
  have l : (16777216 : Nat) = 16777216 := rfl
  have c1 : DL.cutD (s.map PyData.int) none (some (k : Int)) = (s.take k).map .int := by rw [cut_to _ (by simp; omega), List.map_take]
  have c2 : DL.cutD (s.map PyData.int) (some ((k : Int) + 1)) none = (s.drop (k + 1)).map .int := by
    have := cut_from (s.map PyData.int) (k := k + 1) (by simp; omega)
    rw [← List.map_drop] at this
    exact this
  have a1 : addD (.tuple ((s.take k).map .int)) (.tuple [.int (s.getD k 0 + p)]) = some (.tuple ((s.take k ++ [s.getD k 0 + p]).map .int)) := by
    rw [addD_tup (by simp; omega)]
    simp
  have a2 : addD (.tuple ((s.take k ++ [s.getD k 0 + p]).map .int)) (.tuple ((s.drop (k + 1)).map .int)) = some (tupI (s.set k (s.getD k 0 + p))) := by
    rw [addD_tup (by simp; omega), ← List.map_append, cut_set hk, List.append_assoc]
    rfl
  have a3 := row_step (r := q) (k := (k : Int)) hq
  simp only [mkTP_eq, aC_eq, aN_eq, pu2_eq, puS_eq, oN_eq, oI_eq, vP_succ, vP_zero, unw_cons, unw_nil, cC_eq, Option.bind_some, Option.map_some, intOf_int, slD_tup, addD_int, ixD_tup, atI_int hk, c1, c2, a1, a2, a3, List.set_cons_succ, List.set_cons_zero]
  rfl
theorem minT {rs : List (List Int)} (h : rs ≠ []) (h2 : rs.Pairwise fun a b => ¬ b < a) (h3 : ∀ r ∈ rs, r.length ≤ 1000) : minL (.list (rs.map tupI)) = some (tupI (rs.headD [])) := by
  cases rs with
  | nil => exact absurd rfl h
  | cons r rs =>
    have ok : bestOk ((r :: rs).map tupI) = true := by
      unfold bestOk plOk
      rw [Bool.and_eq_true, Bool.and_eq_true, Bool.and_eq_true]
      refine ⟨⟨?_, ?_⟩, ?_, ?_⟩
      · unfold allAlike
        rw [List.all_map, List.all_eq_true]
        intro a _
        rw [Function.comp, List.all_map, List.all_eq_true]
        intro b _
        simp [PySem.W.alike, PySem.W.alike_ints]
      · rw [List.all_map, List.all_eq_true]
        intro a _
        rfl
      · have : ∀ l : List (List Int), PyData.plainAll (l.map tupI) = true := fun l => by
          induction l with
          | nil => simp [PyData.plainAll]
          | cons a l ih =>
            show PyData.plainAll (tupI a :: l.map tupI) = true
            rw [PyData.plainAll, ih]
            simp [PyData.plain, plain_ints]
        exact this _
      · have : ∀ l : List (List Int), PyData.depthAll (l.map tupI) ≤ 1 := fun l => by
          induction l with
          | nil => simp [PyData.depthAll]
          | cons a l ih =>
            show PyData.depthAll (tupI a :: l.map tupI) ≤ 1
            rw [PyData.depthAll]
            have : (tupI a).depth = 1 := by simp [PyData.depth, PySem.W.depth_ints]
            omega
        rw [Nat.ble_eq]
        exact Nat.le_trans (this _) (by decide)
    show (if bestOk ((r :: rs).map tupI) = true then some (PySem.W.minD (tupI r) (rs.map tupI)) else none) = _
    rw [if_pos ok]
    have : ∀ (l : List (List Int)), (∀ b ∈ l, ¬ b < r) → PySem.W.minD (tupI r) (l.map tupI) = tupI r := fun l => by
      unfold PySem.W.minD
      induction l with
      | nil => intro _; rfl
      | cons b l ih =>
        intro hb
        have e : PySem.W.dataLt (tupI b) (tupI r) = false := by
          show PySem.W.dataLt (.tuple (b.map .int)) (.tuple (r.map .int)) = false
          rw [PySem.W.dataLt_tuple]
          have := PySem.W.dataLt_ints b r
          unfold PySem.W.rowLt at this
          rw [this]
          exact decide_eq_false (hb b List.mem_cons_self)
        rw [List.map_cons, List.foldl_cons, e, if_neg Bool.false_ne_true]
        exact ih fun x hx => hb x (List.mem_cons_of_mem _ hx)
    rw [this rs (List.pairwise_cons.mp h2).1]
    rfl
theorem lt_app {c d : List Int} : ∀ {a b : List Int}, a.length = b.length → a < b → a ++ c < b ++ d
  | [], [], _, h => absurd h (List.lt_irrefl [])
  | [], _ :: _, e, _ => by simp at e
  | _ :: _, [], e, _ => by simp at e
  | x :: a, y :: b, e, h => by
    rw [List.cons_append, List.cons_append, List.cons_lt_cons_iff]
    rcases List.cons_lt_cons_iff.mp h with h | ⟨h1, h2⟩
    · exact .inl h
    · exact .inr ⟨h1, lt_app (by simpa using e) h2⟩
theorem lt_snoc {x y : Int} (h : x < y) : ∀ a : List Int, a ++ [x] < a ++ [y]
  | [] => List.cons_lt_cons_iff.mpr (.inl h)
  | z :: a => by
    rw [List.cons_append, List.cons_append, List.cons_lt_cons_iff]
    exact .inr ⟨rfl, lt_snoc h a⟩
theorem shares_up (m : Nat) : ∀ n, (shares m n).Pairwise (· < ·)
  | 0 => List.pairwise_singleton _ _
  | n + 1 => by
    show ((shares m n).flatMap _).Pairwise _
    rw [List.pairwise_flatMap]
    refine ⟨fun r hr => ?_, ?_⟩
    · rw [List.pairwise_map]
      exact List.pairwise_lt_range.imp fun h => lt_snoc (by omega) r
    · refine List.Pairwise.imp_of_mem (fun {a b} ha hb h x hx y hy => ?_) (shares_up m n)
      obtain ⟨k, _, rfl⟩ := List.mem_map.mp hx
      obtain ⟨j, _, rfl⟩ := List.mem_map.mp hy
      exact lt_app (by rw [shares_len m n a ha, shares_len m n b hb]) h
end K81
namespace K81
open PySem DL PyProof.Rows L2
theorem take_snoc {ps : List Int} {i : Nat} (h : i < ps.length) : ps.take (i + 1) = ps.take i ++ [ps.getD i 0] := by
  rw [List.take_add_one, List.getElem?_eq_getElem h]
  simp [List.getD, List.getElem?_eq_getElem h]
theorem pow_small {m n : Nat} (hm : m ≤ 4) (hn : n ≤ 8) : m ^ n ≤ 65536 := by
  have h1 : m ^ n ≤ 4 ^ n := Nat.pow_le_pow_left hm _
  have h2 : 4 ^ n ≤ 4 ^ 8 := Nat.pow_le_pow_right (by decide) hn
  have h3 : (4 : Nat) ^ 8 = 65536 := by decide
  omega
theorem m_lshares {ps : List Int} {m : Nat} (hl : ps.length ≤ 8) (h0 : 0 < m) (hm : m ≤ 4) : m__law_shares [tupI ps, .int m] = some (.tuple [.int (best ps m), tupI (told ps m)]) := by
  refine fnP_go [.p (tupI ps), .p (.int m), .un, .un, .un, .un, .un, .un, .un, .un] rfl ?_
  refine rn_seq (rn_setP (ev_lift ?_))
  simp [repT_one (n := m) (by omega)]
  refine rn_seq (rn_for (aw_lift ?_))
  simp
  refine rn_forS _ (fun i ρ => ∃ s3 s5 s6 s7 : Sl, ρ = [.p (tupI ps), .p (.int m), .p (.list ((lrows (ps.take i) m).map pairD)), s3, .un, s5, s6, s7, .un, .un] ∧ s3.pl = true ∧ s5.pl = true ∧ s6.pl = true ∧ s7.pl = true) _ ⟨.un, .un, .un, .un, ?_, rfl, rfl, rfl, rfl⟩ ?_ ?_
  · have e : loads [] [] m = List.replicate m 0 := by
      unfold loads
      rw [List.eq_replicate_iff]
      exact ⟨by simp, fun b hb => by obtain ⟨k, _, rfl⟩ := List.mem_map.mp hb; rfl⟩
    simp [lrows, shares, pairD, e]
  · rintro i d ρ hi ⟨s3, s5, s6, s7, rfl, p3, p5, p6, p7⟩
    obtain ⟨hlt, hd⟩ := List.getElem?_eq_some_iff.mp hi
    have hlt : i < ps.length := by simpa using hlt
    have hd : d = .int (ps.getD i 0) := by simpa [List.getD, List.getElem?_eq_getElem hlt] using hd.symm
    subst hd
    generalize hp : ps.getD i 0 = p
    simp [p3]
    refine rn_seq (rn_setP (ev_lift ?_))
    simp [p5]
    refine rn_seq (rn_for (aw_lift ?_))
    simp
    have hlen : (lrows (ps.take i) m).length ≤ 65536 := by
      rw [lrows_len]
      exact pow_small hm (by simp; omega)
    have hlen2 : (lrows (ps.take i ++ [p]) m).length ≤ 65536 := by
      rw [lrows_len]
      exact pow_small hm (by simp; omega)
    rw [lrows_snoc] at hlen2
    refine rn_forL pairD (fun left ρ => ∃ (done : List (List Int × List Int)) (s6 s7 : Sl), done ++ left = lrows (ps.take i) m ∧ ρ = [.p (tupI ps), .p (.int m), .p (.list ((lrows (ps.take i) m).map pairD)), .p (.int (p)), .un,
      .p (.list ((done.flatMap fun x => (List.range m).map fun k => (x.1 ++ [((k : Nat) : Int)], x.2.set k (x.2.getD k 0 + p))).map pairD)), s6, s7, .un, .un] ∧ s6.pl = true ∧ s7.pl = true) _ ⟨[], s6, s7, rfl, by simp, p6, p7⟩ ?_ ?_
    · rintro ⟨q, s⟩ left ρ ⟨done, s6, s7, hd, rfl, p6, p7⟩
      have hx : (q, s) ∈ lrows (ps.take i) m := by rw [← hd]; simp
      obtain ⟨hq, hs⟩ := lrows_ok hx
      have hq : q.length ≤ 100 := by
        have : (ps.take i).length ≤ 8 := by simp; omega
        simp only at hq
        omega
      refine ⟨_, by simp [-List.getD_eq_getElem?_getD, pairD, p6, p7]; rfl, ?_⟩
      have g := grow_row (q := q) (s := s) (p := p) hq hs hm (tupI ps) (.int m) (.list ((lrows (ps.take i) m).map pairD)) (.int (p)) (.int 0)
        (.list ((done.flatMap fun x => (List.range m).map fun k => (x.1 ++ [((k : Nat) : Int)], x.2.set k (x.2.getD k 0 + p))).map pairD)) (.int 0) rfl rfl
      refine rn_setP (ev_lift ?_)
      have fits : ((done.flatMap fun x => (List.range m).map fun k => (x.1 ++ [((k : Nat) : Int)], x.2.set k (x.2.getD k 0 + p))).map pairD).length + ((List.range m).map fun k => pairD (q ++ [((k : Nat) : Int)], s.set k (s.getD k 0 + p))).length ≤ 16777216 := by
        rw [← hd, List.flatMap_append, List.length_append] at hlen2
        rw [List.length_map]
        simp only [List.length_map, List.length_range]
        omega
      have a := addD_list fits
      simp only [pu2_eq, vP_succ, vP_zero, g, Option.bind_some, a]
      refine ⟨_, rfl, ?_⟩
      simp [-List.getD_eq_getElem?_getD]
      refine ⟨done ++ [(q, s)], by rw [← hd]; simp, .p (tupI q), .p (tupI s), ?_, rfl, rfl⟩
      simp [-List.getD_eq_getElem?_getD, List.flatMap_append, Function.comp]
    · rintro ρ ⟨done, s6, s7, hd, rfl, p6, p7⟩
      rw [List.append_nil] at hd
      subst hd
      simp [-List.getD_eq_getElem?_getD]
      refine rn_setP (ev_lift ?_)
      simp [-List.getD_eq_getElem?_getD]
      refine ⟨.p (.int (p)), .p (.list (((lrows (ps.take i) m).flatMap fun x => (List.range m).map fun k => (x.1 ++ [((k : Nat) : Int)], x.2.set k (x.2.getD k 0 + p))).map pairD)), s6, s7, ?_, rfl, rfl, p6, p7⟩
      rw [take_snoc hlt, hp, lrows_snoc]
      simp [-List.getD_eq_getElem?_getD]
  · rintro ρ ⟨s3, s5, s6, s7, rfl, p3, p5, p6, p7⟩
    rw [List.length_map, List.take_length]
    simp only [sq_nx]
    have hne : lrows ps m ≠ [] := fun e => by
      have := lrows_len ps m
      rw [e] at this
      have h2 : 0 < m ^ ps.length := Nat.pow_pos h0
      simp at this
      omega
    have hlen : (lrows ps m).length ≤ lim := by
      have := pow_small hm hl
      have h2 : (65536 : Nat) ≤ lim := by decide
      rw [lrows_len]
      omega
    have hmx : ∀ x ∈ lrows ps m, maxL (.tuple (x.2.map .int)) = some (.int (maxI x.2)) := fun x hx => maxL_tup (fun e => by
      have := (lrows_ok hx).2
      rw [e] at this
      simp at this
      omega)
    have z1 := compPE_all (it := puI (vP 2)) (g := setP 8) (e := puA (on1 maxL) (aC (pu2 ixD (vP 8) (cC (.int 1))) aN)) (vs := [8]) (ρ := [.p (tupI ps), .p (.int m), .p (.list ((lrows ps m).map pairD)), s3, .un, s5, s6, s7, .un, .un]) pairD (fun x => .int (maxI x.2)) (lrows ps m) (by simp) (by simp) hlen fun x hx => ⟨_, rfl, by
      have a : atI [tupI x.1, tupI x.2] 1 = some (tupI x.2) := rfl
      simp [pairD, a, hmx x hx]⟩
    have e1 : ((lrows ps m).map fun x => PyData.int (maxI x.2)) = ((shares m ps.length).map fun r => great ps r m).map .int := by
      unfold lrows
      rw [List.map_map, List.map_map]
      rfl
    rw [e1] at z1
    have hmin : minL (.list (((shares m ps.length).map fun r => great ps r m).map .int)) = some (.int (best ps m)) := minL_list (by simpa using shares_ne h0 _)
    refine rn_seq (rn_setP (ev_lift ⟨.int (best ps m), ?_, ?_⟩))
    · simp only [puA_eq, aC_eq, aN_eq, z1, Option.bind_some, Option.map_some, on1_one, hmin]
    · simp
      have z2 := compPE_map (it := puI (vP 2)) (g := setP 8) (p := tstP (pu2 eqD (puA (on1 maxL) (aC (pu2 ixD (vP 8) (cC (.int 1))) aN)) (vP 4))) (e := pu2 ixD (vP 8) (cC (.int 0))) (vs := [8]) (ρ := [.p (tupI ps), .p (.int m), .p (.list ((lrows ps m).map pairD)), s3, .p (.int (best ps m)), s5, s6, s7, .un, .un]) pairD (fun x => decide (maxI x.2 = best ps m)) (fun x => tupI x.1) (lrows ps m) (by simp) (by simp) hlen fun x hx => ⟨_, rfl, by
        have a : atI [tupI x.1, tupI x.2] 1 = some (tupI x.2) := rfl
        simp [pairD, a, hmx x hx], fun _ => by
        have a : atI [tupI x.1, tupI x.2] 0 = some (tupI x.1) := rfl
        simp [pairD, a]⟩
      have e2 : (((lrows ps m).filter fun x => decide (maxI x.2 = best ps m)).map fun x => tupI x.1) = ((shares m ps.length).filter fun r => decide (great ps r m = best ps m)).map tupI := by
        unfold lrows
        rw [List.filter_map, List.map_map]
        rfl
      rw [e2] at z2
      obtain ⟨r, hr, er⟩ := best_hit (ps := ps) h0
      have hm2 : r ∈ (shares m ps.length).filter fun r => decide (great ps r m = best ps m) := List.mem_filter.mpr ⟨hr, decide_eq_true er⟩
      have hT := minT (rs := (shares m ps.length).filter fun r => decide (great ps r m = best ps m)) (fun e => by rw [e] at hm2; cases hm2) (((shares_up m ps.length).filter _).imp fun h => List.lt_asymm h) fun r hr => by
        rw [shares_len m _ r (List.mem_filter.mp hr).1]
        omega
      refine rn_rt (ev_lift ⟨_, ?_, rfl⟩)
      simp only [mkTP_eq, aC_eq, aN_eq, puA_eq, vP_succ, vP_zero, z2, Option.bind_some, Option.map_some, on1_one, hT]
      rw [told, List.head?_eq_getElem?]
      congr 4
      cases (shares m ps.length).filter fun r => decide (great ps r m = best ps m) <;> rfl
end K81
namespace K81
open PySem DL PyProof.Rows L2
theorem sumI_nn {l : List Int} (h : ∀ x ∈ l, 0 ≤ x) : 0 ≤ sumI l := by
  induction l with
  | nil => exact Int.le_refl _
  | cons x l ih =>
    have h1 := h x List.mem_cons_self
    have h2 := ih fun y hy => h y (List.mem_cons_of_mem _ hy)
    show 0 ≤ x + sumI l
    omega
theorem sumI_ge {l : List Int} {x : Int} (h : ∀ x ∈ l, 0 ≤ x) (hx : x ∈ l) : x ≤ sumI l := by
  induction l with
  | nil => cases hx
  | cons y l ih =>
    have h1 := h y List.mem_cons_self
    have h2 := sumI_nn fun z hz => h z (List.mem_cons_of_mem _ hz)
    show x ≤ y + sumI l
    rcases List.mem_cons.mp hx with rfl | hx
    · omega
    · have := ih (fun z hz => h z (List.mem_cons_of_mem _ hz)) hx
      omega
theorem getD_nn {ps : List Int} (h : ∀ x ∈ ps, 0 ≤ x) (i : Nat) : 0 ≤ ps.getD i 0 := by
  unfold List.getD
  cases e : ps[i]? with
  | none => exact Int.le_refl _
  | some x => exact h x (List.mem_of_getElem? e)
theorem load_nn {ps r : List Int} (h : ∀ x ∈ ps, 0 ≤ x) (k : Int) : 0 ≤ load ps r k := sumI_nn fun x hx => by
  obtain ⟨i, _, rfl⟩ := List.mem_map.mp hx
  exact getD_nn h i
theorem shares_in {m : Nat} : ∀ {n : Nat} {r : List Int}, r ∈ shares m n → ∀ x ∈ r, ∃ k : Nat, k < m ∧ x = k
  | 0, r, h, x, hx => by simp [shares] at h; subst h; cases hx
  | n + 1, r, h, x, hx => by
    simp only [shares, List.mem_flatMap, List.mem_map, List.mem_range] at h
    obtain ⟨q, hq, k, hk, rfl⟩ := h
    rcases List.mem_append.mp hx with hx | hx
    · exact shares_in hq x hx
    · exact ⟨k, hk, by simpa using hx⟩
theorem great_ge {ps r : List Int} {m k : Nat} (h : k < m) : load ps r k ≤ great ps r m := maxI_ge (List.mem_map.mpr ⟨k, by simpa using h, rfl⟩)
theorem great_hit {ps r : List Int} {m : Nat} (h : 0 < m) : ∃ k : Nat, k < m ∧ great ps r m = load ps r k := by
  have := maxI_mem (ns := loads ps r m) (fun e => by have := loads_len (ps := ps) (r := r) (m := m); rw [e] at this; simp at this; omega)
  obtain ⟨k, hk, e⟩ := List.mem_map.mp this
  exact ⟨k, by simpa using hk, e.symm⟩
theorem best_le {ps r : List Int} {m : Nat} (h : r ∈ shares m ps.length) : best ps m ≤ great ps r m := minI_le (List.mem_map.mpr ⟨r, h, rfl⟩)
theorem best_nn {ps : List Int} {m : Nat} (h0 : 0 < m) (h : ∀ x ∈ ps, 0 ≤ x) : 0 ≤ best ps m := by
  obtain ⟨r, hr, e⟩ := best_hit (ps := ps) h0
  have := great_ge (ps := ps) (r := r) h0
  have := load_nn (r := r) h ((0 : Nat) : Int)
  omega
theorem best_ge {ps : List Int} {m : Nat} {x : Int} (h0 : 0 < m) (h : ∀ x ∈ ps, 0 ≤ x) (hx : x ∈ ps) : x ≤ best ps m := by
  obtain ⟨r, hr, e⟩ := best_hit (ps := ps) h0
  rw [← e]
  obtain ⟨i, hi, ei⟩ := List.getElem_of_mem hx
  have hl := shares_len m _ r hr
  have hir : i < r.length := by omega
  obtain ⟨k, hk, ek⟩ := shares_in hr r[i] (List.getElem_mem hir)
  have g := great_ge (ps := ps) (r := r) hk
  have : x ≤ load ps r k := sumI_ge (fun y hy => by
    obtain ⟨j, _, rfl⟩ := List.mem_map.mp hy
    exact getD_nn h j) (List.mem_map.mpr ⟨i, List.mem_filter.mpr ⟨by simpa using hi, ?_⟩, ?_⟩)
  · omega
  · have : r.getD i 0 = r[i] := by simp [List.getD, List.getElem?_eq_getElem hir]
    rw [this]
    exact decide_eq_true ek
  · simp [List.getD, List.getElem?_eq_getElem hi, ei]
theorem sumI_set {l : List Int} {k : Nat} (h : k < l.length) (p : Int) : sumI (l.set k (l.getD k 0 + p)) = sumI l + p := by
  induction l generalizing k with
  | nil => simp at h
  | cons x l ih =>
    cases k with
    | zero => show x + p + sumI l = x + sumI l + p; omega
    | succ k =>
      have := ih (k := k) (by simpa using h)
      show x + sumI (l.set k (l.getD k 0 + p)) = x + sumI l + p
      omega
theorem loads_sum {m : Nat} : ∀ (n : Nat) (ps r : List Int), ps.length = n → r ∈ shares m n → sumI (loads ps r m) = sumI ps
  | 0, ps, r, h, hr => by
    have : ps = [] := List.eq_nil_of_length_eq_zero h
    subst this
    simp [shares] at hr
    subst hr
    have : loads [] [] m = List.replicate m 0 := by
      unfold loads
      rw [List.eq_replicate_iff]
      exact ⟨by simp, fun b hb => by obtain ⟨k, _, rfl⟩ := List.mem_map.mp hb; rfl⟩
    rw [this]
    have z : ∀ n : Nat, sumI (List.replicate n 0) = 0 := fun n => by
      induction n with
      | zero => rfl
      | succ n ih => rw [List.replicate_succ]; show 0 + sumI _ = _; rw [ih]; rfl
    exact z m
  | n + 1, ps, r, h, hr => by
    have hne : ps ≠ [] := fun e => by rw [e] at h; cases h
    rw [← List.dropLast_concat_getLast hne]
    generalize ps.getLast hne = p
    have hl : ps.dropLast.length = n := by rw [List.length_dropLast, h]; rfl
    generalize ps.dropLast = qs at hl
    simp only [shares, List.mem_flatMap, List.mem_map, List.mem_range] at hr
    obtain ⟨q, hq, k, hk, rfl⟩ := hr
    have ih := loads_sum n qs q hl hq
    have lq := shares_len m n q hq
    rw [loads_snoc (by omega)]
    have e : load qs q k = (loads qs q m).getD k 0 := by simp [List.getD, loads_get hk]
    rw [e, sumI_set (by rw [loads_len]; exact hk), ih, sumI_app]
    show sumI qs + p = sumI qs + (p + 0)
    omega
theorem sumI_le {l : List Int} {b : Int} (h : ∀ x ∈ l, x ≤ b) : sumI l ≤ l.length * b := by
  induction l with
  | nil => simp [sumI]
  | cons x l ih =>
    have h1 := h x List.mem_cons_self
    have h2 := ih fun y hy => h y (List.mem_cons_of_mem _ hy)
    show x + sumI l ≤ ((l.length + 1 : Nat) : Int) * b
    rw [Int.natCast_succ, Int.add_mul, Int.one_mul]
    omega
theorem best_sum {ps : List Int} {m : Nat} (h0 : 0 < m) : sumI ps ≤ best ps m * m := by
  obtain ⟨r, hr, e⟩ := best_hit (ps := ps) h0
  have h1 := loads_sum _ ps r rfl hr
  have h2 := sumI_le (l := loads ps r m) (b := best ps m) fun x hx => by
    rw [← e]
    exact maxI_ge hx
  rw [loads_len, h1] at h2
  rw [Int.mul_comm]
  exact h2
theorem best_le_sum {ps : List Int} {m : Nat} (h0 : 0 < m) (h : ∀ x ∈ ps, 0 ≤ x) : best ps m ≤ sumI ps := by
  obtain ⟨r, hr, e⟩ := best_hit (ps := ps) h0
  rw [← e, ← loads_sum _ ps r rfl hr]
  obtain ⟨k, hk, ek⟩ := great_hit (ps := ps) (r := r) h0
  rw [ek]
  exact sumI_ge (fun x hx => by obtain ⟨j, _, rfl⟩ := List.mem_map.mp hx; exact load_nn h _) (List.mem_map.mpr ⟨k, by simpa using hk, rfl⟩)
theorem shares_more {m : Nat} : ∀ {n : Nat} {r : List Int}, r ∈ shares m n → r ∈ shares (m + 1) n
  | 0, r, h => h
  | n + 1, r, h => by
    simp only [shares, List.mem_flatMap, List.mem_map, List.mem_range] at h ⊢
    obtain ⟨q, hq, k, hk, rfl⟩ := h
    exact ⟨q, shares_more hq, k, by omega, rfl⟩
theorem load_none {ps r : List Int} {m : Nat} (hl : r.length = ps.length) (h : ∀ x ∈ r, ∃ k : Nat, k < m ∧ x = k) : load ps r m = 0 := by
  unfold load
  have : ((List.range ps.length).filter fun i => decide (r.getD i 0 = (m : Int))) = [] := List.filter_eq_nil_iff.mpr fun i hi => by
    have hi : i < r.length := by rw [hl]; simpa using hi
    obtain ⟨k, hk, e⟩ := h r[i] (List.getElem_mem hi)
    have e2 : r.getD i 0 = r[i] := by simp [List.getD, List.getElem?_eq_getElem hi]
    rw [e2, e]
    simp
    omega
  rw [this]
  rfl
theorem best_more {ps : List Int} {m : Nat} (h0 : 0 < m) (h : ∀ x ∈ ps, 0 ≤ x) : best ps (m + 1) ≤ best ps m := by
  obtain ⟨r, hr, e⟩ := best_hit (ps := ps) h0
  have h1 := best_le (shares_more hr)
  obtain ⟨k, hk, ek⟩ := great_hit (ps := ps) (r := r) (m := m + 1) (by omega)
  by_cases c : k < m
  · have := great_ge (ps := ps) (r := r) c
    omega
  · have : k = m := by omega
    subst this
    rw [load_none (shares_len _ _ r hr) (shares_in hr)] at ek
    have := best_nn h0 h
    omega
theorem best_fewer {ps : List Int} {m : Nat} (h0 : 0 < m) (h : ∀ x ∈ ps, 0 ≤ x) : best ps.dropLast m ≤ best ps m := by
  by_cases hne : ps = []
  · subst hne; exact Int.le_refl _
  obtain ⟨r, hr, e⟩ := best_hit (ps := ps) h0
  have hps := List.dropLast_concat_getLast hne
  generalize ps.getLast hne = p at hps
  generalize ps.dropLast = qs at hps
  subst hps
  rw [List.length_append, List.length_singleton] at hr
  simp only [shares, List.mem_flatMap, List.mem_map, List.mem_range] at hr
  obtain ⟨q, hq, k, hk, rfl⟩ := hr
  have h1 := best_le (ps := qs) hq
  obtain ⟨j, hj, ej⟩ := great_hit (ps := qs) (r := q) h0
  have h2 := great_ge (ps := qs ++ [p]) (r := q ++ [(k : Int)]) hj
  have h3 : load (qs ++ [p]) (q ++ [(k : Int)]) j = load qs q j + if ((k : Nat) : Int) = (j : Int) then p else 0 := load_snoc (shares_len m _ q hq)
  have hp : 0 ≤ p := h p (by simp)
  split at h3 <;> omega
theorem load_mul {ps r : List Int} {b k : Int} : load (ps.map (b * ·)) r k = b * load ps r k := by
  unfold load
  rw [List.length_map]
  generalize ((List.range ps.length).filter fun i => decide (r.getD i 0 = k)) = l
  induction l with
  | nil => show (0 : Int) = b * 0; omega
  | cons i l ih =>
    show (ps.map (b * ·)).getD i 0 + sumI (l.map fun i => (ps.map (b * ·)).getD i 0) = b * (ps.getD i 0 + sumI (l.map fun i => ps.getD i 0))
    rw [ih, Int.mul_add]
    congr 1
    unfold List.getD
    rw [List.getElem?_map]
    cases ps[i]? with
    | none => show (0 : Int) = b * 0; omega
    | some x => rfl
theorem fold_max_mul {b : Int} (hb : 0 ≤ b) : ∀ (l : List Int) (n : Int), (l.map (b * ·)).foldl max (b * n) = b * l.foldl max n
  | [], n => rfl
  | x :: l, n => by
    rw [List.map_cons, List.foldl_cons, List.foldl_cons, ← fold_max_mul hb l]
    congr 1
    by_cases c : n ≤ x
    · have := Int.mul_le_mul_of_nonneg_left c hb
      rw [show max n x = x by omega]
      omega
    · have := Int.mul_le_mul_of_nonneg_left (show x ≤ n by omega) hb
      rw [show max n x = n by omega]
      omega
theorem fold_min_mul {b : Int} (hb : 0 ≤ b) : ∀ (l : List Int) (n : Int), (l.map (b * ·)).foldl min (b * n) = b * l.foldl min n
  | [], n => rfl
  | x :: l, n => by
    rw [List.map_cons, List.foldl_cons, List.foldl_cons, ← fold_min_mul hb l]
    congr 1
    by_cases c : n ≤ x
    · have := Int.mul_le_mul_of_nonneg_left c hb
      rw [show min n x = n by omega]
      omega
    · have := Int.mul_le_mul_of_nonneg_left (show x ≤ n by omega) hb
      rw [show min n x = x by omega]
      omega
theorem great_mul {ps r : List Int} {m : Nat} {b : Int} (hb : 0 ≤ b) (h0 : 0 < m) : great (ps.map (b * ·)) r m = b * great ps r m := by
  unfold great
  have e : loads (ps.map (b * ·)) r m = (loads ps r m).map (b * ·) := by
    unfold loads
    rw [List.map_map]
    exact List.map_congr_left fun k _ => load_mul
  rw [e]
  cases hl : loads ps r m with
  | nil =>
    have := loads_len (ps := ps) (r := r) (m := m)
    rw [hl] at this
    simp at this
    omega
  | cons x l => exact fold_max_mul hb l x
theorem best_mul {ps : List Int} {m : Nat} {b : Int} (hb : 0 ≤ b) (h0 : 0 < m) : best (ps.map (b * ·)) m = b * best ps m := by
  unfold best
  rw [List.length_map]
  have e : ((shares m ps.length).map fun r => great (ps.map (b * ·)) r m) = ((shares m ps.length).map fun r => great ps r m).map (b * ·) := by
    rw [List.map_map]
    exact List.map_congr_left fun r _ => great_mul hb h0
  rw [e]
  cases hl : (shares m ps.length).map fun r => great ps r m with
  | nil => exact absurd (by simpa using hl) (shares_ne h0 ps.length)
  | cons x l => exact fold_min_mul hb l x
theorem told_mul {ps : List Int} {m : Nat} {b : Int} (hb : 0 < b) (h0 : 0 < m) : told (ps.map (b * ·)) m = told ps m := by
  unfold told
  rw [best_mul (by omega) h0, List.length_map]
  congr 2
  apply List.filter_congr
  intro r _
  rw [great_mul (by omega) h0]
  by_cases c : great ps r m = best ps m
  · rw [c, decide_eq_true rfl, decide_eq_true rfl]
  · rw [decide_eq_false c, decide_eq_false fun z => c (Int.eq_of_mul_eq_mul_left (by omega) z)]
end K81
namespace K81
open PySem DL PyProof.Rows L2
theorem same_int (i : Int) : m__law_same 6 [.int i, .int i] = some (.bool true) := by rw [same_eq]; exact same_refl 5 _ rfl
theorem smOk_tupI {ns : List Int} (h : ns.length ≤ 1000) : smOk 5 (tupI ns) = true := by
  show (Nat.ble (ns.map PyData.int).length 1000000 && (ns.map PyData.int).all (smOk 4)) = true
  rw [Bool.and_eq_true, Nat.ble_eq, List.all_map, List.all_eq_true]
  exact ⟨by simp; omega, fun x _ => rfl⟩
theorem same_tup {ns : List Int} (h : ns.length ≤ 1000) : m__law_same 6 [tupI ns, tupI ns] = some (.bool true) := by rw [same_eq]; exact same_refl 5 _ (smOk_tupI h)
theorem cm_parts {c : D} {n : Nat} {sc : Int} {Q : D → D → Prop} (hc : Dr c) (hn : n ≤ 8) (h0 : 0 < sc) (h : ∀ ps c', ps.length = n → (∀ p ∈ ps, 0 ≤ p ∧ p ≤ 60 * sc) → Dr c' → Q (tupI ps) c') : Cm m__law_parts c [.int n, .int sc] Q := by
  refine fnM_go [.m c, .p (.int n), .p (.int sc), .un, .un] rfl ?_
  have good : ∀ v : Int, 0 ≤ v → v < 61 → 0 ≤ sc * v ∧ sc * v ≤ 60 * sc := fun v a b => by
    refine ⟨Int.mul_nonneg (by omega) a, ?_⟩
    rw [Int.mul_comm 60]
    exact Int.mul_le_mul_of_nonneg_left (by omega) (by omega)
  have it : puR (aC (vP 1) aN) [.m c, .p (.int n), .p (.int sc), .un, .un] = some ((List.range n).map fun i : Nat => PyData.int (i : Int)) := by simp [rng_one (n := n) (by omega)]
  refine rn_seq (rn_setO (ev_comp (fun i : Nat => PyData.int (i : Int)) (fun left out ρ => ∃ (ps : List Int) (c : D), out = ps.map .int ∧ ps.length + left.length = n ∧ (∀ p ∈ ps, 0 ≤ p ∧ p ≤ 60 * sc) ∧ Dr c ∧ ρ = [.m c, .p (.int n), .p (.int sc), .un, .un])
    (aw_lift ⟨_, it, List.range n, _, rfl, by simp [lim]; omega, unwO_eq (by simp), ⟨[], c, rfl, by simp, fun p hp => absurd hp (by simp), hc, by simp⟩, ?_⟩) ?_))
  · rintro out ρe ⟨ps, c, rfl, hl, hps, hc, rfl⟩
    have hl : ps.length = n := by simpa using hl
    have fin : ∀ (c : D) (fs : List Int), Dr c → fs.length = n → (∀ p ∈ fs, 0 ≤ p ∧ p ≤ 60 * sc) → Rn (sRt (lift (puA (on1 tupD) (aC (vB 3) aN)))) [.m c, .p (.int n), .p (.int sc), .o (.list (fs.map .int)), .un] fun o => OkP (outM 0 o) Q := fun c fs h1 h2 h3 => by
      refine rn_rt (ev_lift ?_)
      simp
      exact h fs c h2 h3 h1
    refine ⟨[.m c, .p (.int n), .p (.int sc), .o (.list (ps.map .int)), .un], rfl, ?_⟩
    rw [sq_nx]
    refine rn_seq (rn_if (te_and (te_lift ⟨decide (1 < (n : Int)), by simp, fun big => ?_, fun _ => ⟨fun z => (by cases z), fun _ => rn_nx ?_⟩⟩)))
    · have big : 1 < n := by have := of_decide_eq_true big; omega
      refine te_tst (ev_seq2 (ev_callM ⟨c, by simp, aw_lift ⟨[.int 2], by simp, c, by simp, ?_⟩⟩))
      rw [take_eq]
      refine cm_take hc (by decide) fun v c' v0 v1 hc' => ?_
      refine ev_lift ⟨.int 0, rfl, _, eqD_int, _, blOf_bool, fun _ => ?_, fun _ => rn_nx ?_⟩
      · obtain ⟨p0, rest, rfl⟩ : ∃ p0 rest, ps = p0 :: rest := by
          cases ps with
          | nil => simp at hl; omega
          | cons a b => exact ⟨a, b, rfl⟩
        have e := atI_int (ns := p0 :: rest) (i := n - 1) (by omega)
        have en : ((n - 1 : Nat) : Int) = (n : Int) - 1 := by omega
        rw [en] at e
        simp only [wr_zeroM]
        refine rn_store (ev_lift ⟨.int ((p0 :: rest).getD (n - 1) 0), by simp only [pu2_eq, vB_succ, vB_zeroO, vP_succ, vP_zero, cC_eq, Option.bind_some, subD_int, ixD_list, e], _, by simp; rfl, ev_lift ⟨.int 0, rfl, (p0 :: rest).map .int, 0, 0, rfl, by simp, ixN_nat (i := 0) (by simp), ?_⟩⟩)
        simp only [wr_succ, wr_zeroO, sq_nx]
        have := fin c' ((p0 :: rest).set 0 ((p0 :: rest).getD (n - 1) 0)) hc' (by simpa using hl) (fun p hp => ?_)
        · simpa [-List.getD_eq_getElem?_getD] using this
        · rcases List.mem_or_eq_of_mem_set hp with hp | hp
          · exact hps p hp
          · have hm : (p0 :: rest).getD (n - 1) 0 ∈ p0 :: rest := by
              have : n - 1 < (p0 :: rest).length := by omega
              simp only [List.getD, List.getElem?_eq_getElem this]
              exact List.getElem_mem _
            rw [hp]
            exact hps _ hm
      · simp only [wr_zeroM, sq_nx]
        exact fin c' ps hc' hl hps
    · simp only [sq_nx]
      exact fin c ps hc hl hps
  · rintro i r out ρ ⟨ps, c, rfl, hl, hps, hc, rfl⟩
    refine ⟨[.m c, .p (.int n), .p (.int sc), .un, .p (.int i)], rfl, te_lift ⟨true, rfl, fun _ => ?_, fun z => by cases z⟩⟩
    refine ev_seq2 (ev_lift ⟨.int sc, rfl, ev_seq2 (ev_mkL (aw_cons (ev_callM ⟨c, rfl, aw_lift ⟨[.int 61], rfl, c, rfl, ?_⟩⟩)))⟩)
    rw [take_eq]
    refine cm_take hc (by decide) fun v1 c1 a1 b1 hc1 => ?_
    refine aw_cons (ev_callM ⟨c1, rfl, aw_lift ⟨[.int 5], rfl, c1, rfl, ?_⟩⟩)
    refine cm_take hc1 (by decide) fun v2 c2 a2 b2 hc2 => ?_
    refine aw_lift ⟨[], rfl, ev_callM ⟨c2, rfl, aw_lift ⟨[.int 2], rfl, c2, rfl, ?_⟩⟩⟩
    refine cm_take hc2 (by decide) fun v3 c3 a3 b3 hc3 => ?_
    obtain ⟨v, hv, e, g1, g2⟩ : ∃ v, ixD (.list [.int v1, .int v2]) (.int v3) = some (.int v) ∧ True ∧ 0 ≤ v ∧ v < 61 := by
      have : v3 = 0 ∨ v3 = 1 := by omega
      rcases this with rfl | rfl
      · exact ⟨v1, rfl, trivial, a1, b1⟩
      · exact ⟨v2, rfl, trivial, a2, by omega⟩
    refine ⟨_, hv, _, mulD_int (mulOk_r (by omega) (by omega)), _, unwO_eq (by simp), ps ++ [sc * v], c3, by simp, by simp at hl ⊢; omega, fun p hp => ?_, hc3, by simp⟩
    rcases List.mem_append.mp hp with hp | hp
    · exact hps p hp
    · rw [List.mem_singleton.mp hp]
      exact good v g1 g2
end K81
namespace K81
open PySem DL PyProof.Rows L2
theorem cut_last {α : Type} (l : List α) : DL.cutD l none (some (-1)) = l.dropLast := by
  unfold DL.cutD
  have e : HT.sIx l.length l.length (some (-1)) = l.length - 1 := by
    show (if (-1 : Int) < 0 then ((-1 : Int) + (l.length : Int)).toNat else min (-1 : Int).toNat l.length) = _
    rw [if_pos (by decide)]
    omega
  rw [HT.sIx_none, e, List.drop_zero, Nat.sub_zero, List.dropLast_eq_take]
theorem cm_shares {c : D} {ps : List Int} {m : Nat} {Q : D → D → Prop} (hc : Dr c) (hl : ps.length ≤ 8) (hp : ∀ p ∈ ps, 0 ≤ p) (h0 : 0 < m) (hm : m ≤ 3) (h : ∀ c', Dr c' → Q (.bool true) c') : Cm m__law_are_shares_right c [tupI ps, .int m] Q := by
  refine fnM_go [.m c, .p (tupI ps), .p (.int m), .un, .un, .un, .un, .un] rfl ?_
  have hB := m_best hl h0 (show m ≤ 4 by omega)
  have hT := m_told hl h0 (show m ≤ 4 by omega)
  have hL := m_lshares hl h0 (show m ≤ 4 by omega)
  have tl : (told ps m).length ≤ 1000 := by
    unfold told
    cases e : ((shares m ps.length).filter fun r => decide (great ps r m = best ps m)).head? with
    | none => simp
    | some r =>
      have := shares_len m _ r (List.mem_filter.mp (List.mem_of_mem_head? (by rw [e]; rfl))).1
      simp
      omega
  refine rn_seq (rn_asg (ev_lift ⟨.tuple [.int (best ps m), tupI (told ps m)], by simp [hL], ⟨[.m c, .p (tupI ps), .p (.int m), .un, .un, .p (.int (best ps m)), .p (tupI (told ps m)), .un], rfl, ?_⟩⟩))
  rw [sq_nx]
  have s1 := same_int (best ps m)
  have s2 := same_tup tl
  refine rn_seq (rn_if (te_lift ⟨false, by simp [hB, hT, s1, s2], fun z => (by cases z), fun _ => rn_nx ?_⟩))
  rw [sq_nx]
  -- the bounds
  have a1 : addD (.tuple [.int 0]) (tupI ps) = some (tupI (0 :: ps)) := by
    rw [addD_tup (by simp; omega)]
    rfl
  have a2 : maxL (tupI (0 :: ps)) = some (.int (maxI (0 :: ps))) := maxL_tup (by simp)
  have a3 : mulD (.int (best ps m)) (.int m) = some (.int (best ps m * m)) := mulD_int (mulOk_r (by omega) (by omega))
  have a4 : sumD (tupI ps) = some (.int (sumI ps)) := sumD_tup ps
  have b1 : ¬ best ps m < maxI (0 :: ps) := by
    have := maxI_mem (ns := 0 :: ps) (by simp)
    rcases List.mem_cons.mp this with e | e
    · have := best_nn h0 hp
      omega
    · have := best_ge h0 hp e
      omega
  have b2 : ¬ best ps m * m < sumI ps := by have := best_sum (ps := ps) h0; omega
  have b3 : ¬ sumI ps < best ps m := by have := best_le_sum h0 hp; omega
  refine rn_seq (rn_if (te_lift ⟨false, by simp [a1, a2, a3, a4, b1, b2, b3], fun z => (by cases z), fun _ => rn_nx ?_⟩))
  rw [sq_nx]
  -- one maker more, one part less
  have c1 : m_shared_parts [tupI ps, .int ((m : Int) + 1)] = some (.int (best ps (m + 1))) := m_best (m := m + 1) hl (by omega) (by omega)
  have c2 : m_shared_parts [tupI ps.dropLast, .int m] = some (.int (best ps.dropLast m)) := m_best (ps := ps.dropLast) (by simp; omega) h0 (by omega)
  have c3 : DL.cutD (ps.map PyData.int) none (some (-1)) = ps.dropLast.map .int := by rw [cut_last, List.map_dropLast]
  have b4 : ¬ best ps m < best ps (m + 1) := by have := best_more (m := m) h0 hp; omega
  have b5 : ¬ best ps m < best ps.dropLast m := by have := best_fewer (ps := ps) h0 hp; omega
  refine rn_seq (rn_if (te_lift ⟨false, by simp [-List.map_dropLast, c1, c2, c3, b4, b5], fun z => (by cases z), fun _ => rn_nx ?_⟩))
  rw [sq_nx]
  -- times by
  refine rn_seq (rn_setP (ev_seq2 (ev_lift ⟨.int 2, rfl, ev_callM ⟨c, rfl, aw_lift ⟨[.int 5], rfl, c, rfl, ?_⟩⟩⟩)))
  rw [take_eq]
  refine cm_take hc (by decide) fun v c' v0 v1 hc' => ?_
  refine ⟨.int (2 + v), rfl, [.m c', .p (tupI ps), .p (.int m), .p (.int (2 + v)), .un, .p (.int (best ps m)), .p (tupI (told ps m)), .un], rfl, ?_⟩
  rw [sq_nx]
  have d1 : ∀ x : Int, mulD (.int (2 + v)) (.int x) = some (.int ((2 + v) * x)) := fun x => mulD_int (mulOk_l (by omega) (by omega))
  have z := compPE_all (it := puI (vP 1)) (g := setP 7) (e := pu2 mulD (vP 3) (vP 7)) (vs := [7]) (ρ := [.m c', .p (tupI ps), .p (.int m), .p (.int (2 + v)), .un, .p (.int (best ps m)), .p (tupI (told ps m)), .un]) PyData.int (fun n => .int ((2 + v) * n)) ps (by simp) (by simp) (by simp [lim]; omega) fun x hx => ⟨_, rfl, by simp [d1]⟩
  have e : (ps.map fun n => PyData.int ((2 + v) * n)) = (ps.map ((2 + v) * ·)).map .int := by rw [List.map_map]; rfl
  rw [e] at z
  refine rn_seq (rn_setP (ev_lift ⟨tupI (ps.map ((2 + v) * ·)), by simp [-List.map_map, z], [.m c', .p (tupI ps), .p (.int m), .p (.int (2 + v)), .p (tupI (ps.map ((2 + v) * ·))), .p (.int (best ps m)), .p (tupI (told ps m)), .un], rfl, ?_⟩))
  rw [sq_nx]
  have f1 := m_best (ps := ps.map ((2 + v) * ·)) (m := m) (by simpa using hl) h0 (by omega)
  have f2 := m_told (ps := ps.map ((2 + v) * ·)) (m := m) (by simpa using hl) h0 (by omega)
  rw [best_mul (by omega) h0] at f1
  rw [told_mul (by omega) h0] at f2
  have s3 := same_int ((2 + v) * best ps m)
  refine rn_rt (ev_lift ⟨.bool true, by simp [-List.map_map, f1, f2, d1, s2, s3], ?_⟩)
  simp
  exact h c' hc'
end K81
namespace K81
open PySem DL PyProof.Rows L2
theorem up_spec {n b : Int} (h : 0 < b) : n ≤ b * up n b ∧ b * up n b < n + b := by
  unfold up
  have h1 := Int.mul_ediv_add_emod (-n) b
  have h2 := Int.emod_nonneg (-n) (show b ≠ 0 by omega)
  have h3 := Int.emod_lt_of_pos (-n) h
  rw [Int.mul_neg]
  omega
theorem up_uniq {n b x : Int} (h : 0 < b) (h1 : n ≤ b * x) (h2 : b * x < n + b) : up n b = x := by
  obtain ⟨g1, g2⟩ := up_spec (n := n) h
  rcases Int.lt_trichotomy (up n b) x with c | c | c
  · have := Int.mul_le_mul_of_nonneg_left (show up n b + 1 ≤ x by omega) (show 0 ≤ b by omega)
    rw [Int.mul_add, Int.mul_one] at this
    omega
  · exact c
  · have := Int.mul_le_mul_of_nonneg_left (show x + 1 ≤ up n b by omega) (show 0 ≤ b by omega)
    rw [Int.mul_add, Int.mul_one] at this
    omega
theorem up_law {n b : Int} (h : 0 < b) : (n + b - 1) / b = up n b := by
  have h1 := Int.mul_ediv_add_emod (n + b - 1) b
  have h2 := Int.emod_nonneg (n + b - 1) (show b ≠ 0 by omega)
  have h3 := Int.emod_lt_of_pos (n + b - 1) h
  exact (up_uniq h (by omega) (by omega)).symm
theorem up_nn {n b : Int} (h : 0 < b) (hn : 0 ≤ n) : 0 ≤ up n b := by
  obtain ⟨g1, g2⟩ := up_spec (n := n) h
  by_cases c : 0 ≤ up n b
  · exact c
  · have := Int.mul_le_mul_of_nonneg_left (show up n b ≤ -1 by omega) (show 0 ≤ b by omega)
    omega
theorem up_le {n b : Int} (h : 0 < b) (hn : 0 ≤ n) : up n b ≤ n := by
  obtain ⟨g1, g2⟩ := up_spec (n := n) h
  by_cases c : up n b ≤ n
  · exact c
  · have h1 := Int.mul_le_mul_of_nonneg_left (show n + 1 ≤ up n b by omega) (show 0 ≤ b by omega)
    rw [Int.mul_add, Int.mul_one] at h1
    have h2 := Int.mul_le_mul_of_nonneg_right (show 1 ≤ b by omega) hn
    omega
theorem up_pos {n b : Int} (h : 0 < b) (hn : 0 < n) : 0 < up n b := by
  obtain ⟨g1, g2⟩ := up_spec (n := n) h
  by_cases c : 0 < up n b
  · exact c
  · have := Int.mul_le_mul_of_nonneg_left (show up n b ≤ 0 by omega) (show 0 ≤ b by omega)
    omega
theorem up_one {n : Int} : up n 1 = n := up_uniq (by decide) (by omega) (by omega)
theorem up_more {n b : Int} (h : 0 < b) (hn : 0 ≤ n) : up n (b + 1) ≤ up n b := by
  obtain ⟨g1, g2⟩ := up_spec (n := n) h
  obtain ⟨g3, g4⟩ := up_spec (n := n) (b := b + 1) (by omega)
  by_cases c : up n (b + 1) ≤ up n b
  · exact c
  · have h0 := up_nn h hn
    have h1 := Int.mul_le_mul_of_nonneg_left (show up n b + 1 ≤ up n (b + 1) by omega) (show 0 ≤ b + 1 by omega)
    rw [Int.mul_add, Int.mul_one, Int.add_mul, Int.one_mul] at h1
    omega
theorem need_app (a b : List Int) (s : Int) : need (a ++ b) s = need a s + need b s := by
  unfold need
  rw [List.map_append, sumI_app]
theorem need_nn {ps : List Int} {s : Int} (h : 0 < s) (hp : ∀ p ∈ ps, 0 ≤ p) : 0 ≤ need ps s := sumI_nn fun x hx => by
  obtain ⟨p, hq, rfl⟩ := List.mem_map.mp hx
  have := hp p hq
  exact up_nn h (by omega)
theorem need_le {ps : List Int} {s b : Int} (h : 0 < s) (hl : ps.length ≤ 8) (hp : ∀ p ∈ ps, 0 ≤ p ∧ p ≤ b) (hb : 0 ≤ b) : need ps s ≤ 480 * b := by
  have := sumI_le (l := ps.map fun n => up (n * 60) s) (b := 60 * b) fun x hx => by
    obtain ⟨p, hq, rfl⟩ := List.mem_map.mp hx
    have := hp p hq
    have := up_le h (n := p * 60) (by omega)
    omega
  rw [List.length_map] at this
  have h2 : (ps.length : Int) * (60 * b) ≤ 8 * (60 * b) := Int.mul_le_mul_of_nonneg_right (by omega) (by omega)
  unfold need
  omega
theorem m_ends {ps : List Int} {s b d : Int} (hl : ps.length ≤ 8) (hs : 0 < s) (hs2 : s < 1000) (hd : 0 < d) (hd2 : d < 2 ^ 200) : m_ends_by [tupI ps, .int s, .int b, .int d] = some (.int (b + max (up (need ps s) d - 1) 0)) := by
  have h1 := m_need (ps := ps) (b := s) (by simp [lim]; omega) fun i => divOk_small hs (by omega)
  have h2 := m_up (n := need ps s) (b := d) (divOk_wide (k := 200) hd hd2)
  simp [m_ends_by, b_ends_by, h1, h2]
def late (w more at_ : Int) : Int := if w ≤ at_ then w else at_ + up (w - at_) (more + 1)
theorem m_late {ps : List Int} {s more at_ : Int} (hl : ps.length ≤ 8) (hs : 0 < s) (hs2 : s < 1000) (h0 : 0 ≤ more) (h1 : more < 1000) : m_joined_late [tupI ps, .int s, .int more, .int at_] = some (.int (late (need ps s) more at_)) := by
  have h2 := m_need (ps := ps) (b := s) (by simp [lim]; omega) fun i => divOk_small hs (by omega)
  have h3 := m_up (n := need ps s - at_) (b := more + 1) (divOk_small (by omega) (by omega))
  by_cases c : need ps s ≤ at_
  · simp [m_joined_late, b_joined_late, h2, late, c]
  · simp [m_joined_late, b_joined_late, h2, h3, late, c]
end K81
namespace K81
open PySem DL PyProof.Rows L2
theorem wide {x : Int} {k : Nat} (h0 : 0 ≤ x) (h : x < 2 ^ k) : x.natAbs < 2 ^ k := by
  have : ((2 ^ k : Nat) : Int) = (2 : Int) ^ k := by simp
  omega
/-- one minute, one more: what the turn finds -/
theorem turn_ok {w minute more : Int} (hw : 0 ≤ w) (h0 : 0 ≤ minute) (h1 : 0 ≤ more) :
    late w more minute = (if minute < w then minute + up (w - minute) (1 + more) else w) ∧ late w more minute ≤ w ∧ min w minute ≤ late w more minute ∧ (more = 0 → late w more minute = w) ∧ late w (more + 1) minute ≤ late w more minute := by
  unfold late
  by_cases c : w ≤ minute
  · rw [if_pos c, if_neg (by omega), if_pos c]
    exact ⟨rfl, by omega, by omega, fun _ => rfl, by omega⟩
  · have g1 := up_le (n := w - minute) (b := more + 1) (by omega) (by omega)
    have g2 := up_nn (n := w - minute) (b := more + 1) (by omega) (by omega)
    have g3 := up_more (n := w - minute) (b := more + 1) (by omega) (by omega)
    rw [if_neg c, if_pos (by omega), if_neg c, Int.add_comm 1 more]
    refine ⟨rfl, by omega, by omega, fun e => ?_, by omega⟩
    subst e
    rw [show (0 : Int) + 1 = 1 by decide, up_one]
    omega
abbrev stM (ps : List Int) (sp : Int) (c : D) (a3 a4 a5 a6 a7 a8 a9 a10 a11 : Sl) : Rho := [.m c, .p (tupI ps), .p (.int sp), a3, a4, a5, a6, a7, a8, a9, a10, a11, .un]
abbrev iS (i : Int) : Sl := .p (.int i)
theorem cm_minutes {c : D} {ps : List Int} {sp : Int} {Q : D → D → Prop} (hc : Dr c) (hl : ps.length ≤ 8) (hp : ∀ p ∈ ps, 0 ≤ p ∧ p ≤ 60 * 10 ^ 20) (h0 : 0 < sp) (h1 : sp ≤ 40) (h : ∀ c', Dr c' → Q (.bool true) c') : Cm m__law_are_minutes_right c [tupI ps, .int sp] Q := by
  refine fnM_go [.m c, .p (tupI ps), .p (.int sp), .un, .un, .un, .un, .un, .un, .un, .un, .un, .un] rfl ?_
  obtain ⟨w, hw⟩ : ∃ w, w = need ps sp := ⟨_, rfl⟩
  have w0 : 0 ≤ w := by rw [hw]; exact need_nn h0 fun p hq => (hp p hq).1
  have w1 : w < 2 ^ 100 := by
    have := need_le h0 hl hp (by decide)
    rw [hw]
    omega
  have dk : ∀ i, divOk i sp = true := fun i => divOk_small h0 (by omega)
  -- whole
  have z := compPE_all (it := puI (vP 1)) (g := setP 12) (e := puA m__law_up (aC (pu2 mulD (cC (.int 60)) (vP 12)) (aC (vP 2) aN))) (vs := [12]) (ρ := [.m c, .p (tupI ps), .p (.int sp), .un, .un, .un, .un, .un, .un, .un, .un, .un, .un]) PyData.int (fun n => .int (up (n * 60) sp)) ps (by simp) (by simp) (by simp [lim]; omega) fun x hx => ⟨_, rfl, by
    have a : mulD (.int 60) (.int x) = some (.int (60 * x)) := mulD_int (mulOk_l (by decide) (by decide))
    have b := m_lup (n := 60 * x) (b := sp) (dk _)
    rw [up_law h0, Int.mul_comm 60 x] at b
    simp [a, Int.mul_comm 60 x, b]⟩
  have e : (ps.map fun n => PyData.int (up (n * 60) sp)) = (ps.map fun n => up (n * 60) sp).map .int := by rw [List.map_map]; rfl
  rw [e] at z
  have zs := sumD_list (ps.map fun n => up (n * 60) sp)
  have ew : sumI (ps.map fun n => up (n * 60) sp) = w := by rw [hw]; rfl
  rw [ew] at zs
  refine rn_seq (rn_setP (ev_lift ⟨.int w, by simp only [puA_eq, aC_eq, aN_eq, z, Option.bind_some, Option.map_some, on1_one, zs], stM ps sp c (iS w) .un .un .un .un .un .un .un .un, rfl, ?_⟩))
  rw [sq_nx]
  -- at
  refine rn_seq (rn_setP (ev_callM ⟨c, rfl, aw_lift ⟨[.int (ps.length + 1)], by simp, c, rfl, ?_⟩⟩))
  rw [take_eq]
  refine cm_take hc (by omega) fun v c1 v0 v1 hc1 => ?_
  obtain ⟨j, rfl⟩ : ∃ j : Nat, v = (j : Int) := ⟨v.toNat, by omega⟩
  have hj : j ≤ ps.length := by omega
  refine ⟨stM ps sp c1 (iS w) (iS j) .un .un .un .un .un .un .un, rfl, ?_⟩
  rw [sq_nx]
  have n1 := m_need (ps := ps) (b := sp) (by simp [lim]; omega) dk
  have n2 := m_need (ps := ps.take j) (b := sp) (by simp [lim]; omega) dk
  have n3 := m_need (ps := ps.drop j) (b := sp) (by simp [lim]; omega) dk
  have c1' : DL.cutD (ps.map PyData.int) none (some (j : Int)) = (ps.take j).map .int := by rw [cut_to _ (by simpa using hj), List.map_take]
  have c2' : DL.cutD (ps.map PyData.int) (some (j : Int)) none = (ps.drop j).map .int := by rw [cut_from _ (by simpa using hj), List.map_drop]
  have n4 : need (ps.take j) sp + need (ps.drop j) sp = w := by rw [← need_app, List.take_append_drop, hw]
  rw [← hw] at n1
  have s1 := same_int w
  refine rn_seq (rn_if (te_lift ⟨false, by
    show orP _ _ [.m c1, .p (tupI ps), .p (.int sp), .p (.int w), .p (.int j), .un, .un, .un, .un, .un, .un, .un, .un] = _
    simp only [orP_eq, notP_eq, tstP_eq, puA_eq, aC_eq, aN_eq, puS_eq, oN_eq, oI_eq, pu2_eq, vP_succ, vP_zero, Option.bind_some, Option.map_some, intOf_int, slD_tup, c1', c2', n1, n2, n3, addD_int, n4, s1, blOf_bool, Bool.not_true, Bool.false_eq_true, if_false], fun z => (by cases z), fun _ => rn_nx ?_⟩))
  rw [sq_nx]
  -- begin
  refine rn_seq (rn_setP (ev_seq2 (ev_callM ⟨c1, rfl, aw_lift ⟨[.int 4000], rfl, c1, rfl, ?_⟩⟩)))
  refine cm_take hc1 (by decide) fun vb c2 b0 b1 hc2 => ?_
  refine ev_lift ⟨.int 2000, rfl, _, subD_int, stM ps sp c2 (iS w) (iS j) (iS (vb - 2000)) .un .un .un .un .un .un, rfl, ?_⟩
  rw [sq_nx]
  generalize vb - 2000 = bg
  -- day
  refine rn_seq (rn_setP (ev_seq2 (ev_mkL (aw_cons (ev_seq2 (ev_lift ⟨.int 1, rfl, ev_callM ⟨c2, rfl, aw_lift ⟨[.int 600], rfl, c2, rfl, ?_⟩⟩⟩))))))
  refine cm_take hc2 (by decide) fun vd c3 d0 d1 hc3 => ?_
  refine ⟨_, addD_int, aw_cons (ev_lift ⟨.int (1 + w), rfl, aw_cons (ev_lift ⟨.int (max 1 w), by
    show puA max2D _ [.m c3, .p (tupI ps), .p (.int sp), .p (.int w), .p (.int j), .p (.int bg), .un, .un, .un, .un, .un, .un, .un] = _
    simp, aw_lift ⟨[], rfl, ev_callM ⟨c3, rfl, aw_lift ⟨[.int 3], rfl, c3, rfl, ?_⟩⟩⟩⟩)⟩)⟩
  refine cm_take hc3 (by decide) fun v3 c4 e0 e1 hc4 => ?_
  obtain ⟨day, hday, day0, day1⟩ : ∃ day, ixD (.list [.int (1 + vd), .int (1 + w), .int (max 1 w)]) (.int v3) = some (.int day) ∧ 0 < day ∧ day < 2 ^ 101 := by
    have : v3 = 0 ∨ v3 = 1 ∨ v3 = 2 := by omega
    rcases this with rfl | rfl | rfl
    · exact ⟨_, rfl, by omega, by omega⟩
    · exact ⟨_, rfl, by omega, by omega⟩
    · exact ⟨_, rfl, by omega, by omega⟩
  refine ⟨_, hday, stM ps sp c4 (iS w) (iS j) (iS bg) (iS day) .un .un .un .un .un, rfl, ?_⟩
  rw [sq_nx]
  -- told
  have me := m_ends (ps := ps) (s := sp) (b := bg) (d := day) hl h0 (by omega) day0 (Int.lt_trans day1 (by decide))
  rw [← hw] at me
  obtain ⟨u, hu⟩ : ∃ u, u = max (up w day - 1) 0 := ⟨_, rfl⟩
  rw [← hu] at me
  have u0 : 0 ≤ u := by omega
  have u1 : u ≤ w := by
    have := up_le day0 w0
    omega
  obtain ⟨q1, q2⟩ := up_spec (n := w) day0
  have q3 : ¬ (u + 1) * day < w := by
    have : up w day ≤ u + 1 := by omega
    have := Int.mul_le_mul_of_nonneg_left this (show 0 ≤ day by omega)
    rw [Int.mul_comm (u + 1) day]
    omega
  have q4 : 0 < u → ¬ w ≤ u * day := fun hu0 => by
    have : u = up w day - 1 := by omega
    rw [this, Int.mul_comm, Int.mul_sub, Int.mul_one]
    omega
  refine rn_seq (rn_setP (ev_lift ⟨.int (bg + u), by simp [me], stM ps sp c4 (iS w) (iS j) (iS bg) (iS day) (iS (bg + u)) .un .un .un .un, rfl, ?_⟩))
  rw [sq_nx]
  have k1 : bg + u - bg = u := by omega
  have k2 : mulD (.int (u + 1)) (.int day) = some (.int ((u + 1) * day)) := mulD_int (mulOk_wide (a := 101) (b := 101) (wide (by omega) (by omega)) (wide (by omega) day1))
  have k3 : mulD (.int u) (.int day) = some (.int (u * day)) := mulD_int (mulOk_wide (a := 101) (b := 101) (wide (by omega) (by omega)) (wide (by omega) day1))
  have k4 : ¬ bg + u < bg := by omega
  refine rn_seq (rn_if (te_lift ⟨false, by
    show orP _ _ (stM ps sp c4 (iS w) (iS j) (iS bg) (iS day) (iS (bg + u)) .un .un .un .un) = _
    simp [k1, k2, q3, k4], fun z => (by cases z), fun _ => rn_nx ?_⟩))
  rw [sq_nx]
  refine rn_seq (rn_if (te_lift ⟨false, by
    show andP _ _ (stM ps sp c4 (iS w) (iS j) (iS bg) (iS day) (iS (bg + u)) .un .un .un .un) = _
    by_cases c : 0 < u
    · have c2 : bg < bg + u := by omega
      simp [k1, k3, q4 c, c2]
    · have c2 : ¬ bg < bg + u := by omega
      simp [c2], fun z => (by cases z), fun _ => rn_nx ?_⟩))
  rw [sq_nx]
  -- the minutes
  have half : divD (.int w) (.int 2) = some (.int (w / 2)) := divD_int (divOk_small (by decide) (by decide))
  refine rn_seq (rn_for (aw_items (ev_mkL (aw_cons (ev_lift ⟨.int 0, rfl, aw_cons (ev_lift ⟨.int w, rfl, aw_cons (ev_lift ⟨.int (w / 2), half, aw_cons (ev_callM ⟨c4, rfl, aw_lift ⟨[.int 500], rfl, c4, rfl, ?_⟩⟩)⟩)⟩)⟩)))))
  refine cm_take hc4 (by decide) fun v5 c5 f0 f1 hc5 => ?_
  refine aw_cons (ev_lift ⟨.int (w + 7), rfl, aw_lift ⟨[], rfl, [0, w, w / 2, v5, w + 7].map PyData.int, rfl, ?_⟩⟩)
  refine rn_forL PyData.int (fun left ρ => ∃ (c : D) (a8 a9 a10 a11 : Sl), Dr c ∧ (∀ x ∈ left, 0 ≤ x) ∧ ρ = stM ps sp c (iS w) (iS j) (iS bg) (iS day) (iS (bg + u)) a8 a9 a10 a11 ∧ a8.pl = true ∧ a9.pl = true ∧ a10.pl = true ∧ a11.pl = true) _
    ⟨c5, .un, .un, .un, .un, hc5, fun x hx => by simp at hx; omega, rfl, rfl, rfl, rfl, rfl⟩ ?_ ?_
  · rintro x left ρ ⟨c, a8, a9, a10, a11, hc, hx, rfl, p8, p9, p10, p11⟩
    have x0 : 0 ≤ x := hx x List.mem_cons_self
    refine ⟨stM ps sp c (iS w) (iS j) (iS bg) (iS day) (iS (bg + u)) (iS x) a9 a10 a11, by simp [p8], ?_⟩
    refine rn_for (aw_items (ev_mkL (aw_cons (ev_lift ⟨.int 0, rfl, aw_cons (ev_lift ⟨.int 1, rfl, aw_cons (ev_callM ⟨c, rfl, aw_lift ⟨[.int 6], rfl, c, rfl, ?_⟩⟩)⟩)⟩))))
    refine cm_take hc (by decide) fun v6 c6 g0 g1 hc6 => ?_
    refine aw_lift ⟨[], rfl, [0, 1, v6].map PyData.int, rfl, ?_⟩
    refine rn_forL PyData.int (fun left2 ρ => ∃ (a9 a10 a11 : Sl), (∀ x ∈ left2, 0 ≤ x ∧ x < 100) ∧ ρ = stM ps sp c6 (iS w) (iS j) (iS bg) (iS day) (iS (bg + u)) (iS x) a9 a10 a11 ∧ a9.pl = true ∧ a10.pl = true ∧ a11.pl = true) _
      ⟨a9, a10, a11, fun y hy => by simp at hy; omega, rfl, p9, p10, p11⟩ ?_ ?_
    · rintro y left2 ρ ⟨a9, a10, a11, hy, rfl, p9, p10, p11⟩
      obtain ⟨y0, y1⟩ := hy y List.mem_cons_self
      obtain ⟨t1, t2, t3, t4, t5⟩ := turn_ok (w := w) (minute := x) (more := y) w0 x0 y0
      have L1 := m_late (ps := ps) (s := sp) (more := y) (at_ := x) hl h0 (by omega) y0 (by omega)
      have L2' := m_late (ps := ps) (s := sp) (more := y + 1) (at_ := x) hl h0 (by omega) (by omega) (by omega)
      rw [← hw] at L1 L2'
      have U := m_lup (n := w - x) (b := 1 + y) (divOk_small (by omega) (by omega))
      rw [up_law (by omega)] at U
      generalize late w y x = en at *
      generalize late w (y + 1) x = en2 at *
      refine ⟨stM ps sp c6 (iS w) (iS j) (iS bg) (iS day) (iS (bg + u)) (iS x) (iS y) a10 a11, by simp [p9], ?_⟩
      refine rn_seq (rn_setP (ev_lift ⟨.int w, rfl, stM ps sp c6 (iS w) (iS j) (iS bg) (iS day) (iS (bg + u)) (iS x) (iS y) (iS w) a11, by simp [p10], ?_⟩))
      rw [sq_nx]
      have rest : Rn (sSeq (sSetP 11 (lift (puA m_joined_late (aC (vP 1) (aC (vP 2) (aC (vP 9) (aC (vP 8) aN))))))) (sSeq (sIf (liftT (orP (notP (tstP (puA (m__law_same 6) (aC (vP 11) (aC (vP 10) aN))))) (orP (tstP (pu2 gtD (vP 11) (vP 3))) (orP (tstP (pu2 ltD (vP 11) (puA min2D (aC (vP 3) (aC (vP 8) aN))))) (andP (tstP (pu2 eqD (vP 9) (cC (.int 0)))) (tstP (pu2 neD (vP 11) (vP 3)))))))) (sRt (lift (cC (.bool false)))) sNx) (sIf (liftT (tstP (pu2 gtD (puA m_joined_late (aC (vP 1) (aC (vP 2) (aC (pu2 addD (vP 9) (cC (.int 1))) (aC (vP 8) aN))))) (vP 11)))) (sRt (lift (cC (.bool false)))) sNx)))
          (stM ps sp c6 (iS w) (iS j) (iS bg) (iS day) (iS (bg + u)) (iS x) (iS y) (iS en) a11) (fun o => ∃ a11', o = .nx (stM ps sp c6 (iS w) (iS j) (iS bg) (iS day) (iS (bg + u)) (iS x) (iS y) (iS en) a11') ∧ a11'.pl = true) := by
        refine rn_seq (rn_setP (ev_lift ⟨.int en, by simp [L1], stM ps sp c6 (iS w) (iS j) (iS bg) (iS day) (iS (bg + u)) (iS x) (iS y) (iS en) (iS en), by simp [p11], ?_⟩))
        rw [sq_nx]
        have s2 := same_int en
        have n1 : ¬ w < en := by omega
        have n2 : ¬ en < min w x := by omega
        have n3 : y = 0 → en = w := t4
        refine rn_seq (rn_if (te_lift ⟨false, ?_, fun z => (by cases z), fun _ => rn_nx ?_⟩))
        · show orP _ _ (stM ps sp c6 (iS w) (iS j) (iS bg) (iS day) (iS (bg + u)) (iS x) (iS y) (iS en) (iS en)) = _
          by_cases cy : y = 0
          · have e3 := n3 cy
            have s3 := same_int w
            have n5 : ¬ w < min w x := by omega
            have n6 : ¬ w < w := by omega
            simp only [e3, s3, n5, n6, orP_eq, notP_eq, tstP_eq, puA_eq, aC_eq, aN_eq, andP_eq, pu2_eq, cC_eq, vP_succ, vP_zero, Option.bind_some, Option.map_some, s2, gtD_int, ltD_int, min2D_int, eqD_int, neD_int, blOf_bool, decide_false, Bool.not_true, Bool.false_eq_true, if_false, cy, decide_true, if_true]
          · simp only [orP_eq, notP_eq, tstP_eq, puA_eq, aC_eq, aN_eq, andP_eq, pu2_eq, cC_eq, vP_succ, vP_zero, Option.bind_some, Option.map_some, s2, gtD_int, ltD_int, min2D_int, eqD_int, neD_int, blOf_bool, n1, n2, decide_false, Bool.not_true, Bool.false_eq_true, if_false, cy]
        · rw [sq_nx]
          have n4 : ¬ en < en2 := by omega
          refine rn_if (te_lift ⟨false, by
            show tstP _ (stM ps sp c6 (iS w) (iS j) (iS bg) (iS day) (iS (bg + u)) (iS x) (iS y) (iS en) (iS en)) = _
            simp [L2', n4], fun z => (by cases z), fun _ => rn_nx ⟨_, rfl, rfl⟩⟩)
      by_cases cx : x < w
      · rw [if_pos cx] at t1
        refine rn_seq (rn_if (te_lift ⟨true, by simp [cx], fun _ => ?_, fun z => (by cases z)⟩))
        refine rn_setP (ev_lift ⟨.int en, by simp [U, t1], stM ps sp c6 (iS w) (iS j) (iS bg) (iS day) (iS (bg + u)) (iS x) (iS y) (iS en) a11, rfl, ?_⟩)
        rw [sq_nx]
        obtain ⟨o, o1, a11', rfl, o3⟩ := rest
        exact ⟨_, o1, iS y, iS en, a11', fun z hz => hy z (List.mem_cons_of_mem _ hz), rfl, rfl, rfl, o3⟩
      · rw [if_neg cx] at t1
        refine rn_seq (rn_if (te_lift ⟨false, by simp [cx], fun z => (by cases z), fun _ => rn_nx ?_⟩))
        rw [sq_nx]
        obtain ⟨o, o1, a11', rfl, o3⟩ := rest
        rw [t1] at o1
        exact ⟨_, o1, iS y, iS w, a11', fun z hz => hy z (List.mem_cons_of_mem _ hz), rfl, rfl, rfl, o3⟩
    · rintro ρ ⟨a9, a10, a11, _, rfl, p9, p10, p11⟩
      exact ⟨c6, iS x, a9, a10, a11, hc6, fun z hz => hx z (List.mem_cons_of_mem _ hz), rfl, rfl, p9, p10, p11⟩
  · rintro ρ ⟨c, a8, a9, a10, a11, hc, _, rfl, _⟩
    rw [sq_nx]
    refine rn_rt (ev_lift ⟨.bool true, rfl, ?_⟩)
    simp
    exact h c hc
end K81
namespace K81
open PySem DL PyProof.Rows L2
theorem big20 : powD (.int 10) (.int 20) = some (.int 100000000000000000000) := by
  rw [powD_int (by decide +kernel)]
  rfl
theorem ix3 (a b c : Int) {i : Int} (h0 : 0 ≤ i) (h1 : i < 3) : ∃ x, ixD (.list [.int a, .int b, .int c]) (.int i) = some (.int x) ∧ (x = a ∨ x = b ∨ x = c) := by
  have : i = 0 ∨ i = 1 ∨ i = 2 := by omega
  rcases this with rfl | rfl | rfl
  · exact ⟨a, rfl, .inl rfl⟩
  · exact ⟨b, rfl, .inr (.inl rfl)⟩
  · exact ⟨c, rfl, .inr (.inr rfl)⟩
theorem law_true (ns : List Int) (h : ns.length ≤ 63) (hb : ∀ z ∈ ns, Builtin.Int.intBits z ≤ 1048576) : m_law [.list (ns.map .int)] = some (.bool true) := by
  obtain ⟨c, hd, hc⟩ := draws_ok (ns := ns) (by omega) (many := 220) (by decide)
  refine fnP_go [.p (.list (ns.map .int)), .un, .un, .un, .un, .un] rfl ?_
  refine rn_seq (rn_setO (ev_lift ⟨c, by rw [draws_eq]; exact hd, [.p (.list (ns.map .int)), .o c, .un, .un, .un, .un], rfl, ?_⟩))
  rw [sq_nx]
  refine rn_seq (rn_for (aw_lift ⟨[0, 1].map fun i : Nat => PyData.int (i : Int), rfl, ?_⟩))
  refine rn_forL (fun i : Nat => PyData.int (i : Int)) (fun _ ρ => ∃ (c : D) (a2 a3 a4 a5 : Sl), Dr c ∧ ρ = [.p (.list (ns.map .int)), .o c, a2, a3, a4, a5] ∧ a2.pl = true ∧ a3.pl = true ∧ a4.pl = true ∧ a5.pl = true) _ ⟨c, .un, .un, .un, .un, hc, rfl, rfl, rfl, rfl, rfl⟩ ?_ ?_
  · rintro i left ρ ⟨c, a2, a3, a4, a5, hc, rfl, p2, p3, p4, p5⟩
    refine ⟨[.p (.list (ns.map .int)), .o c, iS i, a3, a4, a5], by simp [p2], ?_⟩
    -- scale
    refine rn_seq (rn_setP (ev_seq2 (ev_mkL (aw_cons (ev_lift ⟨.int 1, rfl, aw_cons (ev_lift ⟨.int 1, rfl, aw_cons (ev_seq2 (ev_lift ⟨.int 1, rfl, ev_seq2 (ev_seqA (aw_cons (ev_callM ⟨c, rfl, aw_cons (ev_lift ⟨_, rfl, aw_lift ⟨[], rfl, c, rfl, ?_⟩⟩)⟩)))⟩))⟩)⟩)))))
    rw [cell_eq, take_eq]
    refine cm_cell hc fun v c1 v0 v1 hc1 => ?_
    refine aw_lift ⟨[], rfl, _, absD_int, ev_lift ⟨_, big20, _, modD_int (by decide), _, addD_int, aw_lift ⟨[], rfl, ev_callM ⟨c1, rfl, aw_lift ⟨[.int 3], rfl, c1, rfl, ?_⟩⟩⟩⟩⟩
    have m0 := Int.emod_nonneg (if v < 0 then -v else v) (b := 100000000000000000000) (by decide)
    have m1 := Int.emod_lt_of_pos (if v < 0 then -v else v) (b := 100000000000000000000) (by decide)
    generalize (if v < 0 then -v else v) % 100000000000000000000 = y at m0 m1
    refine cm_take hc1 (by decide) fun v2 c2 e0 e1 hc2 => ?_
    obtain ⟨sc, hs, hs'⟩ := ix3 1 1 (1 + y) e0 e1
    have sc0 : 0 < sc := by omega
    have sc1 : sc ≤ 10 ^ 20 := by omega
    refine ⟨_, hs, [.p (.list (ns.map .int)), .o c2, iS i, a3, iS sc, a5], by simp [p4], ?_⟩
    rw [sq_nx]
    -- makers
    refine rn_seq (rn_setP (ev_seq2 (ev_lift ⟨.int 1, rfl, ev_callM ⟨c2, rfl, aw_lift ⟨[.int 3], rfl, c2, rfl, ?_⟩⟩⟩)))
    refine cm_take hc2 (by decide) fun v3 c3 f0 f1 hc3 => ?_
    obtain ⟨m, hm⟩ : ∃ m : Nat, 1 + v3 = (m : Int) := ⟨(1 + v3).toNat, by omega⟩
    refine ⟨_, addD_int, [.p (.list (ns.map .int)), .o c3, iS i, a3, iS sc, iS m], by rw [hm]; simp [p5], ?_⟩
    rw [sq_nx]
    have hm0 : 0 < m := by omega
    have hm3 : m ≤ 3 := by omega
    -- parts
    obtain ⟨b, hb1, hb2⟩ := ix3 8 8 6 (i := (m : Int) - 1) (by omega) (by omega)
    refine rn_seq (rn_setP (ev_callM ⟨c3, rfl, aw_cons (ev_callM ⟨c3, rfl, aw_lift ⟨[.int b], by
      show aC _ _ [.p (.list (ns.map .int)), .o c3, iS i, a3, iS sc, iS m] = _
      simp only [aC_eq, aN_eq, pu2_eq, mkLP_eq, cC_eq, vP_succ, vP_zero, Option.bind_some, Option.map_some, subD_int, hb1], c3, rfl, ?_⟩⟩)⟩))
    refine cm_take hc3 (by omega) fun v4 c4 g0 g1 hc4 => ?_
    obtain ⟨n, rfl⟩ : ∃ n : Nat, v4 = (n : Int) := ⟨v4.toNat, by omega⟩
    refine aw_cons (ev_lift ⟨.int sc, rfl, aw_lift ⟨[], rfl, c4, rfl, ?_⟩⟩)
    refine cm_parts hc4 (n := n) (by omega) sc0 fun ps c5 hl hp hc5 => ?_
    refine ⟨[.p (.list (ns.map .int)), .o c5, iS i, .p (tupI ps), iS sc, iS m], by simp [p3], ?_⟩
    rw [sq_nx]
    have hp1 : ∀ p ∈ ps, 0 ≤ p ∧ p ≤ 60 * 10 ^ 20 := fun p hq => by
      have := hp p hq
      omega
    refine rn_if (te_or (te_not (te_tst (ev_callM ⟨c5, rfl, aw_lift ⟨[tupI ps, .int m], rfl, c5, rfl, ?_⟩⟩))))
    refine cm_shares hc5 (by omega) (fun p hq => (hp1 p hq).1) hm0 hm3 fun c6 hc6 => ?_
    refine ⟨true, rfl, fun _ => ?_, fun z => by cases z⟩
    refine te_not (te_tst (ev_callM ⟨c6, rfl, aw_cons (ev_lift ⟨tupI ps, rfl, aw_cons (ev_seq2 (ev_lift ⟨.int 1, rfl, ev_callM ⟨c6, rfl, aw_lift ⟨[.int 40], rfl, c6, rfl, ?_⟩⟩⟩))⟩)⟩))
    refine cm_take hc6 (by decide) fun v7 c7 i0 i1 hc7 => ?_
    refine ⟨_, addD_int, aw_lift ⟨[], rfl, c7, rfl, ?_⟩⟩
    refine cm_minutes hc7 (by omega) hp1 (by omega) (by omega) fun c8 hc8 => ?_
    refine ⟨true, rfl, fun z => (by cases z), fun _ => rn_nx ?_⟩
    exact ⟨c8, iS i, .p (tupI ps), iS sc, iS m, hc8, rfl, rfl, rfl, rfl, rfl⟩
  · rintro ρ ⟨c, a2, a3, a4, a5, hc, rfl, p2, p3, p4, p5⟩
    rw [sq_nx]
    refine rn_seq (rn_setP (ev_lift ⟨tupI [7, 3, 5, 4], rfl, [.p (.list (ns.map .int)), .o c, a2, .p (tupI [7, 3, 5, 4]), a4, a5], by simp [p3], ?_⟩))
    rw [sq_nx]
    have e1 : m_shared_parts [tupI [7, 3, 5, 4], .int 2] = some (.int 10) := (m_best (ps := [7, 3, 5, 4]) (m := 2) (by decide) (by decide) (by decide)).trans (by rw [show best [7, 3, 5, 4] 2 = 10 by decide +kernel])
    have e2 : m_told_shares [tupI [7, 3, 5, 4], .int 2] = some (tupI [0, 0, 1, 1]) := (m_told (ps := [7, 3, 5, 4]) (m := 2) (by decide) (by decide) (by decide)).trans (by rw [show told [7, 3, 5, 4] 2 = [0, 0, 1, 1] by decide +kernel])
    have e3 : m_shared_parts [tupI [7, 3, 5, 4], .int 3] = some (.int 7) := (m_best (ps := [7, 3, 5, 4]) (m := 3) (by decide) (by decide) (by decide)).trans (by rw [show best [7, 3, 5, 4] 3 = 7 by decide +kernel])
    have e4 : m_told_shares [tupI [7, 3, 5, 4], .int 3] = some (tupI [0, 1, 2, 1]) := (m_told (ps := [7, 3, 5, 4]) (m := 3) (by decide) (by decide) (by decide)).trans (by rw [show told [7, 3, 5, 4] 3 = [0, 1, 2, 1] by decide +kernel])
    have e5 : m_minutes_needed [tupI [7, 3, 5, 4], .int 7] = some (.int 164) := (m_need (ps := [7, 3, 5, 4]) (b := 7) (by decide) fun i => divOk_small (by decide) (by decide)).trans (by rw [show need [7, 3, 5, 4] 7 = 164 by decide +kernel])
    have e6 : m_ends_by [tupI [7, 3, 5, 4], .int 7, .int 3, .int 82] = some (.int 4) := (m_ends (ps := [7, 3, 5, 4]) (s := 7) (b := 3) (d := 82) (by decide) (by decide) (by decide) (by decide) (by decide)).trans (by rw [show (3 : Int) + max (up (need [7, 3, 5, 4] 7) 82 - 1) 0 = 4 by decide +kernel])
    have e7 : m_joined_late [tupI [7, 3, 5, 4], .int 7, .int 1, .int 41] = some (.int 103) := (m_late (ps := [7, 3, 5, 4]) (s := 7) (more := 1) (at_ := 41) (by decide) (by decide) (by decide) (by decide) (by decide)).trans (by rw [show late (need [7, 3, 5, 4] 7) 1 41 = 103 by decide +kernel])
    have e8 : m_shared_parts [tupI [], .int 2] = some (.int 0) := (m_best (ps := []) (m := 2) (by decide) (by decide) (by decide)).trans (by rw [show best [] 2 = 0 by decide +kernel])
    have e9 : m_told_shares [tupI [], .int 3] = some (tupI []) := (m_told (ps := []) (m := 3) (by decide) (by decide) (by decide)).trans (by rw [show told [] 3 = [] by decide +kernel])
    have e10 : m_ends_by [tupI [], .int 9, .int 5, .int 60] = some (.int 5) := (m_ends (ps := []) (s := 9) (b := 5) (d := 60) (by decide) (by decide) (by decide) (by decide) (by decide)).trans (by rw [show (5 : Int) + max (up (need [] 9) 60 - 1) 0 = 5 by decide +kernel])
    have t1 := same_tup (ns := [0, 0, 1, 1]) (by decide)
    have t2 := same_tup (ns := [0, 1, 2, 1]) (by decide)
    have t3 := same_tup (ns := []) (by decide)
    simp only [tupI, List.map_cons, List.map_nil] at e1 e2 e3 e4 e5 e6 e7 e8 e9 e10 t1 t2 t3
    refine rn_seq (rn_if (te_lift ⟨false, by simp [tupI, e1, e2, e3, t1, same_int], fun z => (by cases z), fun _ => rn_nx ?_⟩))
    rw [sq_nx]
    refine rn_seq (rn_if (te_lift ⟨false, by simp [tupI, e4, e5, e6, t2, same_int], fun z => (by cases z), fun _ => rn_nx ?_⟩))
    rw [sq_nx]
    refine rn_rt (ev_lift ⟨.bool true, by simp [tupI, e7, e8, e9, e10, t3, same_int], ?_⟩)
    rfl
end K81
open PySem PySem.W PyProof.Rows
set_option maxHeartbeats 0 in
theorem PySem.Challenge.cw_leadstrue_k81_whole_parts_shared_by_make_holds : PySem.Challenge.rw_leadstrue_k81_whole_parts_shared_by_make.Holds := by
  w_on; o_law; k_head; (case hw => w_witness2)
  k_fill
  refine L2.walk_ofB (l := PySem.Challenge.rw_leadstrue_k81_whole_parts_shared_by_make) (n := 63) (k := 8) (x := "script") (CX := fun _ => L2.CX0) (sp := fun w => DL.spP _ 1 .k K81.m_law) rfl (by decide) rfl ⟨rfl, by decide, by decide⟩ (fun w h Y => PySem.W.kIn_of Y) ?F (fun _ H a ns hl hb _ hS => DL.sp_top hS (K81.law_true ns hl hb)) (fun _ _ _ _ _ h => h)
  case F =>
    intro w mg fa h KX G hmg
    refine' K81.all_mk KX G hmg ?a0 ?l0 ?c0 ?k0 ?a1 ?l1 ?c1 ?k1 ?a2 ?l2 ?c2 ?k2 ?a3 ?l3 ?c3 ?k3 ?a4 ?l4 ?c4 ?k4 ?a5 ?l5 ?c5 ?k5 ?a6 ?l6 ?c6 ?k6 ?a7 ?l7 ?c7 ?k7 ?a8 ?l8 ?c8 ?k8 ?a9 ?l9 ?c9 ?k9 ?a10 ?l10 ?c10 ?k10 ?a11 ?l11 ?c11 ?k11 ?a12 ?l12 ?c12 ?k12 ?a13 ?l13 ?c13 ?k13 ?a14 ?l14 ?c14 ?k14 ?a15 ?l15 ?c15 ?k15 ?a16 ?l16 ?c16 ?k16 ?a17 ?l17 ?c17 ?k17 ?a18 ?l18 ?c18 ?k18 ?a19 ?l19 ?c19 ?k19 ?z_abs ?z_bool ?z_int ?z_isinstance ?z_len ?z_list ?z_max ?z_min ?z_range ?z_str ?z_sum ?z_tuple
    (case a0 => k_is); (case l0 => k_is); (case c0 => k_is); (case k0 => k_is); (case a1 => k_is); (case l1 => k_is); (case c1 => k_is); (case k1 => k_is); (case a2 => k_is); (case l2 => k_is); (case c2 => k_is); (case k2 => k_is); (case a3 => k_is); (case l3 => k_is); (case c3 => k_is); (case k3 => k_is); (case a4 => k_is); (case l4 => k_is); (case c4 => k_is); (case k4 => k_is); (case a5 => k_is); (case l5 => k_is); (case c5 => k_is); (case k5 => k_is); (case a6 => k_is); (case l6 => k_is); (case c6 => k_is); (case k6 => k_is); (case a7 => k_is); (case l7 => k_is); (case c7 => k_is); (case k7 => k_is); (case a8 => k_is); (case l8 => k_is); (case c8 => k_is); (case k8 => k_is); (case a9 => k_is); (case l9 => k_is); (case c9 => k_is); (case k9 => k_is); (case a10 => k_is); (case l10 => k_is); (case c10 => k_is); (case k10 => k_is); (case a11 => k_is); (case l11 => k_is); (case c11 => k_is); (case k11 => k_is); (case a12 => k_is); (case l12 => k_is); (case c12 => k_is); (case k12 => k_is); (case a13 => k_is); (case l13 => k_is); (case c13 => k_is); (case k13 => k_is); (case a14 => k_is); (case l14 => k_is); (case c14 => k_is); (case k14 => k_is); (case a15 => k_is); (case l15 => k_is); (case c15 => k_is); (case k15 => k_is); (case a16 => k_is); (case l16 => k_is); (case c16 => k_is); (case k16 => k_is); (case a17 => k_is); (case l17 => k_is); (case c17 => k_is); (case k17 => k_is); (case a18 => k_is); (case l18 => k_is); (case c18 => k_is); (case k18 => k_is); (case a19 => k_is); (case l19 => k_is); (case c19 => k_is); (case k19 => k_is); (case z_abs => k_is); (case z_bool => k_is); (case z_int => k_is); (case z_isinstance => k_is); (case z_len => k_is); (case z_list => k_is); (case z_max => k_is); (case z_min => k_is); (case z_range => k_is); (case z_str => k_is); (case z_sum => k_is); (case z_tuple => k_is)
