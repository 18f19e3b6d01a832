import PyProof.Rows.All
import Wide.All
import OpenK.AllK
import Wide.FinOn
import HandS.ForMost
import HandS.TupAny
import HandS.TupMul
import HandS.Wide
import HandS.Style
import HandS.Flow
import HandS.Conv
import HandS.IsInst
import KE.SortData
import KE.DataEq
import KE.DataCmp
import KE.DataMinMax
import KE.DataAny
import KE.DataFind
import KE.Datum
import KE.DatumOrd
import KE.DatumMore
import HandS.Strs
import PyProof.SumAny
import PyProof.Rows.RowBridgeK
import HandS.Words
import HandS.Ends
import HandS.Codes
import HandS.EndBits
import HandS.Text
import HandS.Replace
import HandS.More
import HandS.SetKeys
import HandS.SetFor
import HandS.NoneIn
import PySem.Challenge.RW_leadstrue_k90_whole_measures_and_tunes
set_option Elab.async false
set_option linter.all false
set_option maxRecDepth 100000
namespace DL
open L2 PyProof.Rows PySem PySem.Spec
/-! ## plain data -/
abbrev D := PyData
abbrev Fg := PySem.W.Frag
abbrev Ad := Addr → Prop
def keyD : Key → D
  | .inl i => .int i
  | .inr x => .str x
mutual
/-- the value v, over the heap's part G, bears the datum d -/
inductive Dn (K : Fg) (G : Hp) : V → D → Prop
  | non : Dn K G .non .none
  | bl (b : Bool) : Dn K G (.bl b) (.bool b)
  | int (i : Int) : Dn K G (.int i) (.int i)
  | str (x : Str) : Dn K G (.str x) (.str x)
  | lst {a : Addr} {xs : List V} {ds : List D} : SqL K G a xs → DnL K G xs ds → Dn K G (.ref a) (.list ds)
  | tup {a : Addr} {xs : List V} {ds : List D} : G a = some (.tup xs) → DnL K G xs ds → Dn K G (.ref a) (.tuple ds)
  | dic {a : Addr} {ks : List (Key × V)} {ds : List (D × D)} : Rd G a (.dK ks) → DnK K G ks ds → Dn K G (.ref a) (.dict ds)
  | dct {a : Addr} {ks : List (List Key × V)} {ds : List (D × D)} : Rd G a (.dT ks) → DnT K G ks ds → Dn K G (.ref a) (.dict ds)
inductive DnL (K : Fg) (G : Hp) : List V → List D → Prop
  | nil : DnL K G [] []
  | cons {v : V} {vs : List V} {d : D} {ds : List D} : Dn K G v d → DnL K G vs ds → DnL K G (v :: vs) (d :: ds)
inductive DnK (K : Fg) (G : Hp) : List (Key × V) → List (D × D) → Prop
  | nil : DnK K G [] []
  | cons {k : Key} {v : V} {vs : List (Key × V)} {d : D} {ds : List (D × D)} : Dn K G v d → DnK K G vs ds → DnK K G ((k, v) :: vs) ((keyD k, d) :: ds)
inductive DnT (K : Fg) (G : Hp) : List (List Key × V) → List (D × D) → Prop
  | nil : DnT K G [] [(.none, .none)]
  | cons {k : List Key} {v : V} {vs : List (List Key × V)} {d : D} {ds : List (D × D)} : Dn K G v d → DnT K G vs ds → DnT K G ((k, v) :: vs) ((.tuple (k.map keyD), d) :: ds)
end
section
variable {K : Fg} {G G' : Hp}
theorem rdMono {a : Addr} {u : HO} (e : Same G G') (h : Rd G a u) : Rd G' a u := h.elim (fun q => .inl (e _ _ q)) fun ⟨o, q⟩ => .inr ⟨o, e _ _ q⟩
theorem seqMono {a : Addr} {xs : List V} (e : Same G G') (h : SqL K G a xs) : SqL K G' a xs := e.seq h
mutual
theorem Dn.mono (e : Same G G') : ∀ {v : V} {d : D}, Dn K G v d → Dn K G' v d
  | _, _, .non => .non
  | _, _, .bl b => .bl b
  | _, _, .int i => .int i
  | _, _, .str x => .str x
  | _, _, .lst h t => .lst (e.seq h) (DnL.mono e t)
  | _, _, .tup h t => .tup (e _ _ h) (DnL.mono e t)
  | _, _, .dic h t => .dic (rdMono e h) (DnK.mono e t)
  | _, _, .dct h t => .dct (rdMono e h) (DnT.mono e t)
theorem DnL.mono (e : Same G G') : ∀ {v : List V} {d : List D}, DnL K G v d → DnL K G' v d
  | _, _, .nil => .nil
  | _, _, .cons h t => .cons (Dn.mono e h) (DnL.mono e t)
theorem DnK.mono (e : Same G G') : ∀ {v : List (Key × V)} {d : List (D × D)}, DnK K G v d → DnK K G' v d
  | _, _, .nil => .nil
  | _, _, .cons h t => .cons (Dn.mono e h) (DnK.mono e t)
theorem DnT.mono (e : Same G G') : ∀ {v : List (List Key × V)} {d : List (D × D)}, DnT K G v d → DnT K G' v d
  | _, _, .nil => .nil
  | _, _, .cons h t => .cons (Dn.mono e h) (DnT.mono e t)
end
theorem DnL.length : ∀ {v : List V} {d : List D}, DnL K G v d → v.length = d.length
  | _, _, .nil => rfl
  | _, _, .cons _ t => congrArg (· + 1) (DnL.length t)
theorem DnL.get : ∀ {v : List V} {d : List D} {i : Nat} {x : D}, DnL K G v d → d[i]? = some x → ∃ u, v[i]? = some u ∧ Dn K G u x
  | _, _, _, _, .nil, e => by simp at e
  | _, _, 0, _, .cons h _, e => by simp at e; subst e; exact ⟨_, rfl, h⟩
  | _, _, i + 1, _, .cons _ t, e => by
    obtain ⟨u, h1, h2⟩ := DnL.get (i := i) t (by simpa using e)
    exact ⟨u, by simpa using h1, h2⟩
theorem DnL.getV : ∀ {v : List V} {d : List D} {i : Nat} {u : V}, DnL K G v d → v[i]? = some u → ∃ x, d[i]? = some x ∧ Dn K G u x
  | _, _, _, _, .nil, e => by simp at e
  | _, _, 0, _, .cons h _, e => by simp at e; subst e; exact ⟨_, rfl, h⟩
  | _, _, i + 1, _, .cons _ t, e => by
    obtain ⟨u, h1, h2⟩ := DnL.getV (i := i) t (by simpa using e)
    exact ⟨u, by simpa using h1, h2⟩
theorem DnL.append : ∀ {v w : List V} {d e : List D}, DnL K G v d → DnL K G w e → DnL K G (v ++ w) (d ++ e)
  | _, _, _, _, .nil, s => s
  | _, _, _, _, .cons h t, s => .cons h (DnL.append t s)
theorem DnL.take : ∀ {v : List V} {d : List D} (n : Nat), DnL K G v d → DnL K G (v.take n) (d.take n)
  | _, _, 0, _ => .nil
  | _, _, _ + 1, .nil => .nil
  | _, _, n + 1, .cons h t => .cons h (DnL.take n t)
theorem DnL.drop : ∀ {v : List V} {d : List D} (n : Nat), DnL K G v d → DnL K G (v.drop n) (d.drop n)
  | _, _, 0, r => r
  | _, _, _ + 1, .nil => .nil
  | _, _, n + 1, .cons _ t => DnL.drop n t
theorem DnL.one {v : V} {d : D} (h : Dn K G v d) : DnL K G [v] [d] := .cons h .nil
theorem DnL.reverse : ∀ {v : List V} {d : List D}, DnL K G v d → DnL K G v.reverse d.reverse
  | _, _, .nil => .nil
  | _, _, .cons h t => by rw [List.reverse_cons, List.reverse_cons]; exact (DnL.reverse t).append (.one h)
theorem DnL.set : ∀ {v : List V} {d : List D} {x : V} {y : D} (i : Nat), DnL K G v d → Dn K G x y → DnL K G (v.set i x) (d.set i y)
  | _, _, _, _, _, .nil, _ => .nil
  | _, _, _, _, 0, .cons _ t, r => .cons r t
  | _, _, _, _, i + 1, .cons h t, r => .cons h (DnL.set i t r)
theorem DnL.eraseIdx : ∀ {v : List V} {d : List D} (i : Nat), DnL K G v d → DnL K G (v.eraseIdx i) (d.eraseIdx i)
  | _, _, _, .nil => .nil
  | _, _, 0, .cons _ t => t
  | _, _, i + 1, .cons h t => .cons h (DnL.eraseIdx i t)
theorem DnL.dropLast {v : List V} {d : List D} (h : DnL K G v d) : DnL K G v.dropLast d.dropLast := by
  rw [List.dropLast_eq_take, List.dropLast_eq_take, h.length]; exact h.take _
theorem DnL.rep {v : List V} {d : List D} (h : DnL K G v d) : ∀ k : Nat, DnL K G (List.replicate k v).flatten (List.replicate k d).flatten
  | 0 => .nil
  | k + 1 => by
    simp only [List.replicate_succ, List.flatten_cons]
    exact h.append (DnL.rep h k)
/-- all of them ints, texts, bools -/
theorem DnL.ints : ∀ {v : List V} {ns : List Int}, DnL K G v (ns.map .int) → v = ns.map .int
  | [], [], _ => rfl
  | _, _ :: _, h => by
    cases h with
    | cons h t => cases h; rw [DnL.ints t]; rfl
theorem DnL.strs : ∀ {v : List V} {ns : List Str}, DnL K G v (ns.map .str) → v = ns.map .str
  | [], [], _ => rfl
  | _, _ :: _, h => by
    cases h with
    | cons h t => cases h; rw [DnL.strs t]; rfl
theorem DnL.bls : ∀ {v : List V} {ns : List Bool}, DnL K G v (ns.map .bool) → v = ns.map .bl
  | [], [], _ => rfl
  | _, _ :: _, h => by
    cases h with
    | cons h t => cases h; rw [DnL.bls t]; rfl
theorem DnL.ofInts : ∀ (ns : List Int), DnL K G (ns.map .int) (ns.map .int)
  | [] => .nil
  | n :: ns => .cons (.int n) (DnL.ofInts ns)
theorem DnL.ofStrs : ∀ (ns : List Str), DnL K G (ns.map .str) (ns.map .str)
  | [] => .nil
  | n :: ns => .cons (.str n) (DnL.ofStrs ns)
end
/-! ## a heap without some addresses -/
open Classical in
noncomputable def hide (H : Hp) (O : Ad) : Hp := fun a => if O a then none else H a
theorem hide_some {H : Hp} {O : Ad} {a : Addr} {o : HO} : hide H O a = some o ↔ ¬ O a ∧ H a = some o := by
  unfold hide
  by_cases h : O a
  · rw [if_pos h]; exact ⟨fun e => (by cases e), fun e => absurd h e.1⟩
  · rw [if_neg h]; exact ⟨fun e => ⟨h, e⟩, fun e => e.2⟩
theorem hide_sub {H : Hp} {O : Ad} : Same (hide H O) H := fun _ _ e => (hide_some.mp e).2
theorem hide_same {H H' : Hp} {O : Ad} (e : Same H H') : Same (hide H O) (hide H' O) := fun _ _ h => hide_some.mpr ⟨(hide_some.mp h).1, e _ _ (hide_some.mp h).2⟩
theorem hide_less {H : Hp} {O O' : Ad} (h : ∀ a, O' a → O a) : Same (hide H O) (hide H O') := fun _ _ e => hide_some.mpr ⟨fun q => (hide_some.mp e).1 (h _ q), (hide_some.mp e).2⟩
theorem hide_both {H H' : Hp} {O O' : Ad} (e : ∀ a o, ¬ O a → H a = some o → ¬ O' a ∧ H' a = some o) : Same (hide H O) (hide H' O') := fun _ _ h => hide_some.mpr (e _ _ (hide_some.mp h).1 (hide_some.mp h).2)
/-- what stands at a is the datum d, its parts over G -/
def Top (K : Fg) (G H : Hp) (a : Addr) (d : D) : Prop :=
  match d with
  | .list ds => ∃ xs, H a = some (.lst xs) ∧ DnL K G xs ds
  | .dict ds => (∃ ks, H a = some (.dK ks) ∧ DnK K G ks ds) ∨ ∃ ks, H a = some (.dT ks) ∧ DnT K G ks ds
  | _ => False
theorem Top.mono {K : Fg} {G G' H H' : Hp} {a : Addr} {d : D} (h : Top K G H a d) (e : Same G G') (k : ∀ o, H a = some o → H' a = some o) : Top K G' H' a d := by
  cases d with
  | list ds => obtain ⟨xs, h1, h2⟩ := h; exact ⟨xs, k _ h1, h2.mono e⟩
  | dict ds =>
    rcases h with ⟨ks, h1, h2⟩ | ⟨ks, h1, h2⟩
    · exact .inl ⟨ks, k _ h1, h2.mono e⟩
    · exact .inr ⟨ks, k _ h1, h2.mono e⟩
  | _ => exact h.elim
theorem Top.there {K : Fg} {G H : Hp} {a : Addr} {d : D} (h : Top K G H a d) : ∃ o, H a = some o ∧ ∀ xs, o ≠ .tup xs := by
  cases d with
  | list ds => obtain ⟨xs, h1, h2⟩ := h; exact ⟨_, h1, fun _ z => by cases z⟩
  | dict ds =>
    rcases h with ⟨ks, h1, h2⟩ | ⟨ks, h1, h2⟩
    · exact ⟨_, h1, fun _ z => by cases z⟩
    · exact ⟨_, h1, fun _ z => by cases z⟩
  | _ => exact h.elim
theorem Top.dn {K : Fg} {G H : Hp} {a : Addr} {d : D} (h : Top K G H a d) (hG : Same G H) : Dn K H (.ref a) d := by
  cases d with
  | list ds => obtain ⟨xs, h1, h2⟩ := h; exact .lst (.of h1) (h2.mono hG)
  | dict ds =>
    rcases h with ⟨ks, h1, h2⟩ | ⟨ks, h1, h2⟩
    · exact .dic (.inl h1) (h2.mono hG)
    · exact .dct (.inl h1) (h2.mono hG)
  | _ => exact h.elim
end DL
namespace DL
open L2 PyProof.Rows PySem PySem.Spec
/-! ## the state of a def: slots -/
/-- a slot: not told; plain data; a list or dict of the def's own; one of the caller's, handed in to be changed -/
inductive Sl where
  | un
  | p (d : D)
  | o (d : D)
  | m (d : D)
abbrev Rho := List Sl
def Sl.own : Sl → Bool
  | .o _ => true
  | .m _ => true
  | _ => false
/-- what is fixed while a def runs: what its callers own, its arguments, the heap at its entry -/
def Live (H : Hp) (a : Addr) : Prop := ∃ o, H a = some o ∧ ∀ xs, o ≠ .tup xs
theorem Live.ne {H : Hp} {a : Addr} (h : Live H a) : H a ≠ none := fun z => by obtain ⟨o, e, _⟩ := h; rw [z] at e; cases e
theorem Live.same {H H' : Hp} {a : Addr} (e : Same H H') (h : Live H a) : Live H' a := let ⟨o, q, n⟩ := h; ⟨o, e _ _ q, n⟩
theorem Live.upd {H : Hp} {a b : Addr} {o : HO} (h : Live H b) (n : b ≠ a) : Live (upd H a o) b := let ⟨u, q, m⟩ := h; ⟨u, by rw [upd_ne n]; exact q, m⟩
theorem Live.at {H H' : Hp} {a : Addr} (h : Live H a) (e : H' a = H a) : Live H' a := let ⟨u, q, m⟩ := h; ⟨u, e.trans q, m⟩
structure Fx where
  Oc : Ad
  a0 : L2.St
  H0 : Hp
def Own (σ : L2.St) (ρ : Rho) (i : Nat) (a : Addr) : Prop := ∃ s : Sl, ρ[i]? = some s ∧ s.own = true ∧ σ[i]? = some (some (.ref a))
def Ow (F : Fx) (σ : L2.St) (ρ : Rho) : Ad := fun a => F.Oc a ∨ ∃ i, Own σ ρ i a
def SlOk (K : Fg) (G H : Hp) (F : Fx) (i : Nat) (x : Option V) : Sl → Prop
  | .un => True
  | .p d => ∃ v, x = some v ∧ Dn K G v d
  | .o d => ∃ a, x = some (.ref a) ∧ Top K G H a d ∧ F.H0 a = none
  | .m d => ∃ a, x = some (.ref a) ∧ Top K G H a d ∧ F.a0[i]? = some (some (.ref a))
structure Rl (K : Fg) (F : Fx) (σ : L2.St) (H : Hp) (ρ : Rho) : Prop where
  len : σ.length = ρ.length
  slot : ∀ (i : Nat) (s : Sl), ρ[i]? = some s → ∃ x, σ[i]? = some x ∧ SlOk K (hide H (Ow F σ ρ)) H F i x s
  inj : ∀ (i j : Nat) (a : Addr), Own σ ρ i a → Own σ ρ j a → i = j
  oc : ∀ a, F.Oc a → Live H a ∧ ∀ i, ¬ Own σ ρ i a
  dom : ∀ a, F.H0 a ≠ none → H a ≠ none
structure Evo (F : Fx) (σ : L2.St) (H : Hp) (ρ : Rho) (σ' : L2.St) (H' : Hp) (ρ' : Rho) : Prop where
  kept : Same (hide H (Ow F σ ρ)) (hide H' (Ow F σ' ρ'))
  oc : ∀ a, F.Oc a → H' a = H a
  dom : ∀ a, H a ≠ none → H' a ≠ none
theorem Evo.refl {F : Fx} {σ : L2.St} {H : Hp} {ρ : Rho} : Evo F σ H ρ σ H ρ := ⟨.refl _, fun _ _ => rfl, fun _ h => h⟩
theorem Evo.trans {F : Fx} {σ σ1 σ2 : L2.St} {H H1 H2 : Hp} {ρ ρ1 ρ2 : Rho} (a : Evo F σ H ρ σ1 H1 ρ1) (b : Evo F σ1 H1 ρ1 σ2 H2 ρ2) : Evo F σ H ρ σ2 H2 ρ2 :=
  ⟨a.kept.trans b.kept, fun x h => (b.oc x h).trans (a.oc x h), fun x h => b.dom x (a.dom x h)⟩
theorem ne_none_of {H : Hp} {a : Addr} {o : HO} (h : H a = some o) : H a ≠ none := fun z => by rw [h] at z; cases z
theorem sameDom {H H' : Hp} (e : Same H H') {a : Addr} (h : H a ≠ none) : H' a ≠ none := by
  cases q : H a with
  | none => exact absurd q h
  | some o => rw [e _ _ q]; simp
theorem sameAt {H H' : Hp} (e : Same H H') {a : Addr} (h : H a ≠ none) : H' a = H a := by
  cases q : H a with
  | none => exact absurd q h
  | some o => exact e _ _ q
section
variable {K : Fg} {F : Fx} {σ : L2.St} {H H' : Hp} {ρ ρ' : Rho}
theorem Rl.own_top (R : Rl K F σ H ρ) {i : Nat} {a : Addr} (h : Own σ ρ i a) : ∃ d, Top K (hide H (Ow F σ ρ)) H a d := by
  obtain ⟨s, h1, h2, h3⟩ := h
  obtain ⟨x, e, ok⟩ := R.slot i s h1
  rw [h3] at e
  cases e
  cases s with
  | un => cases h2
  | p d => cases h2
  | o d => obtain ⟨b, e, t, _⟩ := ok; cases e; exact ⟨d, t⟩
  | m d => obtain ⟨b, e, t, _⟩ := ok; cases e; exact ⟨d, t⟩
/-- whatever is owned stands -/
theorem Rl.domL (R : Rl K F σ H ρ) : ∀ a, Ow F σ ρ a → Live H a := fun a h => by
  rcases h with h | ⟨i, h⟩
  · exact (R.oc a h).1
  · obtain ⟨d, t⟩ := R.own_top h
    exact t.there
theorem Rl.domO (R : Rl K F σ H ρ) : ∀ a, Ow F σ ρ a → H a ≠ none := fun a h => (R.domL a h).ne
theorem Rl.notTup (R : Rl K F σ H ρ) {a : Addr} {i : Nat} (h : Own σ ρ i a) : ∀ xs, H a ≠ some (.tup xs) := fun xs z => by
  obtain ⟨d, t⟩ := R.own_top h
  obtain ⟨o, e, n⟩ := t.there
  rw [z] at e
  cases e
  exact n xs rfl
theorem SlOk.mono {G G' : Hp} {i : Nat} {x : Option V} {s : Sl} (h : SlOk K G H F i x s) (e : Same G G') (k : ∀ a, x = some (.ref a) → ∀ o, H a = some o → H' a = some o) : SlOk K G' H' F i x s := by
  cases s with
  | un => trivial
  | p d => obtain ⟨v, e1, e2⟩ := h; exact ⟨v, e1, e2.mono e⟩
  | o d => obtain ⟨a, e1, e2, e3⟩ := h; exact ⟨a, e1, e2.mono e (k a e1), e3⟩
  | m d => obtain ⟨a, e1, e2, e3⟩ := h; exact ⟨a, e1, e2.mono e (k a e1), e3⟩
/-- the heap grows -/
theorem Rl.grow (R : Rl K F σ H ρ) (e : Same H H') : Rl K F σ H' ρ where
  len := R.len
  slot := fun i s h => by
    obtain ⟨x, h1, h2⟩ := R.slot i s h
    exact ⟨x, h1, h2.mono (hide_same e) fun a _ o q => e _ _ q⟩
  inj := R.inj
  oc := fun a h => ⟨(R.oc a h).1.same e, (R.oc a h).2⟩
  dom := fun a h => sameDom e (R.dom a h)
theorem Rl.evo (R : Rl K F σ H ρ) (e : Same H H') : Evo F σ H ρ σ H' ρ := ⟨hide_same e, fun a h => sameAt e (R.oc a h).1.ne, fun a h => sameDom e h⟩
/-- behind an expression: the state, what is kept; m: nothing but new objects -/
structure Po (K : Fg) (F : Fx) (m : Bool) (σ : L2.St) (H : Hp) (ρ : Rho) (H' : Hp) (ρ' : Rho) : Prop where
  rl : Rl K F σ H' ρ'
  ev : Evo F σ H ρ σ H' ρ'
  pu : m = true → ρ' = ρ ∧ Same H H'
theorem Po.refl {m : Bool} (R : Rl K F σ H ρ) : Po K F m σ H ρ H ρ := ⟨R, .refl, fun _ => ⟨rfl, .refl _⟩⟩
theorem Po.grow {m : Bool} (R : Rl K F σ H ρ) (e : Same H H') : Po K F m σ H ρ H' ρ := ⟨R.grow e, R.evo e, fun _ => ⟨rfl, e⟩⟩
theorem Po.trans {m n : Bool} {H1 H2 : Hp} {ρ1 ρ2 : Rho} (a : Po K F m σ H ρ H1 ρ1) (b : Po K F n σ H1 ρ1 H2 ρ2) : Po K F (m && n) σ H ρ H2 ρ2 :=
  ⟨b.rl, a.ev.trans b.ev, fun z => by
    have z' : m = true ∧ n = true := by simpa using z
    obtain ⟨e1, s1⟩ := a.pu z'.1
    obtain ⟨e2, s2⟩ := b.pu z'.2
    exact ⟨e2.trans e1, s1.trans s2⟩⟩
theorem Po.weak {m n : Bool} (a : Po K F m σ H ρ H' ρ') (h : n = true → m = true) : Po K F n σ H ρ H' ρ' := ⟨a.rl, a.ev, fun z => a.pu (h z)⟩
theorem Po.more {m : Bool} {H1 H2 : Hp} {ρ1 : Rho} (a : Po K F m σ H ρ H1 ρ1) (e : Same H1 H2) : Po K F m σ H ρ H2 ρ1 :=
  (a.trans (Po.grow (m := true) a.rl e)).weak (by simp)
end
/-! ## what an expression's value is -/
/-- kept (may be stored), borrowed (may be the def's own list itself), fresh (a new list or dict that no one else holds) -/
inductive Kd where
  | k
  | b
  | f
def insA (O : Ad) (a : Addr) : Ad := fun b => O b ∨ b = a
def Bw (K : Fg) (O : Ad) (H : Hp) (v : V) (d : D) : Prop :=
  Dn K (hide H O) v d ∨ ∃ a, v = .ref a ∧ Top K (hide H O) H a d
def Vr (K : Fg) (kd : Kd) (O : Ad) (H0 H : Hp) (v : V) (d : D) : Prop :=
  match kd with
  | .k => Dn K (hide H O) v d
  | .b => Bw K O H v d
  | .f => ∃ a, v = .ref a ∧ H0 a = none ∧ ¬ O a ∧ Top K (hide H (insA O a)) H a d
theorem Vr.weak {K : Fg} {O : Ad} {H0 H : Hp} {v : V} {d : D} (h : Vr K .f O H0 H v d) : Vr K .k O H0 H v d := by
  obtain ⟨a, rfl, _, ha, t⟩ := h
  have e : Same (hide H (insA O a)) (hide H O) := hide_less fun _ h => .inl h
  cases d with
  | list ds => obtain ⟨xs, h1, h2⟩ := t; exact .lst (.of (hide_some.mpr ⟨ha, h1⟩)) (h2.mono e)
  | dict ds =>
    rcases t with ⟨ks, h1, h2⟩ | ⟨ks, h1, h2⟩
    · exact .dic (.inl (hide_some.mpr ⟨ha, h1⟩)) (h2.mono e)
    · exact .dct (.inl (hide_some.mpr ⟨ha, h1⟩)) (h2.mono e)
  | _ => exact t.elim
theorem Vr.bw {K : Fg} {kd : Kd} {O : Ad} {H0 H : Hp} {v : V} {d : D} (h : Vr K kd O H0 H v d) : Bw K O H v d := by
  cases kd with
  | k => exact .inl h
  | b => exact h
  | f => exact .inl (Vr.weak h)
theorem Bw.mono {K : Fg} {O O' : Ad} {H H' : Hp} {v : V} {d : D} (h : Bw K O H v d) (e : Same (hide H O) (hide H' O')) (k : Same H H') : Bw K O' H' v d := by
  rcases h with h | ⟨a, rfl, t⟩
  · exact .inl (h.mono e)
  · exact .inr ⟨a, rfl, t.mono e (k a)⟩
section
variable {K : Fg} {O : Ad} {H : Hp} {v : V}
theorem Bw.none_ (h : Bw K O H v .none) : v = .non := by
  rcases h with h | ⟨a, rfl, t⟩
  · cases h; rfl
  · exact t.elim
theorem Bw.int {i : Int} (h : Bw K O H v (.int i)) : v = .int i := by
  rcases h with h | ⟨a, rfl, t⟩
  · cases h; rfl
  · exact t.elim
theorem Bw.bool {b : Bool} (h : Bw K O H v (.bool b)) : v = .bl b := by
  rcases h with h | ⟨a, rfl, t⟩
  · cases h; rfl
  · exact t.elim
theorem Bw.str {x : Str} (h : Bw K O H v (.str x)) : v = .str x := by
  rcases h with h | ⟨a, rfl, t⟩
  · cases h; rfl
  · exact t.elim
theorem Bw.list {ds : List D} (h : Bw K O H v (.list ds)) : ∃ a xs, v = .ref a ∧ SqL K H a xs ∧ DnL K (hide H O) xs ds := by
  rcases h with h | ⟨a, rfl, t⟩
  · cases h with
    | lst h1 h2 => exact ⟨_, _, rfl, hide_sub.seq h1, h2⟩
  · obtain ⟨xs, h1, h2⟩ := t
    exact ⟨_, _, rfl, .of h1, h2⟩
theorem Bw.tuple {ds : List D} (h : Bw K O H v (.tuple ds)) : ∃ a xs, v = .ref a ∧ hide H O a = some (.tup xs) ∧ DnL K (hide H O) xs ds := by
  rcases h with h | ⟨a, rfl, t⟩
  · cases h with
    | tup h1 h2 => exact ⟨_, _, rfl, h1, h2⟩
  · exact t.elim
theorem Bw.dict {ds : List (D × D)} (h : Bw K O H v (.dict ds)) : ∃ a, v = .ref a ∧ ((∃ ks, Rd H a (.dK ks) ∧ DnK K (hide H O) ks ds) ∨ ∃ ks, Rd H a (.dT ks) ∧ DnT K (hide H O) ks ds) := by
  rcases h with h | ⟨a, rfl, t⟩
  · cases h with
    | dic h1 h2 => exact ⟨_, rfl, .inl ⟨_, rdMono hide_sub h1, h2⟩⟩
    | dct h1 h2 => exact ⟨_, rfl, .inr ⟨_, rdMono hide_sub h1, h2⟩⟩
  · rcases t with ⟨ks, h1, h2⟩ | ⟨ks, h1, h2⟩
    · exact ⟨a, rfl, .inl ⟨_, .inl h1, h2⟩⟩
    · exact ⟨a, rfl, .inr ⟨_, .inl h1, h2⟩⟩
end
/-- fresh at a later heap is fresh at an earlier one -/
theorem Vr.since {K : Fg} {kd : Kd} {O : Ad} {H0 H H' : Hp} {v : V} {d : D} (h : Vr K kd O H H' v d) (dom : ∀ a, H0 a ≠ none → H a ≠ none) : Vr K kd O H0 H' v d := by
  cases kd with
  | k => exact h
  | b => exact h
  | f =>
    obtain ⟨a, e, n, r⟩ := h
    refine ⟨a, e, ?_, r⟩
    cases q : H0 a with
    | none => rfl
    | some o => exact absurd n (dom a (by rw [q]; simp))
/-- one more address that no one here may touch -/
def Fx.add (F : Fx) (a : Addr) : Fx := { F with Oc := insA F.Oc a }
theorem ow_add {F : Fx} {σ : L2.St} {ρ : Rho} {a b : Addr} : Ow (F.add a) σ ρ b ↔ Ow F σ ρ b ∨ b = a := by
  constructor
  · rintro ((h | h) | h)
    · exact .inl (.inl h)
    · exact .inr h
    · exact .inl (.inr h)
  · rintro ((h | h) | h)
    · exact .inl (.inl h)
    · exact .inr h
    · exact .inl (.inr h)
theorem Rl.addNew {K : Fg} {F : Fx} {σ : L2.St} {H H' : Hp} {ρ : Rho} {a : Addr} (R : Rl K F σ H ρ) (s : Same H H') (h : H a = none) (h' : Live H' a) : Rl K (F.add a) σ H' ρ where
  len := R.len
  slot := fun i t e => by
    obtain ⟨x, h1, h2⟩ := R.slot i t e
    have G : Same (hide H (Ow F σ ρ)) (hide H' (Ow (F.add a) σ ρ)) := hide_both fun b o nb hb => ⟨fun z => (ow_add.mp z).elim nb (ne_of_none hb h), s _ _ hb⟩
    exact ⟨x, h1, h2.mono G fun b _ o q => s _ _ q⟩
  inj := R.inj
  oc := fun b hb => by
    rcases hb with hb | hb
    · exact ⟨(R.oc b hb).1.same s, (R.oc b hb).2⟩
    · subst hb
      exact ⟨h', fun i q => R.domO _ (.inr ⟨i, q⟩) h⟩
  dom := fun b hb => sameDom s (R.dom b hb)
/-- .. and of the fresh one: the state is as it is without it -/
structure Er (K : Fg) (F : Fx) (σ : L2.St) (ρ' : Rho) (kd : Kd) (H H' : Hp) (v : V) (d : D) : Prop where
  vr : Vr K kd (Ow F σ ρ') H H' v d
  fr : kd = .f → ∀ a, v = .ref a → Rl K (F.add a) σ H' ρ'
section
variable {K : Fg} {F : Fx} {σ : L2.St} {ρ' : Rho} {kd : Kd} {H H0 H1 H' : Hp} {v : V} {d : D}
theorem Er.bw (h : Er K F σ ρ' kd H H' v d) : Bw K (Ow F σ ρ') H' v d := h.vr.bw
theorem Er.since (h : Er K F σ ρ' kd H H' v d) (dom : ∀ a, H0 a ≠ none → H a ≠ none) : Er K F σ ρ' kd H0 H' v d := ⟨h.vr.since dom, h.fr⟩
theorem Er.k (h : Dn K (hide H' (Ow F σ ρ')) v d) : Er K F σ ρ' .k H H' v d := ⟨h, fun z => by cases z⟩
theorem Er.b (h : Bw K (Ow F σ ρ') H' v d) : Er K F σ ρ' .b H H' v d := ⟨h, fun z => by cases z⟩
theorem Er.of (R : Rl K F σ H1 ρ') (s : Same H1 H') (h : Vr K kd (Ow F σ ρ') H1 H' v d) (dom : ∀ a, H a ≠ none → H1 a ≠ none) : Er K F σ ρ' kd H H' v d := by
  refine ⟨h.since dom, fun e b hb => ?_⟩
  subst e
  obtain ⟨a, e, n, _, t⟩ := h
  rw [e] at hb
  cases hb
  exact R.addNew s n t.there
end
/-! ## the judgement of an expression -/
abbrev Ef := Rho → Option (D × Rho)
structure EG (X : Cx) (m : Bool) (kd : Kd) (e : Expr) (f : Ef) : Prop where
  ex : ∃ t : TE, PE X e t ∧ ∀ (F : Fx) (σ : L2.St) (H : Hp) (ρ : Rho) (d : D) (ρ' : Rho) (Q : VK), Rl X.K F σ H ρ → f ρ = some (d, ρ') →
    (∀ v H', Po X.K F m σ H ρ H' ρ' → Er X.K F σ ρ' kd H H' v d → Q v H') → t σ H Q
/-- an expression that changes nothing, as a function into data alone -/
def lift (g : Rho → Option D) : Ef := fun ρ => (g ρ).map fun d => (d, ρ)
theorem lift_some {g : Rho → Option D} {ρ ρ' : Rho} {d : D} : lift g ρ = some (d, ρ') ↔ g ρ = some d ∧ ρ' = ρ := by
  unfold lift
  cases g ρ with
  | none => simp
  | some e => simp [eq_comm]
section
variable {X : Cx} {m : Bool} {kd : Kd} {e : Expr} {f : Ef}
theorem EG.weakM (h : EG X m kd e f) : EG X false kd e f := by
  obtain ⟨t, h1, h2⟩ := h.ex
  exact ⟨t, h1, fun F σ H ρ d ρ' Q R hf k => h2 F σ H ρ d ρ' Q R hf fun v H' p r => k v H' (p.weak (fun z => by cases z)) r⟩
theorem EG.toK (h : EG X m .f e f) : EG X m .k e f := by
  obtain ⟨t, h1, h2⟩ := h.ex
  exact ⟨t, h1, fun F σ H ρ d ρ' Q R hf k => h2 F σ H ρ d ρ' Q R hf fun v H' p r => k v H' p (.k (Vr.weak r.vr))⟩
theorem EG.toB (h : EG X m kd e f) : EG X m .b e f := by
  obtain ⟨t, h1, h2⟩ := h.ex
  exact ⟨t, h1, fun F σ H ρ d ρ' Q R hf k => h2 F σ H ρ d ρ' Q R hf fun v H' p r => k v H' p (.b r.bw)⟩
theorem EG.cong {f' : Ef} (h : EG X m kd e f) (q : f' = f) : EG X m kd e f' := by rw [q]; exact h
end
end DL
namespace DL
open L2 PyProof.Rows PySem PySem.Spec
/-! ## names, constants -/
def vP (i : Nat) (ρ : Rho) : Option D := match ρ[i]? with
  | some (.p d) => some d
  | _ => none
def vB (i : Nat) (ρ : Rho) : Option D := match ρ[i]? with
  | some (.p d) => some d
  | some (.o d) => some d
  | some (.m d) => some d
  | _ => none
abbrev EP (X : Cx) (kd : Kd) (e : Expr) (g : Rho → Option D) : Prop := EG X true kd e (lift g)
section
variable {X : Cx}
theorem ep_var {i : Nat} {x : Str} {pos : Pos} (h : PE X (.Name x pos) (tVar i)) : EP X .k (.Name x pos) (vP i) := by
  refine ⟨_, h, fun F σ H ρ d ρ' Q R hf k => ?_⟩
  obtain ⟨hf, rfl⟩ := lift_some.mp hf
  unfold vP at hf
  split at hf
  · rename_i d' e
    cases hf
    obtain ⟨y, e1, v, e2, dn⟩ := R.slot i _ e
    subst e2
    exact ⟨v, e1, k v H (.refl R) (.k dn)⟩
  · cases hf
theorem ep_varB {i : Nat} {x : Str} {pos : Pos} (h : PE X (.Name x pos) (tVar i)) : EP X .b (.Name x pos) (vB i) := by
  refine ⟨_, h, fun F σ H ρ d ρ' Q R hf k => ?_⟩
  obtain ⟨hf, rfl⟩ := lift_some.mp hf
  unfold vB at hf
  split at hf
  · rename_i d' e
    cases hf
    obtain ⟨y, e1, v, e2, dn⟩ := R.slot i _ e
    subst e2
    exact ⟨v, e1, k v H (.refl R) (.b (.inl dn))⟩
  · rename_i d' e
    cases hf
    obtain ⟨y, e1, a, e2, t, _⟩ := R.slot i _ e
    subst e2
    exact ⟨_, e1, k _ H (.refl R) (.b (.inr ⟨a, rfl, t⟩))⟩
  · rename_i d' e
    cases hf
    obtain ⟨y, e1, a, e2, t, _⟩ := R.slot i _ e
    subst e2
    exact ⟨_, e1, k _ H (.refl R) (.b (.inr ⟨a, rfl, t⟩))⟩
  · cases hf
def cC (d : D) (_ : Rho) : Option D := some d
theorem ep_const {e : Expr} {v : V} {d : D} (h : PE X e (tC v)) (hd : ∀ G, Dn X.K G v d) : EP X .k e (cC d) := by
  refine ⟨_, h, fun F σ H ρ d' ρ' Q R hf k => ?_⟩
  obtain ⟨hf, rfl⟩ := lift_some.mp hf
  cases hf
  exact k v H (.refl R) (.k (hd _))
theorem ep_int {i : Int} {j pos} : EP X .k (.Constant (.int i) j pos) (cC (.int i)) := ep_const pe_int fun _ => .int i
theorem ep_bl {b : Bool} {j pos} : EP X .k (.Constant (.bool b) j pos) (cC (.bool b)) := ep_const pe_bl fun _ => .bl b
theorem ep_non {j pos} : EP X .k (.Constant .none j pos) (cC .none) := ep_const pe_non fun _ => .non
theorem ep_str {x : Str} {j pos} : EP X .k (.Constant (.str x) j pos) (cC (.str x)) := ep_const pe_str fun _ => .str x
/-- a text that the module holds -/
theorem ep_gstr {x z : Str} {t : Tok} {pos : Pos} (hg : Gl X x) (hm : X.mg x = some (.str z t)) (hd : (x == ("__debug__" : Str)) = false := by decide) : EP X .k (.Name x pos) (cC (.str z)) :=
  ep_const (pe_glob (v := .str z) hg hm ⟨t, rfl⟩ hd) fun _ => .str z
end
/-! ## operators, by values -/
def OpD (X : Cx) (kd : Kd) (f : Value → Value → Sem Value) (g : D → D → Option D) : Prop :=
  OpR X f fun x y H Q => ∃ (O : Ad) (d e z : D), (∀ a, O a → Live H a) ∧ Bw X.K O H x d ∧ Bw X.K O H y e ∧ g d e = some z ∧ ∀ v H', Same H H' → Vr X.K kd O H H' v z → Q v H'
def UnD (X : Cx) (kd : Kd) (f : Value → Sem Value) (g : D → Option D) : Prop :=
  UnR X f fun x H Q => ∃ (O : Ad) (d z : D), (∀ a, O a → Live H a) ∧ Bw X.K O H x d ∧ g d = some z ∧ ∀ v H', Same H H' → Vr X.K kd O H H' v z → Q v H'
def seq2 (g : D → D → Option D) (fa fb : Ef) : Ef := fun ρ => (fa ρ).bind fun a => (fb a.2).bind fun b => (g a.1 b.1).map fun z => (z, b.2)
def pu2 (g : D → D → Option D) (fa fb : Rho → Option D) : Rho → Option D := fun ρ => (fa ρ).bind fun a => (fb ρ).bind fun b => g a b
theorem seq2_lift (g : D → D → Option D) (fa fb : Rho → Option D) : seq2 g (lift fa) (lift fb) = lift (pu2 g fa fb) := by
  funext ρ
  unfold seq2 lift pu2
  cases fa ρ with
  | none => rfl
  | some a => cases h : fb ρ <;> simp [h]
def seq1 (g : D → Option D) (fa : Ef) : Ef := fun ρ => (fa ρ).bind fun a => (g a.1).map fun z => (z, a.2)
def pu1 (g : D → Option D) (fa : Rho → Option D) : Rho → Option D := fun ρ => (fa ρ).bind g
theorem seq1_lift (g : D → Option D) (fa : Rho → Option D) : seq1 g (lift fa) = lift (pu1 g fa) := by
  funext ρ
  unfold seq1 lift pu1
  cases fa ρ with
  | none => rfl
  | some a => simp
theorem seq2_some {g : D → D → Option D} {fa fb : Ef} {ρ ρ' : Rho} {z : D} (h : seq2 g fa fb ρ = some (z, ρ')) : ∃ a ρ1 b, fa ρ = some (a, ρ1) ∧ fb ρ1 = some (b, ρ') ∧ g a b = some z := by
  unfold seq2 at h
  obtain ⟨⟨a, ρ1⟩, h1, h⟩ := Option.bind_eq_some_iff.mp h
  obtain ⟨⟨b, ρ2⟩, h2, h⟩ := Option.bind_eq_some_iff.mp h
  obtain ⟨c, h3, h⟩ := Option.map_eq_some_iff.mp h
  cases h
  exact ⟨a, ρ1, b, h1, h2, h3⟩
theorem seq1_some {g : D → Option D} {fa : Ef} {ρ ρ' : Rho} {z : D} (h : seq1 g fa ρ = some (z, ρ')) : ∃ a, fa ρ = some (a, ρ') ∧ g a = some z := by
  unfold seq1 at h
  obtain ⟨⟨a, ρ1⟩, h1, h⟩ := Option.bind_eq_some_iff.mp h
  obtain ⟨c, h3, h⟩ := Option.map_eq_some_iff.mp h
  cases h
  exact ⟨a, h1, h3⟩
/-- a kept value may wait for anything, a borrowed one for what changes nothing -/
def wait (k : Kd) (m : Bool) : Bool := match k with
  | .b => m
  | _ => true
theorem Vr.later {K : Fg} {F : Fx} {k : Kd} {m : Bool} {σ : L2.St} {H0 H H' : Hp} {ρ ρ' : Rho} {v : V} {d : D} (h : Vr K k (Ow F σ ρ) H0 H v d) (w : wait k m = true) (p : Po K F m σ H ρ H' ρ') : Bw K (Ow F σ ρ') H' v d := by
  cases k with
  | k => exact .inl (Dn.mono p.ev.kept h)
  | f => exact .inl (Dn.mono p.ev.kept (Vr.weak h))
  | b => exact Bw.mono h p.ev.kept (p.pu w).2
section
variable {X : Cx} {m m1 m2 : Bool} {kd k1 k2 : Kd} {a b : Expr} {fa fb : Ef} {pos : Pos}
/-- two parts, then an operation: the pattern of every rule -/
theorem two_parts {ta tb : TE} {g : D → D → Option D} {r : R2} (hr : ∀ x y H Q, (∃ (O : Ad) (d e z : D), (∀ a, O a → Live H a) ∧ Bw X.K O H x d ∧ Bw X.K O H y e ∧ g d e = some z ∧ ∀ v H', Same H H' → Vr X.K kd O H H' v z → Q v H') → r x y H Q)
    (ha2 : ∀ (F : Fx) (σ : L2.St) (H : Hp) (ρ : Rho) (d : D) (ρ' : Rho) (Q : VK), Rl X.K F σ H ρ → fa ρ = some (d, ρ') → (∀ v H', Po X.K F m1 σ H ρ H' ρ' → Er X.K F σ ρ' k1 H H' v d → Q v H') → ta σ H Q)
    (hb2 : ∀ (F : Fx) (σ : L2.St) (H : Hp) (ρ : Rho) (d : D) (ρ' : Rho) (Q : VK), Rl X.K F σ H ρ → fb ρ = some (d, ρ') → (∀ v H', Po X.K F m2 σ H ρ H' ρ' → Er X.K F σ ρ' k2 H H' v d → Q v H') → tb σ H Q)
    (w : wait k1 m2 = true) (F : Fx) (σ : L2.St) (H : Hp) (ρ : Rho) (d : D) (ρ' : Rho) (Q : VK) (R : Rl X.K F σ H ρ) (hf : seq2 g fa fb ρ = some (d, ρ'))
    (k : ∀ v H', Po X.K F (m1 && m2) σ H ρ H' ρ' → Er X.K F σ ρ' kd H H' v d → Q v H') : tOp r ta tb σ H Q := by
  obtain ⟨x, ρ1, y, e1, e2, e3⟩ := seq2_some hf
  refine ha2 F σ H ρ x ρ1 _ R e1 fun v H1 p1 r1 => ?_
  refine hb2 F σ H1 ρ1 y ρ' _ p1.rl e2 fun u H2 p2 r2 => ?_
  refine hr _ _ _ _ ⟨Ow F σ ρ', x, y, d, p2.rl.domL, Vr.later r1.vr w p2, r2.bw, e3, fun z H3 s3 r3 => ?_⟩
  exact k z H3 ((p1.trans p2).more s3) (.of p2.rl s3 r3 fun a h => p2.ev.dom a (p1.ev.dom a h))
theorem eg_bin {op : Operator} {g : D → D → Option D} (ho : OpD X kd (binaryOp op) g) (ha : EG X m1 k1 a fa) (hb : EG X m2 k2 b fb) (w : wait k1 m2 = true := by rfl) : EG X (m1 && m2) kd (.BinOp a op b pos) (seq2 g fa fb) := by
  obtain ⟨ta, ha1, ha2⟩ := ha.ex
  obtain ⟨tb, hb1, hb2⟩ := hb.ex
  exact ⟨_, pe_op ho ha1 hb1, two_parts (fun _ _ _ _ h => h) ha2 hb2 w⟩
theorem ep_bin {op : Operator} {g : D → D → Option D} {fa fb : Rho → Option D} (ho : OpD X kd (binaryOp op) g) (ha : EP X k1 a fa) (hb : EP X k2 b fb) : EP X kd (.BinOp a op b pos) (pu2 g fa fb) :=
  (eg_bin ho ha hb (by cases k1 <;> rfl)).cong (seq2_lift g fa fb).symm
theorem eg_cmp {op : CmpOp} {g : D → D → Option D} (ho : OpD X kd (compareOp op) g) (ha : EG X m1 k1 a fa) (hb : EG X m2 k2 b fb) (w : wait k1 m2 = true := by rfl) (hm : behindInMarks op b = false := by rfl) : EG X (m1 && m2) kd (.Compare a [op] [b] pos) (seq2 g fa fb) := by
  obtain ⟨ta, ha1, ha2⟩ := ha.ex
  obtain ⟨tb, hb1, hb2⟩ := hb.ex
  exact ⟨_, pe_cmpR ho ha1 hb1 hm, two_parts (fun _ _ _ _ h => h) ha2 hb2 w⟩
theorem ep_cmp {op : CmpOp} {g : D → D → Option D} {fa fb : Rho → Option D} (ho : OpD X kd (compareOp op) g) (ha : EP X k1 a fa) (hb : EP X k2 b fb) (hm : behindInMarks op b = false := by rfl) : EP X kd (.Compare a [op] [b] pos) (pu2 g fa fb) :=
  (eg_cmp ho ha hb (by cases k1 <;> rfl) hm).cong (seq2_lift g fa fb).symm
theorem eg_un {op : UnaryOp} {g : D → Option D} (ho : UnD X kd (unaryOp op) g) (ha : EG X m k1 a fa) : EG X m kd (.UnaryOp op a pos) (seq1 g fa) := by
  obtain ⟨ta, ha1, ha2⟩ := ha.ex
  refine ⟨_, pe_un ho ha1, fun F σ H ρ d ρ' Q R hf k => ?_⟩
  obtain ⟨x, e1, e2⟩ := seq1_some hf
  refine ha2 F σ H ρ x ρ' _ R e1 fun v H1 p1 r1 => ?_
  exact ⟨Ow F σ ρ', x, d, p1.rl.domL, r1.bw, e2, fun z H3 s3 r3 => k z H3 (p1.more s3) (.of p1.rl s3 r3 p1.ev.dom)⟩
theorem ep_un {op : UnaryOp} {g : D → Option D} {fa : Rho → Option D} (ho : UnD X kd (unaryOp op) g) (ha : EP X k1 a fa) : EP X kd (.UnaryOp op a pos) (pu1 g fa) := (eg_un ho ha).cong (seq1_lift g fa).symm
/-- a[b], where a, b are values -/
def IxD (X : Cx) (kd : Kd) (g : D → D → Option D) : Prop :=
  IxR X fun x y H Q => ∃ (O : Ad) (d e z : D), (∀ a, O a → Live H a) ∧ Bw X.K O H x d ∧ Bw X.K O H y e ∧ g d e = some z ∧ ∀ v H', Same H H' → Vr X.K kd O H H' v z → Q v H'
theorem eg_ix {g : D → D → Option D} (ho : IxD X kd g) (ha : EG X m1 k1 a fa) (hb : EG X m2 k2 b fb) (w : wait k1 m2 = true := by rfl) (hs : PlainIx b := by intro _ _; rfl) : EG X (m1 && m2) kd (.Subscript a b pos) (seq2 g fa fb) := by
  obtain ⟨ta, ha1, ha2⟩ := ha.ex
  obtain ⟨tb, hb1, hb2⟩ := hb.ex
  exact ⟨_, pe_ix ho ha1 hb1 hs, two_parts (fun _ _ _ _ h => h) ha2 hb2 w⟩
theorem ep_ix {g : D → D → Option D} {fa fb : Rho → Option D} (ho : IxD X kd g) (ha : EP X k1 a fa) (hb : EP X k2 b fb) (hs : PlainIx b := by intro _ _; rfl) : EP X kd (.Subscript a b pos) (pu2 g fa fb) :=
  (eg_ix ho ha hb (by cases k1 <;> rfl) hs).cong (seq2_lift g fa fb).symm
end
/-! ## tests -/
abbrev Tf := Rho → Option (Bool × Rho)
structure TG (X : Cx) (m : Bool) (e : Expr) (f : Tf) : Prop where
  ex : ∃ t : TT, PT X e t ∧ ∀ (F : Fx) (σ : L2.St) (H : Hp) (ρ : Rho) (b : Bool) (ρ' : Rho) (Q : Bool → Hp → Prop), Rl X.K F σ H ρ → f ρ = some (b, ρ') →
    (∀ H', Po X.K F m σ H ρ H' ρ' → Q b H') → t σ H Q
structure TW (X : Cx) (m : Bool) (e : Expr) (f : Tf) : Prop where
  ex : ∃ t : TT, PW X e t ∧ ∀ (F : Fx) (σ : L2.St) (H : Hp) (ρ : Rho) (b : Bool) (ρ' : Rho) (Q : Bool → Hp → Prop), Rl X.K F σ H ρ → f ρ = some (b, ρ') →
    (∀ H', Po X.K F m σ H ρ H' ρ' → Q b H') → t σ H Q
def blOf : D → Option Bool
  | .bool b => some b
  | _ => none
theorem blOf_some {d : D} {b : Bool} (h : blOf d = some b) : d = .bool b := by
  cases d <;> simp [blOf] at h
  rw [h]
def tst (f : Ef) : Tf := fun ρ => (f ρ).bind fun a => (blOf a.1).map fun b => (b, a.2)
theorem tst_some {f : Ef} {ρ ρ' : Rho} {b : Bool} (h : tst f ρ = some (b, ρ')) : f ρ = some (.bool b, ρ') := by
  unfold tst at h
  obtain ⟨⟨x, ρ1⟩, h1, h⟩ := Option.bind_eq_some_iff.mp h
  obtain ⟨c, h3, h⟩ := Option.map_eq_some_iff.mp h
  cases h
  rw [h1, show x = .bool b from blOf_some h3]
def liftT (g : Rho → Option Bool) : Tf := fun ρ => (g ρ).map fun b => (b, ρ)
theorem liftT_some {g : Rho → Option Bool} {ρ ρ' : Rho} {d : Bool} : liftT g ρ = some (d, ρ') ↔ g ρ = some d ∧ ρ' = ρ := by
  unfold liftT
  cases g ρ with
  | none => simp
  | some e => simp [eq_comm]
def tstP (g : Rho → Option D) : Rho → Option Bool := fun ρ => (g ρ).bind blOf
theorem tst_lift (g : Rho → Option D) : tst (lift g) = liftT (tstP g) := by
  funext ρ
  unfold tst lift liftT tstP
  cases g ρ <;> simp
abbrev TP (X : Cx) (e : Expr) (g : Rho → Option Bool) : Prop := TG X true e (liftT g)
abbrev TPW (X : Cx) (e : Expr) (g : Rho → Option Bool) : Prop := TW X true e (liftT g)
section
variable {X : Cx} {m m1 m2 : Bool} {kd k1 k2 : Kd} {a b e : Expr} {fa fb : Ef} {pos : Pos} {rest : List Expr}
theorem TG.cong {f f' : Tf} (h : TG X m e f) (q : f' = f) : TG X m e f' := by rw [q]; exact h
theorem TW.cong {f f' : Tf} (h : TW X m e f) (q : f' = f) : TW X m e f' := by rw [q]; exact h
theorem TW.tg {f : Tf} (h : TW X m e f) : TG X m e f := by
  obtain ⟨t, h1, h2⟩ := h.ex
  exact ⟨t, h1.pt, h2⟩
/-- any expression of a bool that is no comparison, no and, or, not -/
theorem tg_val {f : Ef} (h : EG X m kd e f) (he : ∀ whole, isTrue e X.env whole = (do let v ← whole; standAt e.pos; holding [v] (truthy v)) := by intro _; rfl) : TG X m e (tst f) := by
  obtain ⟨t, h1, h2⟩ := h.ex
  refine ⟨_, pt_val h1 he, fun F σ H ρ b ρ' Q R hf k => ?_⟩
  refine h2 F σ H ρ _ ρ' _ R (tst_some hf) fun v H' p r => ?_
  have e := r.bw.bool
  subst e
  exact ⟨b, rfl, k H' p⟩
theorem tp_val {g : Rho → Option D} (h : EP X kd e g) (he : ∀ whole, isTrue e X.env whole = (do let v ← whole; standAt e.pos; holding [v] (truthy v)) := by intro _; rfl) : TP X e (tstP g) := (tg_val h he).cong (tst_lift g).symm
theorem tg_cmp {op : CmpOp} {g : D → D → Option D} (ho : OpD X kd (compareOp op) g) (ha : EG X m1 k1 a fa) (hb : EG X m2 k2 b fb) (w : wait k1 m2 = true := by rfl) (hm : behindInMarks op b = false := by rfl) : TG X (m1 && m2) (.Compare a [op] [b] pos) (tst (seq2 g fa fb)) := by
  obtain ⟨ta, ha1, ha2⟩ := ha.ex
  obtain ⟨tb, hb1, hb2⟩ := hb.ex
  refine ⟨_, pt_cmpR ho ha1 hb1 hm, fun F σ H ρ b' ρ' Q R hf k => ?_⟩
  refine two_parts (fun _ _ _ _ h => h) ha2 hb2 w F σ H ρ _ ρ' _ R (tst_some hf) fun v H' p r => ?_
  have e := r.bw.bool
  subst e
  exact ⟨b', rfl, k H' p⟩
theorem tp_cmp {op : CmpOp} {g : D → D → Option D} {fa fb : Rho → Option D} (ho : OpD X kd (compareOp op) g) (ha : EP X k1 a fa) (hb : EP X k2 b fb) (hm : behindInMarks op b = false := by rfl) : TP X (.Compare a [op] [b] pos) (tstP (pu2 g fa fb)) :=
  (tg_cmp ho ha hb (by cases k1 <;> rfl) hm).cong (by rw [seq2_lift, tst_lift])
def notT (f : Tf) : Tf := fun ρ => (f ρ).map fun a => (!a.1, a.2)
def andT (f g : Tf) : Tf := fun ρ => (f ρ).bind fun a => if a.1 = true then g a.2 else some (false, a.2)
def orT (f g : Tf) : Tf := fun ρ => (f ρ).bind fun a => if a.1 = true then some (true, a.2) else g a.2
def notP (f : Rho → Option Bool) : Rho → Option Bool := fun ρ => (f ρ).map fun a => !a
def andP (f g : Rho → Option Bool) : Rho → Option Bool := fun ρ => (f ρ).bind fun a => if a = true then g ρ else some false
def orP (f g : Rho → Option Bool) : Rho → Option Bool := fun ρ => (f ρ).bind fun a => if a = true then some true else g ρ
theorem notT_lift (f : Rho → Option Bool) : notT (liftT f) = liftT (notP f) := by
  funext ρ; unfold notT liftT notP; cases f ρ <;> simp
theorem andT_lift (f g : Rho → Option Bool) : andT (liftT f) (liftT g) = liftT (andP f g) := by
  funext ρ; unfold andT liftT andP; cases h : f ρ with
  | none => simp
  | some b => cases b <;> simp
theorem orT_lift (f g : Rho → Option Bool) : orT (liftT f) (liftT g) = liftT (orP f g) := by
  funext ρ; unfold orT liftT orP; cases h : f ρ with
  | none => simp
  | some b => cases b <;> simp
theorem tg_not {f : Tf} (h : TG X m a f) : TG X m (.UnaryOp .Not a pos) (notT f) := by
  obtain ⟨t, h1, h2⟩ := h.ex
  refine ⟨_, pt_not h1, fun F σ H ρ b ρ' Q R hf k => ?_⟩
  obtain ⟨⟨c, ρ1⟩, e1, e2⟩ := Option.map_eq_some_iff.mp hf
  cases e2
  exact h2 F σ H ρ c ρ1 _ R e1 fun H' p => k H' p
theorem tp_not {f : Rho → Option Bool} (h : TP X a f) : TP X (.UnaryOp .Not a pos) (notP f) := (tg_not h).cong (notT_lift f).symm
theorem tw_and1 {f : Tf} (h : TG X m a f) : TW X m (.BoolOp .And [a] pos) f := by
  obtain ⟨t, h1, h2⟩ := h.ex
  exact ⟨t, pw_and1 h1, h2⟩
theorem tw_or1 {f : Tf} (h : TG X m a f) : TW X m (.BoolOp .Or [a] pos) f := by
  obtain ⟨t, h1, h2⟩ := h.ex
  exact ⟨t, pw_or1 h1, h2⟩
theorem tw_and {f g : Tf} (ha : TG X m1 a f) (hb : TW X m2 (.BoolOp .And (b :: rest) pos) g) : TW X (m1 && m2) (.BoolOp .And (a :: b :: rest) pos) (andT f g) := by
  obtain ⟨ta, ha1, ha2⟩ := ha.ex
  obtain ⟨tb, hb1, hb2⟩ := hb.ex
  refine ⟨_, pw_and ha1 hb1, fun F σ H ρ c ρ' Q R hf k => ?_⟩
  obtain ⟨⟨x, ρ1⟩, e1, e2⟩ := Option.bind_eq_some_iff.mp hf
  refine ha2 F σ H ρ x ρ1 _ R e1 fun H1 p1 => ?_
  cases x with
  | true =>
    rw [if_pos rfl] at e2 ⊢
    exact hb2 F σ H1 ρ1 c ρ' _ p1.rl e2 fun H2 p2 => k H2 (p1.trans p2)
  | false =>
    rw [if_neg Bool.false_ne_true] at e2 ⊢
    cases e2
    exact k H1 (p1.weak fun z => (Bool.and_eq_true_iff.mp z).1)
theorem tw_or {f g : Tf} (ha : TG X m1 a f) (hb : TW X m2 (.BoolOp .Or (b :: rest) pos) g) : TW X (m1 && m2) (.BoolOp .Or (a :: b :: rest) pos) (orT f g) := by
  obtain ⟨ta, ha1, ha2⟩ := ha.ex
  obtain ⟨tb, hb1, hb2⟩ := hb.ex
  refine ⟨_, pw_or ha1 hb1, fun F σ H ρ c ρ' Q R hf k => ?_⟩
  obtain ⟨⟨x, ρ1⟩, e1, e2⟩ := Option.bind_eq_some_iff.mp hf
  refine ha2 F σ H ρ x ρ1 _ R e1 fun H1 p1 => ?_
  cases x with
  | false =>
    rw [if_neg Bool.false_ne_true] at e2 ⊢
    exact hb2 F σ H1 ρ1 c ρ' _ p1.rl e2 fun H2 p2 => k H2 (p1.trans p2)
  | true =>
    rw [if_pos rfl] at e2 ⊢
    cases e2
    exact k H1 (p1.weak fun z => (Bool.and_eq_true_iff.mp z).1)
theorem tpw_and {f g : Rho → Option Bool} (ha : TP X a f) (hb : TPW X (.BoolOp .And (b :: rest) pos) g) : TPW X (.BoolOp .And (a :: b :: rest) pos) (andP f g) := (tw_and ha hb).cong (andT_lift f g).symm
theorem tpw_or {f g : Rho → Option Bool} (ha : TP X a f) (hb : TPW X (.BoolOp .Or (b :: rest) pos) g) : TPW X (.BoolOp .Or (a :: b :: rest) pos) (orP f g) := (tw_or ha hb).cong (orT_lift f g).symm
end
end DL
namespace DL
open L2 PyProof.Rows PySem PySem.Spec
/-! ## and, or, not as values; a if t else b -/
section
variable {X : Cx} {m m1 m2 m3 : Bool} {kd k1 k2 : Kd} {a b c e : Expr} {fa fb : Ef} {pos : Pos} {rest : List Expr}
def andV (f g : Ef) : Ef := fun ρ => (f ρ).bind fun a => (blOf a.1).bind fun c => if c = true then g a.2 else some (.bool false, a.2)
def orV (f g : Ef) : Ef := fun ρ => (f ρ).bind fun a => (blOf a.1).bind fun c => if c = true then some (.bool true, a.2) else g a.2
def andVP (f g : Rho → Option D) : Rho → Option D := fun ρ => (f ρ).bind fun a => (blOf a).bind fun c => if c = true then g ρ else some (.bool false)
def orVP (f g : Rho → Option D) : Rho → Option D := fun ρ => (f ρ).bind fun a => (blOf a).bind fun c => if c = true then some (.bool true) else g ρ
theorem andV_lift (f g : Rho → Option D) : andV (lift f) (lift g) = lift (andVP f g) := by
  funext ρ; unfold andV lift andVP; cases h : f ρ with
  | none => simp
  | some b => cases h2 : blOf b with
    | none => simp [h2]
    | some c => cases c <;> simp [h2]
theorem orV_lift (f g : Rho → Option D) : orV (lift f) (lift g) = lift (orVP f g) := by
  funext ρ; unfold orV lift orVP; cases h : f ρ with
  | none => simp
  | some b => cases h2 : blOf b with
    | none => simp [h2]
    | some c => cases c <;> simp [h2]
theorem eg_one {op : BoolOp} (h : EG X m kd a fa) : EG X m kd (.BoolOp op [a] pos) fa := by
  obtain ⟨t, h1, h2⟩ := h.ex
  exact ⟨t, pe_one h1, h2⟩
theorem eg_and (ha : EG X m1 k1 a fa) (hb : EG X m2 .k (.BoolOp .And (b :: rest) pos) fb) : EG X (m1 && m2) .k (.BoolOp .And (a :: b :: rest) pos) (andV fa fb) := by
  obtain ⟨ta, ha1, ha2⟩ := ha.ex
  obtain ⟨tb, hb1, hb2⟩ := hb.ex
  refine ⟨_, pe_and ha1 hb1, fun F σ H ρ d ρ' Q R hf k => ?_⟩
  obtain ⟨⟨x, ρ1⟩, e1, e2⟩ := Option.bind_eq_some_iff.mp hf
  obtain ⟨c, e3, e2⟩ := Option.bind_eq_some_iff.mp e2
  have ex : x = .bool c := blOf_some e3
  subst ex
  refine ha2 F σ H ρ _ ρ1 _ R e1 fun v H1 p1 r1 => ?_
  have ev := r1.bw.bool
  subst ev
  refine ⟨c, rfl, ?_⟩
  cases c with
  | true =>
    rw [if_pos rfl] at e2 ⊢
    exact hb2 F σ H1 ρ1 d ρ' _ p1.rl e2 fun u H2 p2 r2 => k u H2 (p1.trans p2) (r2.since p1.ev.dom)
  | false =>
    rw [if_neg Bool.false_ne_true] at e2 ⊢
    cases e2
    exact k _ H1 (p1.weak fun z => (Bool.and_eq_true_iff.mp z).1) (.k (.bl false))
theorem eg_or (ha : EG X m1 k1 a fa) (hb : EG X m2 .k (.BoolOp .Or (b :: rest) pos) fb) : EG X (m1 && m2) .k (.BoolOp .Or (a :: b :: rest) pos) (orV fa fb) := by
  obtain ⟨ta, ha1, ha2⟩ := ha.ex
  obtain ⟨tb, hb1, hb2⟩ := hb.ex
  refine ⟨_, pe_or ha1 hb1, fun F σ H ρ d ρ' Q R hf k => ?_⟩
  obtain ⟨⟨x, ρ1⟩, e1, e2⟩ := Option.bind_eq_some_iff.mp hf
  obtain ⟨c, e3, e2⟩ := Option.bind_eq_some_iff.mp e2
  have ex : x = .bool c := blOf_some e3
  subst ex
  refine ha2 F σ H ρ _ ρ1 _ R e1 fun v H1 p1 r1 => ?_
  have ev := r1.bw.bool
  subst ev
  refine ⟨c, rfl, ?_⟩
  cases c with
  | false =>
    rw [if_neg Bool.false_ne_true] at e2 ⊢
    exact hb2 F σ H1 ρ1 d ρ' _ p1.rl e2 fun u H2 p2 r2 => k u H2 (p1.trans p2) (r2.since p1.ev.dom)
  | true =>
    rw [if_pos rfl] at e2 ⊢
    cases e2
    exact k _ H1 (p1.weak fun z => (Bool.and_eq_true_iff.mp z).1) (.k (.bl true))
theorem ep_and {f g : Rho → Option D} (ha : EP X k1 a f) (hb : EP X .k (.BoolOp .And (b :: rest) pos) g) : EP X .k (.BoolOp .And (a :: b :: rest) pos) (andVP f g) := (eg_and ha hb).cong (andV_lift f g).symm
theorem ep_or {f g : Rho → Option D} (ha : EP X k1 a f) (hb : EP X .k (.BoolOp .Or (b :: rest) pos) g) : EP X .k (.BoolOp .Or (a :: b :: rest) pos) (orVP f g) := (eg_or ha hb).cong (orV_lift f g).symm
def notD (d : D) : Option D := (blOf d).map fun b => .bool (!b)
theorem eg_notV (h : EG X m k1 a fa) : EG X m .k (.UnaryOp .Not a pos) (seq1 notD fa) := by
  obtain ⟨t, h1, h2⟩ := h.ex
  refine ⟨_, pe_not h1, fun F σ H ρ d ρ' Q R hf k => ?_⟩
  obtain ⟨x, e1, e2⟩ := seq1_some hf
  obtain ⟨c, e3, e4⟩ := Option.map_eq_some_iff.mp e2
  subst e4
  have ex := blOf_some e3
  subst ex
  refine h2 F σ H ρ _ ρ' _ R e1 fun v H1 p1 r1 => ?_
  have ev := r1.bw.bool
  subst ev
  exact ⟨c, rfl, k _ H1 p1 (.k (.bl _))⟩
theorem ep_notV {f : Rho → Option D} (h : EP X k1 a f) : EP X .k (.UnaryOp .Not a pos) (pu1 notD f) := (eg_notV h).cong (seq1_lift _ _).symm
def ifV (t : Tf) (f g : Ef) : Ef := fun ρ => (t ρ).bind fun c => if c.1 = true then f c.2 else g c.2
def ifP (t : Rho → Option Bool) (f g : Rho → Option D) : Rho → Option D := fun ρ => (t ρ).bind fun c => if c = true then f ρ else g ρ
theorem ifV_lift (t : Rho → Option Bool) (f g : Rho → Option D) : ifV (liftT t) (lift f) (lift g) = lift (ifP t f g) := by
  funext ρ; unfold ifV liftT lift ifP; cases h : t ρ with
  | none => simp
  | some b => cases b <;> simp
theorem eg_if {t : Tf} (hc : TG X m1 c t) (ha : EG X m2 kd a fa) (hb : EG X m3 kd b fb) : EG X (m1 && (m2 && m3)) kd (.IfExp c a b pos) (ifV t fa fb) := by
  obtain ⟨tc, hc1, hc2⟩ := hc.ex
  obtain ⟨ta, ha1, ha2⟩ := ha.ex
  obtain ⟨tb, hb1, hb2⟩ := hb.ex
  refine ⟨_, pe_ifExp hc1 ha1 hb1, fun F σ H ρ d ρ' Q R hf k => ?_⟩
  obtain ⟨⟨x, ρ1⟩, e1, e2⟩ := Option.bind_eq_some_iff.mp hf
  refine hc2 F σ H ρ x ρ1 _ R e1 fun H1 p1 => ?_
  cases x with
  | true =>
    rw [if_pos rfl] at e2 ⊢
    exact ha2 F σ H1 ρ1 d ρ' _ p1.rl e2 fun u H2 p2 r2 => k u H2 ((p1.trans p2).weak (by cases m1 <;> cases m2 <;> simp)) (r2.since p1.ev.dom)
  | false =>
    rw [if_neg Bool.false_ne_true] at e2 ⊢
    exact hb2 F σ H1 ρ1 d ρ' _ p1.rl e2 fun u H2 p2 r2 => k u H2 ((p1.trans p2).weak (by cases m1 <;> cases m2 <;> cases m3 <;> simp)) (r2.since p1.ev.dom)
theorem ep_if {t : Rho → Option Bool} {f g : Rho → Option D} (hc : TP X c t) (ha : EP X kd a f) (hb : EP X kd b g) : EP X kd (.IfExp c a b pos) (ifP t f g) := (eg_if hc ha hb).cong (ifV_lift t f g).symm
end
/-! ## argument lists -/
abbrev Af := Rho → Option (List D × Rho)
inductive BwL (K : Fg) (O : Ad) (H : Hp) : List V → List D → Prop
  | nil : BwL K O H [] []
  | cons {v : V} {vs : List V} {d : D} {ds : List D} : Bw K O H v d → BwL K O H vs ds → BwL K O H (v :: vs) (d :: ds)
/-- kept arguments -/
structure AG (X : Cx) (m : Bool) (es : List Expr) (f : Af) : Prop where
  ex : ∃ t : TA, PA X es t ∧ ∀ (F : Fx) (σ : L2.St) (H : Hp) (ρ : Rho) (ds : List D) (ρ' : Rho) (Q : List V → Hp → Prop), Rl X.K F σ H ρ → f ρ = some (ds, ρ') →
    (∀ vs H', Po X.K F m σ H ρ H' ρ' → DnL X.K (hide H' (Ow F σ ρ')) vs ds → Q vs H') → t σ H Q
  len : ∀ ρ ds ρ', f ρ = some (ds, ρ') → ds.length = es.length
/-- borrowed ones: nothing changes -/
structure AB (X : Cx) (es : List Expr) (g : Rho → Option (List D)) : Prop where
  ex : ∃ t : TA, PA X es t ∧ ∀ (F : Fx) (σ : L2.St) (H : Hp) (ρ : Rho) (ds : List D) (Q : List V → Hp → Prop), Rl X.K F σ H ρ → g ρ = some ds →
    (∀ vs H', Rl X.K F σ H' ρ → Same H H' → BwL X.K (Ow F σ ρ) H' vs ds → Q vs H') → t σ H Q
def liftA (g : Rho → Option (List D)) : Af := fun ρ => (g ρ).map fun d => (d, ρ)
theorem liftA_some {g : Rho → Option (List D)} {ρ ρ' : Rho} {d : List D} : liftA g ρ = some (d, ρ') ↔ g ρ = some d ∧ ρ' = ρ := by
  unfold liftA
  cases g ρ with
  | none => simp
  | some e => simp [eq_comm]
abbrev AP (X : Cx) (es : List Expr) (g : Rho → Option (List D)) : Prop := AG X true es (liftA g)
def aN : Rho → Option (List D) := fun _ => some []
def aC (f : Rho → Option D) (g : Rho → Option (List D)) : Rho → Option (List D) := fun ρ => (f ρ).bind fun a => (g ρ).map fun r => a :: r
def aS (f : Ef) (g : Af) : Af := fun ρ => (f ρ).bind fun a => (g a.2).map fun r => (a.1 :: r.1, r.2)
theorem aS_lift (f : Rho → Option D) (g : Rho → Option (List D)) : aS (lift f) (liftA g) = liftA (aC f g) := by
  funext ρ; unfold aS lift liftA aC; cases h : f ρ with
  | none => simp
  | some b => cases h2 : g ρ <;> simp [h2]
section
variable {X : Cx} {m m1 m2 : Bool} {kd k1 k2 : Kd} {a e : Expr} {es : List Expr} {pos : Pos}
theorem AG.cong {f f' : Af} (h : AG X m es f) (q : f' = f) : AG X m es f' := by rw [q]; exact h
theorem ap_nil : AP X [] aN := by
  refine ⟨⟨_, pa_nil, fun F σ H ρ ds ρ' Q R hf k => ?_⟩, fun ρ ds ρ' hf => by
    obtain ⟨hf, rfl⟩ := liftA_some.mp hf
    cases hf
    rfl⟩
  obtain ⟨hf, rfl⟩ := liftA_some.mp hf
  cases hf
  exact k [] H (.refl R) .nil
theorem ag_cons {f : Ef} {g : Af} (ha : EG X m1 .k e f) (hr : AG X m2 es g) (hs : starEach (e :: es) X.env = (false, eval e X.env) :: starEach es X.env := by rfl) : AG X (m1 && m2) (e :: es) (aS f g) := by
  obtain ⟨ta, ha1, ha2⟩ := ha.ex
  obtain ⟨tb, hb1, hb2⟩ := hr.ex
  refine ⟨⟨_, pa_cons ha1 hb1 hs, fun F σ H ρ ds ρ' Q R hf k => ?_⟩, fun ρ ds ρ' hf => by
    obtain ⟨⟨x, ρ1⟩, e1, e2⟩ := Option.bind_eq_some_iff.mp hf
    obtain ⟨⟨r, ρ2⟩, e3, e2⟩ := Option.map_eq_some_iff.mp e2
    cases e2
    rw [List.length_cons, List.length_cons, hr.len _ _ _ e3]⟩
  obtain ⟨⟨x, ρ1⟩, e1, e2⟩ := Option.bind_eq_some_iff.mp hf
  obtain ⟨⟨r, ρ2⟩, e3, e2⟩ := Option.map_eq_some_iff.mp e2
  cases e2
  refine ha2 F σ H ρ x ρ1 _ R e1 fun v H1 p1 r1 => ?_
  refine hb2 F σ H1 ρ1 r _ _ p1.rl e3 fun vs H2 p2 r2 => ?_
  exact k _ H2 (p1.trans p2) (.cons (Dn.mono p2.ev.kept r1.vr) r2)
theorem ap_cons {f : Rho → Option D} {g : Rho → Option (List D)} (ha : EP X .k e f) (hr : AP X es g) (hs : starEach (e :: es) X.env = (false, eval e X.env) :: starEach es X.env := by rfl) : AP X (e :: es) (aC f g) := (ag_cons ha hr hs).cong (aS_lift f g).symm
theorem BwL.mono {K : Fg} {O O' : Ad} {H H' : Hp} (e : Same (hide H O) (hide H' O')) (k : Same H H') : ∀ {vs : List V} {ds : List D}, BwL K O H vs ds → BwL K O' H' vs ds
  | _, _, .nil => .nil
  | _, _, .cons h t => .cons (h.mono e k) (BwL.mono e k t)
theorem ab_nil : AB X [] aN := ⟨_, pa_nil, fun F σ H ρ ds Q R hf k => by cases hf; exact k [] H R (.refl _) .nil⟩
theorem ab_cons {f : Rho → Option D} {g : Rho → Option (List D)} (ha : EP X kd e f) (hr : AB X es g) (hs : starEach (e :: es) X.env = (false, eval e X.env) :: starEach es X.env := by rfl) : AB X (e :: es) (aC f g) := by
  obtain ⟨ta, ha1, ha2⟩ := ha.ex
  obtain ⟨tb, hb1, hb2⟩ := hr.ex
  refine ⟨_, pa_cons ha1 hb1 hs, fun F σ H ρ ds Q R hf k => ?_⟩
  obtain ⟨x, e1, e2⟩ := Option.bind_eq_some_iff.mp hf
  obtain ⟨r, e3, e2⟩ := Option.map_eq_some_iff.mp e2
  cases e2
  refine ha2 F σ H ρ x ρ _ R (lift_some.mpr ⟨e1, rfl⟩) fun v H1 p1 r1 => ?_
  refine hb2 F σ H1 ρ r _ p1.rl e3 fun vs H2 R2 s2 r2 => ?_
  exact k _ H2 R2 ((p1.pu rfl).2.trans s2) (.cons (r1.bw.mono (hide_same s2) s2) r2)
/-! ## displays -/
theorem sameNew {H : Hp} {p : Addr} {o : HO} (h : H p = none) : Same H (upd H p o) := fun b x e => by rw [upd_ne (ne_of_none e h)]; exact e
theorem notOwned {K : Fg} {F : Fx} {σ : L2.St} {H : Hp} {ρ : Rho} {p : Addr} (R : Rl K F σ H ρ) (h : H p = none) : ¬ Ow F σ ρ p := fun z => R.domO p z h
theorem fresh_list {K : Fg} {O : Ad} {H0 H : Hp} {p : Addr} {xs : List V} {ds : List D} (h : H p = none) (dom : ∀ a, H0 a ≠ none → H a ≠ none) (hO : ¬ O p) (t : DnL K (hide H O) xs ds) : Vr K .f O H0 (upd H p (.lst xs)) (.ref p) (.list ds) := by
  refine ⟨p, rfl, ?_, hO, xs, upd_same, t.mono fun b o e => ?_⟩
  · cases q : H0 p with
    | none => rfl
    | some o => exact absurd h (dom p (by rw [q]; simp))
  · obtain ⟨e1, e2⟩ := hide_some.mp e
    have hb : b ≠ p := ne_of_none e2 h
    exact hide_some.mpr ⟨fun z => z.elim e1 hb, by rw [upd_ne hb]; exact e2⟩
theorem new_tuple {K : Fg} {O : Ad} {H : Hp} {p : Addr} {xs : List V} {ds : List D} (h : H p = none) (hO : ¬ O p) (t : DnL K (hide H O) xs ds) : Dn K (hide (upd H p (.tup xs)) O) (.ref p) (.tuple ds) :=
  .tup (hide_some.mpr ⟨hO, upd_same⟩) (t.mono (hide_same (sameNew h)))
def lim : Nat := 16777216
theorem lim_line {n : Nat} (h : n ≤ lim) : n ≤ sizeLine := by rw [sizeLine_eq]; exact h
/-- a list, a tuple of some items: at most 64 are written -/
def mkL (f : Af) : Ef := fun ρ => (f ρ).map fun r => (.list r.1, r.2)
def mkT (f : Af) : Ef := fun ρ => (f ρ).map fun r => (.tuple r.1, r.2)
def mkLP (g : Rho → Option (List D)) : Rho → Option D := fun ρ => (g ρ).map .list
def mkTP (g : Rho → Option (List D)) : Rho → Option D := fun ρ => (g ρ).map .tuple
theorem mkL_lift (g : Rho → Option (List D)) : mkL (liftA g) = lift (mkLP g) := by funext ρ; unfold mkL liftA lift mkLP; cases g ρ <;> rfl
theorem mkT_lift (g : Rho → Option (List D)) : mkT (liftA g) = lift (mkTP g) := by funext ρ; unfold mkT liftA lift mkTP; cases g ρ <;> rfl
theorem eg_lst {f : Af} (h : AG X m es f) (hl : Nat.ble es.length 1000 = true := by rfl) : EG X m .f (.List es pos) (mkL f) := by
  obtain ⟨t, h1, h2⟩ := h.ex
  refine ⟨_, pe_lst h1, fun F σ H ρ d ρ' Q R hf k => ?_⟩
  obtain ⟨⟨ds, ρ1⟩, e1, e2⟩ := Option.map_eq_some_iff.mp hf
  cases e2
  refine h2 F σ H ρ ds _ _ R e1 fun vs H1 p1 r1 => ⟨lim_line ?_, fun p hp => ?_⟩
  · rw [r1.length, h.len _ _ _ e1]
    exact Nat.le_trans (Nat.le_of_ble_eq_true hl) (by decide)
  · exact k _ _ (p1.more (sameNew hp)) (.of p1.rl (sameNew hp) (fresh_list hp (fun _ h => h) (notOwned p1.rl hp) r1) p1.ev.dom)
theorem eg_tup {f : Af} {j} (h : AG X m es f) (hl : Nat.ble es.length 1000 = true := by rfl) : EG X m .k (.Tuple es j pos) (mkT f) := by
  obtain ⟨t, h1, h2⟩ := h.ex
  refine ⟨_, pe_tup h1, fun F σ H ρ d ρ' Q R hf k => ?_⟩
  obtain ⟨⟨ds, ρ1⟩, e1, e2⟩ := Option.map_eq_some_iff.mp hf
  cases e2
  refine h2 F σ H ρ ds _ _ R e1 fun vs H1 p1 r1 => ⟨lim_line ?_, fun p hp => ?_⟩
  · rw [r1.length, h.len _ _ _ e1]
    exact Nat.le_trans (Nat.le_of_ble_eq_true hl) (by decide)
  · exact k _ _ (p1.more (sameNew hp)) (.k (new_tuple hp (notOwned p1.rl hp) r1))
theorem ep_lst {g : Rho → Option (List D)} (h : AP X es g) (hl : Nat.ble es.length 1000 = true := by rfl) : EP X .f (.List es pos) (mkLP g) := (eg_lst h hl).cong (mkL_lift g).symm
theorem ep_tup {g : Rho → Option (List D)} {j} (h : AP X es g) (hl : Nat.ble es.length 1000 = true := by rfl) : EP X .k (.Tuple es j pos) (mkTP g) := (eg_tup h hl).cong (mkT_lift g).symm
/-! ## calls of built-ins and types, methods of values -/
def CallD (X : Cx) (kd : Kd) (f : Value) (g : List D → Option D) : Prop :=
  CallR X f fun xs H Q => ∃ (O : Ad) (ds : List D) (z : D), (∀ a, O a → Live H a) ∧ BwL X.K O H xs ds ∧ g ds = some z ∧ ∀ v H', Same H H' → Vr X.K kd O H H' v z → Q v H'
theorem DnL.bw {K : Fg} {O : Ad} {H : Hp} : ∀ {vs : List V} {ds : List D}, DnL K (hide H O) vs ds → BwL K O H vs ds
  | _, _, .nil => .nil
  | _, _, .cons h t => .cons (.inl h) (DnL.bw t)
def seqA (g : List D → Option D) (f : Af) : Ef := fun ρ => (f ρ).bind fun a => (g a.1).map fun z => (z, a.2)
def puA (g : List D → Option D) (f : Rho → Option (List D)) : Rho → Option D := fun ρ => (f ρ).bind g
theorem seqA_lift (g : List D → Option D) (f : Rho → Option (List D)) : seqA g (liftA f) = lift (puA g f) := by
  funext ρ; unfold seqA liftA lift puA; cases f ρ <;> simp
theorem seqA_some {g : List D → Option D} {f : Af} {ρ ρ' : Rho} {z : D} (h : seqA g f ρ = some (z, ρ')) : ∃ ds, f ρ = some (ds, ρ') ∧ g ds = some z := by
  obtain ⟨⟨a, ρ1⟩, h1, h⟩ := Option.bind_eq_some_iff.mp h
  obtain ⟨c, h3, h⟩ := Option.map_eq_some_iff.mp h
  cases h
  exact ⟨a, h1, h3⟩
section
variable {x : Str} {p : Pos}
theorem eg_callB {id : String} {g : List D → Option D} {f : Af} (hc : CallD X kd (.builtin id) g) (hg : Gl X x) (hm : X.mg x = none) (ha : AG X m (e :: es) f) (hv : bootBuiltins x = some (.builtin id) := by decide +kernel) (hn : x ≠ "__name__" := by decide) (hdb : (x == ("__debug__" : Str)) = false := by decide)
    (he : starEach (e :: es) X.env = (false, eval e X.env) :: starEach es X.env := by rfl) (hpl : (backTo pos (starEach es X.env)).any (·.1) = false := by rfl) : EG X m kd (.Call (.Name x p) (e :: es) [] pos) (seqA g f) := by
  obtain ⟨t, h1, h2⟩ := ha.ex
  refine ⟨_, pe_callB hc hg hm hv h1 hn hdb he hpl, fun F σ H ρ d ρ' Q R hf k => ?_⟩
  obtain ⟨ds, e1, e2⟩ := seqA_some hf
  refine h2 F σ H ρ ds ρ' _ R e1 fun vs H1 p1 r1 => ?_
  exact ⟨Ow F σ ρ', ds, d, p1.rl.domL, r1.bw, e2, fun z H3 s3 r3 => k z H3 (p1.more s3) (.of p1.rl s3 r3 p1.ev.dom)⟩
theorem ep_callB {id : String} {g : List D → Option D} {f : Rho → Option (List D)} (hc : CallD X kd (.builtin id) g) (hg : Gl X x) (hm : X.mg x = none) (ha : AB X (e :: es) f) (hv : bootBuiltins x = some (.builtin id) := by decide +kernel) (hn : x ≠ "__name__" := by decide) (hdb : (x == ("__debug__" : Str)) = false := by decide)
    (he : starEach (e :: es) X.env = (false, eval e X.env) :: starEach es X.env := by rfl) (hpl : (backTo pos (starEach es X.env)).any (·.1) = false := by rfl) : EP X kd (.Call (.Name x p) (e :: es) [] pos) (puA g f) := by
  obtain ⟨t, h1, h2⟩ := ha.ex
  refine ⟨_, pe_callB hc hg hm hv h1 hn hdb he hpl, fun F σ H ρ d ρ' Q R hf k => ?_⟩
  obtain ⟨hf, rfl⟩ := lift_some.mp hf
  obtain ⟨ds, e1, e2⟩ := Option.bind_eq_some_iff.mp hf
  refine h2 F σ H ρ' ds _ R e1 fun vs H1 R1 s1 r1 => ?_
  exact ⟨Ow F σ ρ', ds, d, R1.domL, r1, e2, fun z H3 s3 r3 => k z H3 (.grow R (s1.trans s3)) (.of R1 s3 r3 fun a h => sameDom s1 h)⟩
theorem eg_callT {T : String} {g : List D → Option D} {f : Af} (hc : CallD X kd (.type T) g) (hg : Gl X x) (hm : X.mg x = none) (ha : AG X m (e :: es) f) (hv : bootBuiltins x = some (.type T) := by decide +kernel) (hn : x ≠ "__name__" := by decide) (hdb : (x == ("__debug__" : Str)) = false := by decide)
    (he : starEach (e :: es) X.env = (false, eval e X.env) :: starEach es X.env := by rfl) (hpl : (backTo pos (starEach es X.env)).any (·.1) = false := by rfl) : EG X m kd (.Call (.Name x p) (e :: es) [] pos) (seqA g f) := by
  obtain ⟨t, h1, h2⟩ := ha.ex
  refine ⟨_, pe_callTy hc hg hm hv h1 hn hdb he hpl, fun F σ H ρ d ρ' Q R hf k => ?_⟩
  obtain ⟨ds, e1, e2⟩ := seqA_some hf
  refine h2 F σ H ρ ds ρ' _ R e1 fun vs H1 p1 r1 => ?_
  exact ⟨Ow F σ ρ', ds, d, p1.rl.domL, r1.bw, e2, fun z H3 s3 r3 => k z H3 (p1.more s3) (.of p1.rl s3 r3 p1.ev.dom)⟩
theorem ep_callT {T : String} {g : List D → Option D} {f : Rho → Option (List D)} (hc : CallD X kd (.type T) g) (hg : Gl X x) (hm : X.mg x = none) (ha : AB X (e :: es) f) (hv : bootBuiltins x = some (.type T) := by decide +kernel) (hn : x ≠ "__name__" := by decide) (hdb : (x == ("__debug__" : Str)) = false := by decide)
    (he : starEach (e :: es) X.env = (false, eval e X.env) :: starEach es X.env := by rfl) (hpl : (backTo pos (starEach es X.env)).any (·.1) = false := by rfl) : EP X kd (.Call (.Name x p) (e :: es) [] pos) (puA g f) := by
  obtain ⟨t, h1, h2⟩ := ha.ex
  refine ⟨_, pe_callTy hc hg hm hv h1 hn hdb he hpl, fun F σ H ρ d ρ' Q R hf k => ?_⟩
  obtain ⟨hf, rfl⟩ := lift_some.mp hf
  obtain ⟨ds, e1, e2⟩ := Option.bind_eq_some_iff.mp hf
  refine h2 F σ H ρ' ds _ R e1 fun vs H1 R1 s1 r1 => ?_
  exact ⟨Ow F σ ρ', ds, d, R1.domL, r1, e2, fun z H3 s3 r3 => k z H3 (.grow R (s1.trans s3)) (.of R1 s3 r3 fun a h => sameDom s1 h)⟩
end
end
end DL
namespace DL
open L2 PyProof.Rows PySem PySem.Spec
/-! ## slots set -/
def setP (i : Nat) (d : D) (ρ : Rho) : Option Rho := match ρ[i]? with
  | none => none
  | some (.m _) => none
  | some _ => some (ρ.set i (.p d))
def setO (i : Nat) (d : D) (ρ : Rho) : Option Rho := match ρ[i]? with
  | none => none
  | some (.m _) => none
  | some _ => some (ρ.set i (.o d))
theorem setP_some {i : Nat} {d : D} {ρ ρ' : Rho} (h : setP i d ρ = some ρ') : ∃ s, ρ[i]? = some s ∧ ρ' = ρ.set i (.p d) ∧ ∀ e, s ≠ .m e := by
  unfold setP at h
  split at h
  · cases h
  · cases h
  · rename_i s hn hs
    cases h
    exact ⟨s, hs, rfl, fun e z => hn e z⟩
theorem setO_some {i : Nat} {d : D} {ρ ρ' : Rho} (h : setO i d ρ = some ρ') : ∃ s, ρ[i]? = some s ∧ ρ' = ρ.set i (.o d) ∧ ∀ e, s ≠ .m e := by
  unfold setO at h
  split at h
  · cases h
  · cases h
  · rename_i s hn hs
    cases h
    exact ⟨s, hs, rfl, fun e z => hn e z⟩
section
variable {K : Fg} {F : Fx} {σ : L2.St} {H H' : Hp} {ρ ρ' : Rho} {i : Nat} {s : Sl} {v : V} {d : D} {a : Addr}
theorem lt_of_some {α : Type} {l : List α} {i : Nat} {x : α} (h : l[i]? = some x) : i < l.length := (List.getElem?_eq_some_iff.mp h).1
theorem own_setP {x : Option V} {j : Nat} {b : Addr} {t : Sl} (ht : t.own = false) (h : Own (σ.set i x) (ρ.set i t) j b) : j ≠ i ∧ Own σ ρ j b := by
  obtain ⟨u, h1, h2, h3⟩ := h
  by_cases e : i = j
  · subst e
    have hl : i < ρ.length := by have := lt_of_some h1; simpa using this
    rw [List.getElem?_set_self hl] at h1
    cases h1
    rw [ht] at h2
    cases h2
  · rw [List.getElem?_set_ne e] at h1 h3
    exact ⟨fun z => e z.symm, u, h1, h2, h3⟩
/-- a slot is given plain data (or forgotten) -/
theorem Rl.setAny {t : Sl} {x : Option V} (R : Rl K F σ H ρ) (h : ρ[i]? = some s) (ht : t.own = false) (ok : SlOk K (hide H (Ow F σ ρ)) H F i x t) : Rl K F (σ.set i x) H (ρ.set i t) ∧ Evo F σ H ρ (σ.set i x) H (ρ.set i t) := by
  have hl : i < ρ.length := lt_of_some h
  have hl' : i < σ.length := by rw [R.len]; exact hl
  have less : ∀ b, Ow F (σ.set i x) (ρ.set i t) b → Ow F σ ρ b := fun b hb => by
    rcases hb with hb | ⟨j, hb⟩
    · exact .inl hb
    · exact .inr ⟨j, (own_setP ht hb).2⟩
  have G : Same (hide H (Ow F σ ρ)) (hide H (Ow F (σ.set i x) (ρ.set i t))) := hide_less less
  refine ⟨⟨by simpa using R.len, fun j u hu => ?_, fun j k b h1 h2 => R.inj j k b (own_setP ht h1).2 (own_setP ht h2).2, fun b hb => ⟨(R.oc b hb).1, fun j q => (R.oc b hb).2 j (own_setP ht q).2⟩, R.dom⟩, ⟨G, fun _ _ => rfl, fun _ h => h⟩⟩
  by_cases e : i = j
  · subst e
    rw [List.getElem?_set_self hl] at hu
    cases hu
    exact ⟨x, List.getElem?_set_self hl', ok.mono G fun _ _ _ q => q⟩
  · rw [List.getElem?_set_ne e] at hu
    obtain ⟨y, h1, h2⟩ := R.slot j u hu
    exact ⟨y, by rw [List.getElem?_set_ne e]; exact h1, h2.mono G fun _ _ _ q => q⟩
theorem Rl.setPure (R : Rl K F σ H ρ) (h : setP i d ρ = some ρ') (hd : Dn K (hide H (Ow F σ ρ)) v d) : Rl K F (σ.set i (some v)) H ρ' ∧ Evo F σ H ρ (σ.set i (some v)) H ρ' := by
  obtain ⟨s, h1, rfl, _⟩ := setP_some h
  exact R.setAny h1 rfl ⟨v, rfl, hd⟩
theorem own_setO {j : Nat} {b : Addr} {t : Sl} (ht : t.own = true) (hl : i < σ.length) (h : Own (σ.set i (some (.ref a))) (ρ.set i t) j b) : (j = i ∧ b = a) ∨ (j ≠ i ∧ Own σ ρ j b) := by
  obtain ⟨u, h1, h2, h3⟩ := h
  by_cases e : i = j
  · subst e
    rw [List.getElem?_set_self hl] at h3
    cases h3
    exact .inl ⟨rfl, rfl⟩
  · rw [List.getElem?_set_ne e] at h1 h3
    exact .inr ⟨fun z => e z.symm, u, h1, h2, h3⟩
/-- a slot is given a fresh list or dict of its own; H0: the heap ahead of its making -/
theorem Rl.setOwn {H0 : Hp} (R : Rl K (F.add a) σ H' ρ) (h : setO i d ρ = some ρ') (t : Top K (hide H' (insA (Ow F σ ρ) a)) H' a d) (dom : ∀ b, F.H0 b ≠ none → H0 b ≠ none) (hn : H0 a = none) (ho : ¬ Ow F σ ρ a) :
    Rl K F (σ.set i (some (.ref a))) H' ρ' := by
  obtain ⟨s, h1, rfl, hm⟩ := setO_some h
  have hl : i < ρ.length := lt_of_some h1
  have hl' : i < σ.length := by rw [R.len]; exact hl
  have hFa : F.H0 a = none := by
    cases q : F.H0 a with
    | none => rfl
    | some o => exact absurd hn (dom a (by rw [q]; simp))
  have less : ∀ b, Ow F (σ.set i (some (.ref a))) (ρ.set i (.o d)) b → insA (Ow F σ ρ) a b := fun b hb => by
    rcases hb with hb | ⟨j, hb⟩
    · exact .inl (.inl hb)
    · rcases own_setO (by rfl) hl' hb with ⟨_, e⟩ | ⟨_, q⟩
      · exact .inr e
      · exact .inl (.inr ⟨j, q⟩)
  have G : Same (hide H' (insA (Ow F σ ρ) a)) (hide H' (Ow F (σ.set i (some (.ref a))) (ρ.set i (.o d)))) := hide_less less
  have G' : Same (hide H' (Ow (F.add a) σ ρ)) (hide H' (Ow F (σ.set i (some (.ref a))) (ρ.set i (.o d)))) := hide_less fun b hb => ow_add.mpr (less b hb)
  have na : ∀ j, ¬ Own σ ρ j a := (R.oc a (.inr rfl)).2
  refine ⟨by simpa using R.len, fun j u hu => ?_, fun j k b h1 h2 => ?_, fun b hb => ⟨(R.oc b (.inl hb)).1, fun j q => ?_⟩, R.dom⟩
  · by_cases e : i = j
    · subst e
      rw [List.getElem?_set_self hl] at hu
      cases hu
      exact ⟨_, List.getElem?_set_self hl', a, rfl, t.mono G fun _ q => q, hFa⟩
    · rw [List.getElem?_set_ne e] at hu
      obtain ⟨y, h1, h2⟩ := R.slot j u hu
      exact ⟨y, by rw [List.getElem?_set_ne e]; exact h1, SlOk.mono (F := F) (by cases u <;> exact h2) G' fun _ _ _ q => q⟩
  · rcases own_setO (by rfl) hl' h1 with ⟨e1, e2⟩ | ⟨e1, q1⟩
    · rcases own_setO (by rfl) hl' h2 with ⟨e3, e4⟩ | ⟨e3, q2⟩
      · rw [e1, e3]
      · subst e2; exact absurd q2 (na k)
    · rcases own_setO (by rfl) hl' h2 with ⟨e3, e4⟩ | ⟨e3, q2⟩
      · subst e4; exact absurd q1 (na j)
      · exact R.inj j k b q1 q2
  · rcases own_setO (by rfl) hl' q with ⟨e1, e2⟩ | ⟨e1, q1⟩
    · subst e2
      exact ho (.inl hb)
    · exact (R.oc b (.inl hb)).2 j q1
theorem Rl.setOwnEvo {H0 : Hp} {ρ0 : Rho} (p : Evo F σ H0 ρ0 σ H' ρ) (R : Rl K (F.add a) σ H' ρ) (h : setO i d ρ = some ρ') (hn : H0 a = none) (ho : ¬ Ow F σ ρ a) : Evo F σ H0 ρ0 (σ.set i (some (.ref a))) H' ρ' := by
  obtain ⟨s, h1, rfl, hm⟩ := setO_some h
  have hl' : i < σ.length := by rw [R.len]; exact lt_of_some h1
  refine ⟨fun b o e => ?_, p.oc, p.dom⟩
  obtain ⟨e1, e2⟩ := hide_some.mp (p.kept b o e)
  refine hide_some.mpr ⟨fun z => ?_, e2⟩
  rcases z with z | ⟨j, z⟩
  · exact e1 (.inl z)
  · rcases own_setO (by rfl) hl' z with ⟨_, e3⟩ | ⟨_, q⟩
    · subst e3
      exact absurd hn (ne_none_of (hide_some.mp e).2)
    · exact e1 (.inr ⟨j, q⟩)
/-- the slot's own list gives up being owned: it may be walked, handed on, but no more changed -/
def frz (i : Nat) (ρ : Rho) : Rho := match ρ[i]? with
  | some (.o d) => ρ.set i (.p d)
  | _ => ρ
theorem Rl.freeze (R : Rl K F σ H ρ) (i : Nat) : Rl K F σ H (frz i ρ) ∧ Evo F σ H ρ σ H (frz i ρ) := by
  unfold frz
  split
  · rename_i d e
    obtain ⟨x, h1, a, h2, t, h3⟩ := R.slot i _ e
    subst h2
    have ho : Own σ ρ i a := ⟨_, e, rfl, h1⟩
    have hs : σ.set i (some (.ref a)) = σ := by
      refine List.ext_getElem? fun j => ?_
      by_cases z : i = j
      · subst z
        rw [List.getElem?_set_self (lt_of_some h1)]
        exact h1.symm
      · rw [List.getElem?_set_ne z]
    have less : ∀ b, Ow F (σ.set i (some (.ref a))) (ρ.set i (.p d)) b → Ow F σ ρ b := fun b hb => by
      rcases hb with hb | ⟨j, hb⟩
      · exact .inl hb
      · exact .inr ⟨j, (own_setP rfl hb).2⟩
    have na : ¬ Ow F (σ.set i (some (.ref a))) (ρ.set i (.p d)) a := fun z => by
      rcases z with z | ⟨j, z⟩
      · exact (R.oc a z).2 i ho
      · obtain ⟨h4, h5⟩ := own_setP rfl z
        exact h4 (R.inj j i a h5 ho)
    have G : Same (hide H (Ow F σ ρ)) (hide H (Ow F (σ.set i (some (.ref a))) (ρ.set i (.p d)))) := hide_less less
    have dn : Dn K (hide H (Ow F (σ.set i (some (.ref a))) (ρ.set i (.p d)))) (.ref a) d := by
      cases d with
      | list ds => obtain ⟨xs, q1, q2⟩ := t; exact .lst (.of (hide_some.mpr ⟨na, q1⟩)) (q2.mono G)
      | dict ds =>
        rcases t with ⟨ks, q1, q2⟩ | ⟨ks, q1, q2⟩
        · exact .dic (.inl (hide_some.mpr ⟨na, q1⟩)) (q2.mono G)
        · exact .dct (.inl (hide_some.mpr ⟨na, q1⟩)) (q2.mono G)
      | _ => exact t.elim
    have hl : i < ρ.length := lt_of_some e
    rw [hs] at less na G dn
    refine ⟨⟨by simpa using R.len, fun j u hu => ?_, fun j k b h1 h2 => ?_, fun b hb => ⟨(R.oc b hb).1, fun j q => ?_⟩, R.dom⟩, ⟨G, fun _ _ => rfl, fun _ h => h⟩⟩
    · by_cases z : i = j
      · subst z
        rw [List.getElem?_set_self hl] at hu
        cases hu
        exact ⟨_, h1, _, rfl, dn⟩
      · rw [List.getElem?_set_ne z] at hu
        obtain ⟨y, q1, q2⟩ := R.slot j u hu
        exact ⟨y, q1, q2.mono G fun _ _ _ q => q⟩
    · rw [← hs] at h1 h2
      exact R.inj j k b (own_setP rfl h1).2 (own_setP rfl h2).2
    · rw [← hs] at q
      exact (R.oc b hb).2 j (own_setP rfl q).2
  · exact ⟨R, .refl⟩
/-- what a slot owns -/
def ownd (i : Nat) (ρ : Rho) : Option D := match ρ[i]? with
  | some (.o d) => some d
  | some (.m d) => some d
  | _ => none
def Sl.put : Sl → D → Sl
  | .o _, d => .o d
  | .m _, d => .m d
  | s, _ => s
def wr (i : Nat) (d : D) (ρ : Rho) : Rho := match ρ[i]? with
  | some s => ρ.set i (s.put d)
  | none => ρ
theorem ownd_some (R : Rl K F σ H ρ) (h : ownd i ρ = some d) : ∃ a s, ρ[i]? = some s ∧ s.own = true ∧ σ[i]? = some (some (.ref a)) ∧ Top K (hide H (Ow F σ ρ)) H a d := by
  unfold ownd at h
  split at h
  · rename_i e q
    cases h
    obtain ⟨x, h1, a, h2, t, _⟩ := R.slot i _ q
    subst h2
    exact ⟨a, _, q, rfl, h1, t⟩
  · rename_i e q
    cases h
    obtain ⟨x, h1, a, h2, t, _⟩ := R.slot i _ q
    subst h2
    exact ⟨a, _, q, rfl, h1, t⟩
  · cases h
theorem own_put {s : Sl} {d : D} : (s.put d).own = s.own := by cases s <;> rfl
theorem own_wr {σ : L2.St} {ρ : Rho} {i j : Nat} {b : Addr} {d : D} : Own σ (wr i d ρ) j b ↔ Own σ ρ j b := by
  unfold wr
  split
  · rename_i s e
    by_cases z : i = j
    · subst z
      unfold Own
      rw [List.getElem?_set_self (lt_of_some e), e]
      constructor
      · rintro ⟨u, h1, h2, h3⟩
        cases h1
        exact ⟨s, rfl, by rw [own_put] at h2; exact h2, h3⟩
      · rintro ⟨u, h1, h2, h3⟩
        cases h1
        exact ⟨_, rfl, by rw [own_put]; exact h2, h3⟩
    · unfold Own
      rw [List.getElem?_set_ne z]
  · exact Iff.rfl
theorem ow_wr {F : Fx} {σ : L2.St} {ρ : Rho} {i : Nat} {d : D} : Ow F σ (wr i d ρ) = Ow F σ ρ := by
  funext b
  unfold Ow
  refine propext ⟨fun h => h.imp id fun ⟨j, q⟩ => ⟨j, own_wr.mp q⟩, fun h => h.imp id fun ⟨j, q⟩ => ⟨j, own_wr.mpr q⟩⟩
/-- the slot's own list or dict is changed -/
theorem Rl.write {s : Sl} {o : HO} (R : Rl K F σ H ρ) (hs : ρ[i]? = some s) (hw : s.own = true) (ha : σ[i]? = some (some (.ref a))) (t : Top K (hide H (Ow F σ ρ)) (upd H a o) a d) :
    Rl K F σ (upd H a o) (wr i d ρ) ∧ Evo F σ H ρ σ (upd H a o) (wr i d ρ) := by
  have ow : Own σ ρ i a := ⟨s, hs, hw, ha⟩
  have hO : Ow F σ ρ a := .inr ⟨i, ow⟩
  have G : Same (hide H (Ow F σ ρ)) (hide (upd H a o) (Ow F σ (wr i d ρ))) := by
    rw [ow_wr]
    refine hide_both fun b u nb hb => ⟨nb, ?_⟩
    rw [upd_ne (fun z => nb (by rw [z]; exact hO))]
    exact hb
  have dom : ∀ b, H b ≠ none → upd H a o b ≠ none := fun b hb => by
    by_cases z : b = a
    · subst z; rw [upd_same]; simp
    · rw [upd_ne z]; exact hb
  have nOc : ¬ F.Oc a := fun z => (R.oc a z).2 i ow
  refine ⟨⟨?_, fun j u hu => ?_, fun j k b h1 h2 => R.inj j k b (own_wr.mp h1) (own_wr.mp h2), fun b hb => ⟨(R.oc b hb).1.upd (fun z => nOc (by rw [← z]; exact hb)), fun j q => (R.oc b hb).2 j (own_wr.mp q)⟩, fun b hb => dom b (R.dom b hb)⟩, ⟨G, fun b hb => upd_ne (fun z => nOc (by rw [← z]; exact hb)), dom⟩⟩
  · unfold wr
    rw [hs]
    simpa using R.len
  · by_cases z : i = j
    · subst z
      unfold wr at hu
      rw [hs] at hu
      simp only at hu
      rw [List.getElem?_set_self (lt_of_some hs)] at hu
      cases hu
      obtain ⟨x, h1, h2⟩ := R.slot i s hs
      rw [ha] at h1
      cases h1
      refine ⟨_, ha, ?_⟩
      have G' : Same (hide H (Ow F σ ρ)) (hide (upd H a o) (Ow F σ (wr i d ρ))) := G
      cases s with
      | un => cases hw
      | p e => cases hw
      | o e => obtain ⟨b, e1, _, e3⟩ := h2; cases e1; exact ⟨a, rfl, t.mono G' fun _ q => q, e3⟩
      | m e => obtain ⟨b, e1, _, e3⟩ := h2; cases e1; exact ⟨a, rfl, t.mono G' fun _ q => q, e3⟩
    · have hu' : ρ[j]? = some u := by
        unfold wr at hu
        rw [hs] at hu
        simp only at hu
        rw [List.getElem?_set_ne z] at hu
        exact hu
      obtain ⟨x, h1, h2⟩ := R.slot j u hu'
      refine ⟨x, h1, ?_⟩
      have keep : ∀ b, Own σ ρ j b → ∀ q, H b = some q → upd H a o b = some q := fun b hb q e => by
        rw [upd_ne (fun y => z (R.inj i j a ow (by rw [← y]; exact hb)))]
        exact e
      cases u with
      | un => trivial
      | p e => obtain ⟨v, e1, e2⟩ := h2; exact ⟨v, e1, e2.mono G⟩
      | o e => obtain ⟨b, e1, e2, e3⟩ := h2; subst e1; exact ⟨b, rfl, e2.mono G (keep b ⟨_, hu', rfl, h1⟩), e3⟩
      | m e => obtain ⟨b, e1, e2, e3⟩ := h2; subst e1; exact ⟨b, rfl, e2.mono G (keep b ⟨_, hu', rfl, h1⟩), e3⟩
end
end DL
namespace DL
open L2 PyProof.Rows PySem PySem.Spec
/-! ## statements -/
inductive Out where
  | nx (ρ : Rho)
  | rt (d : D) (ρ : Rho)
  | bk (ρ : Rho)
  | ct (ρ : Rho)
abbrev Sf := Rho → Option Out
/-- what the callers own, what was handed in to be changed -/
def Om (F : Fx) (ρ : Rho) : Ad := fun a => F.Oc a ∨ ∃ (i : Nat) (d : D), ρ[i]? = some (Sl.m d) ∧ F.a0[i]? = some (some (V.ref a))
theorem om_ow {K : Fg} {F : Fx} {σ : L2.St} {H : Hp} {ρ : Rho} (R : Rl K F σ H ρ) : ∀ a, Om F ρ a → Ow F σ ρ a := fun a h => by
  rcases h with h | ⟨i, d, e, h⟩
  · exact .inl h
  · obtain ⟨x, h1, b, h2, t, h3⟩ := R.slot i _ e
    subst h2
    rw [h] at h3
    cases h3
    exact .inr ⟨i, _, e, rfl, h1⟩
def EndOk (K : Fg) (F : Fx) (kr : Kd) (σ : L2.St) (H : Hp) (ρ : Rho) (E : Ends) : Out → Prop
  | .nx ρ' => ∀ σ' H', Rl K F σ' H' ρ' → Evo F σ H ρ σ' H' ρ' → E.nx σ' H'
  | .bk ρ' => ∀ σ' H', Rl K F σ' H' ρ' → Evo F σ H ρ σ' H' ρ' → E.bk σ' H'
  | .ct ρ' => ∀ σ' H', Rl K F σ' H' ρ' → Evo F σ H ρ σ' H' ρ' → E.ct σ' H'
  | .rt d ρ' => ∀ v σ' H', Rl K F σ' H' ρ' → Evo F σ H ρ σ' H' ρ' → Vr K kr (Om F ρ') F.H0 H' v d → E.rt v H'
structure SG (X : Cx) (kr : Kd) (st : Stmt) (f : Sf) : Prop where
  ex : ∃ t : TS, PS X st t ∧ ∀ (F : Fx) (σ : L2.St) (H : Hp) (ρ : Rho) (o : Out) (E : Ends), Rl X.K F σ H ρ → f ρ = some o → EndOk X.K F kr σ H ρ E o → t E σ H
structure SB (X : Cx) (kr : Kd) (sts : List Stmt) (f : Sf) : Prop where
  ex : ∃ t : TS, PSs X sts t ∧ ∀ (F : Fx) (σ : L2.St) (H : Hp) (ρ : Rho) (o : Out) (E : Ends), Rl X.K F σ H ρ → f ρ = some o → EndOk X.K F kr σ H ρ E o → t E σ H
theorem EndOk.later {K : Fg} {F : Fx} {kr : Kd} {σ σ1 : L2.St} {H H1 : Hp} {ρ ρ1 : Rho} {E : Ends} {o : Out} (k : EndOk K F kr σ H ρ E o) (ev : Evo F σ H ρ σ1 H1 ρ1) : EndOk K F kr σ1 H1 ρ1 E o := by
  cases o with
  | nx ρ' => exact fun σ' H' R e => k σ' H' R (ev.trans e)
  | bk ρ' => exact fun σ' H' R e => k σ' H' R (ev.trans e)
  | ct ρ' => exact fun σ' H' R e => k σ' H' R (ev.trans e)
  | rt d ρ' => exact fun v σ' H' R e r => k v σ' H' R (ev.trans e) r
def sNx : Sf := fun ρ => some (.nx ρ)
def sSeq (f g : Sf) : Sf := fun ρ => (f ρ).bind fun o => match o with
  | .nx ρ1 => g ρ1
  | o => some o
section
variable {X : Cx} {kr kd : Kd} {m m1 m2 : Bool} {st : Stmt} {rest a b : List Stmt} {e c : Expr} {pos pos' : Pos} {f g : Sf} {fe : Ef}
theorem SG.cong {f' : Sf} (h : SG X kr st f) (q : f' = f) : SG X kr st f' := by rw [q]; exact h
theorem sb_nil : SB X kr [] sNx := ⟨_, pss_nil, fun F σ H ρ o E R hf k => by cases hf; exact k σ H R .refl⟩
theorem sb_cons (h1 : SG X kr st f) (h2 : SB X kr rest g) : SB X kr (st :: rest) (sSeq f g) := by
  obtain ⟨ta, ha1, ha2⟩ := h1.ex
  obtain ⟨tb, hb1, hb2⟩ := h2.ex
  refine ⟨_, pss_cons ha1 hb1, fun F σ H ρ o E R hf k => ?_⟩
  obtain ⟨o1, e1, e2⟩ := Option.bind_eq_some_iff.mp hf
  refine ha2 F σ H ρ o1 _ R e1 ?_
  cases o1 with
  | nx ρ1 => exact fun σ1 H1 R1 ev => hb2 F σ1 H1 ρ1 o E R1 e2 (k.later ev)
  | bk ρ1 => cases e2; exact k
  | ct ρ1 => cases e2; exact k
  | rt d ρ1 => cases e2; exact k
theorem sb_one (h1 : SG X kr st f) : SB X kr [st] f := by
  obtain ⟨ta, ha1, ha2⟩ := h1.ex
  exact ⟨_, pss_one ha1, ha2⟩
theorem sg_pass : SG X kr (.Pass pos) sNx := ⟨_, ps_pass, fun F σ H ρ o E R hf k => by cases hf; exact k σ H R .refl⟩
def sBk : Sf := fun ρ => some (.bk ρ)
def sCt : Sf := fun ρ => some (.ct ρ)
theorem sg_break : SG X kr (.Break pos) sBk := ⟨_, ps_break, fun F σ H ρ o E R hf k => by cases hf; exact k σ H R .refl⟩
theorem sg_continue : SG X kr (.Continue pos) sCt := ⟨_, ps_continue, fun F σ H ρ o E R hf k => by cases hf; exact k σ H R .refl⟩
/-- return e -/
def sRt (f : Ef) : Sf := fun ρ => (f ρ).map fun a => .rt a.1 a.2
theorem Vr.home {K : Fg} {F : Fx} {kd : Kd} {σ : L2.St} {H H' : Hp} {ρ : Rho} {v : V} {d : D} (hk : kd = .k ∨ kd = .f) (R : Rl K F σ H' ρ) (dom : ∀ a, F.H0 a ≠ none → H a ≠ none) (h : Vr K kd (Ow F σ ρ) H H' v d) : Vr K kd (Om F ρ) F.H0 H' v d := by
  rcases hk with rfl | rfl
  · exact Dn.mono (hide_less (om_ow R)) h
  · obtain ⟨a, e, n, ho, t⟩ := h.since dom
    exact ⟨a, e, n, fun z => ho (om_ow R a z), t.mono (hide_less fun b hb => hb.imp (om_ow R b) id) fun _ q => q⟩
theorem sg_ret (h : EG X m kr e fe) (hk : kr = .k ∨ kr = .f := by first | exact .inl rfl | exact .inr rfl) : SG X kr (.Return (some e) pos) (sRt fe) := by
  obtain ⟨t, h1, h2⟩ := h.ex
  refine ⟨_, ps_ret h1, fun F σ H ρ o E R hf k => ?_⟩
  obtain ⟨⟨d, ρ1⟩, e1, e2⟩ := Option.map_eq_some_iff.mp hf
  cases e2
  refine h2 F σ H ρ d ρ1 _ R e1 fun v H' p r => ?_
  exact k v σ H' p.rl p.ev (Vr.home hk p.rl R.dom r.vr)
/-- return of the def's own list -/
def sRtO (i : Nat) : Sf := fun ρ => match ρ[i]? with
  | some (.o d) => some (.rt d ρ)
  | _ => none
theorem sg_retO {i : Nat} {x : Str} {p : Pos} (h : PE X (.Name x p) (tVar i)) : SG X .f (.Return (some (.Name x p)) pos) (sRtO i) := by
  refine ⟨_, ps_ret h, fun F σ H ρ o E R hf k => ?_⟩
  unfold sRtO at hf
  split at hf
  · rename_i d q
    cases hf
    obtain ⟨y, h1, a, h2, t, h3⟩ := R.slot i _ q
    subst h2
    have ow : Own σ ρ i a := ⟨_, q, rfl, h1⟩
    have no : ¬ Om F ρ a := fun z => by
      rcases z with z | ⟨j, d', q1, q2⟩
      · exact (R.oc a z).2 i ow
      · obtain ⟨y', g1, b, g2, _, g3⟩ := R.slot j _ q1
        subst g2
        rw [q2] at g3
        cases g3
        have ij := R.inj i j a ow ⟨_, q1, rfl, g1⟩
        subst ij
        rw [q] at q1
        cases q1
    refine ⟨.ref a, h1, k _ σ H R .refl ⟨a, rfl, h3, no, t.mono (hide_less fun b hb => ?_) fun _ z => z⟩⟩
    rcases hb with hb | rfl
    · exact om_ow R b hb
    · exact .inr ⟨i, ow⟩
  · cases hf
/-- the own list handed back as plain data -/
theorem sg_retOK {i : Nat} {x : Str} {p : Pos} (h : PE X (.Name x p) (tVar i)) : SG X .k (.Return (some (.Name x p)) pos) (sRtO i) := by
  obtain ⟨t, h1, h2⟩ := (sg_retO (X := X) (pos := pos) h).ex
  refine ⟨t, h1, fun F σ H ρ o E R hf k => h2 F σ H ρ o E R hf ?_⟩
  cases o with
  | nx ρ' => exact k
  | bk ρ' => exact k
  | ct ρ' => exact k
  | rt d ρ' => exact fun v σ' H' R' ev r => k v σ' H' R' ev (Vr.weak r)
def sRtN : Sf := fun ρ => some (.rt .none ρ)
theorem sg_retN : SG X .k (.Return none pos) sRtN := ⟨_, ps_retN, fun F σ H ρ o E R hf k => by cases hf; exact k _ σ H R .refl .non⟩
/-- if -/
def sIf (t : Tf) (f g : Sf) : Sf := fun ρ => (t ρ).bind fun c => if c.1 = true then f c.2 else g c.2
theorem sg_if {t : Tf} (hc : TG X m c t) (ha : SB X kr a f) (hb : SB X kr b g) : SG X kr (.If c a b pos) (sIf t f g) := by
  obtain ⟨tc, hc1, hc2⟩ := hc.ex
  obtain ⟨ta, ha1, ha2⟩ := ha.ex
  obtain ⟨tb, hb1, hb2⟩ := hb.ex
  refine ⟨_, ps_if hc1 ha1 hb1, fun F σ H ρ o E R hf k => ?_⟩
  obtain ⟨⟨x, ρ1⟩, e1, e2⟩ := Option.bind_eq_some_iff.mp hf
  refine hc2 F σ H ρ x ρ1 _ R e1 fun H1 p1 => ?_
  cases x with
  | true =>
    rw [if_pos rfl] at e2 ⊢
    exact ha2 F σ H1 ρ1 o E p1.rl e2 (k.later p1.ev)
  | false =>
    rw [if_neg Bool.false_ne_true] at e2 ⊢
    exact hb2 F σ H1 ρ1 o E p1.rl e2 (k.later p1.ev)
/-- the slot i's own list is given up ahead of the statement -/
def sFz (i : Nat) (f : Sf) : Sf := fun ρ => f (frz i ρ)
theorem SG.frz (i : Nat) (h : SG X kr st f) : SG X kr st (sFz i f) := by
  obtain ⟨t, h1, h2⟩ := h.ex
  refine ⟨t, h1, fun F σ H ρ o E R hf k => ?_⟩
  obtain ⟨R1, ev⟩ := R.freeze i
  exact h2 F σ H _ o E R1 hf (k.later ev)
/-- an expression whose value is dropped -/
def sEx (f : Ef) : Sf := fun ρ => (f ρ).map fun a => .nx a.2
theorem sg_expr (h : EG X m kd e fe) (hs : swapsWith e none pos.line X.env = pure false := by rfl) : SG X kr (.Expr e pos) (sEx fe) := by
  obtain ⟨t, h1, h2⟩ := h.ex
  refine ⟨_, ps_expr h1 hs, fun F σ H ρ o E R hf k => ?_⟩
  obtain ⟨⟨d, ρ1⟩, e1, e2⟩ := Option.map_eq_some_iff.mp hf
  cases e2
  exact h2 F σ H ρ d ρ1 _ R e1 fun v H' p r => k σ H' p.rl p.ev
/-! ## assignments to a name -/
def sSetP (i : Nat) (f : Ef) : Sf := fun ρ => (f ρ).bind fun a => (setP i a.1 a.2).map .nx
def sSetO (i : Nat) (f : Ef) : Sf := fun ρ => (f ρ).bind fun a => (setO i a.1 a.2).map .nx
/-- the pattern: an expression, its value stored -/
theorem set_pure {te : TE} {i : Nat} (h2 : ∀ (F : Fx) (σ : L2.St) (H : Hp) (ρ : Rho) (d : D) (ρ' : Rho) (Q : VK), Rl X.K F σ H ρ → fe ρ = some (d, ρ') → (∀ v H', Po X.K F m σ H ρ H' ρ' → Er X.K F σ ρ' .k H H' v d → Q v H') → te σ H Q)
    (F : Fx) (σ : L2.St) (H : Hp) (ρ : Rho) (o : Out) (E : Ends) (R : Rl X.K F σ H ρ) (hf : sSetP i fe ρ = some o) (k : EndOk X.K F kr σ H ρ E o) : tAsg te (gName i) E σ H := by
  obtain ⟨⟨d, ρ1⟩, e1, e2⟩ := Option.bind_eq_some_iff.mp hf
  obtain ⟨ρ2, e3, e4⟩ := Option.map_eq_some_iff.mp e2
  cases e4
  refine h2 F σ H ρ d ρ1 _ R e1 fun v H' p r => ?_
  obtain ⟨R2, ev⟩ := p.rl.setPure e3 r.vr
  exact k _ _ R2 (p.ev.trans ev)
theorem set_own {te : TE} {i : Nat} (h2 : ∀ (F : Fx) (σ : L2.St) (H : Hp) (ρ : Rho) (d : D) (ρ' : Rho) (Q : VK), Rl X.K F σ H ρ → fe ρ = some (d, ρ') → (∀ v H', Po X.K F m σ H ρ H' ρ' → Er X.K F σ ρ' .f H H' v d → Q v H') → te σ H Q)
    (F : Fx) (σ : L2.St) (H : Hp) (ρ : Rho) (o : Out) (E : Ends) (R : Rl X.K F σ H ρ) (hf : sSetO i fe ρ = some o) (k : EndOk X.K F kr σ H ρ E o) : tAsg te (gName i) E σ H := by
  obtain ⟨⟨d, ρ1⟩, e1, e2⟩ := Option.bind_eq_some_iff.mp hf
  obtain ⟨ρ2, e3, e4⟩ := Option.map_eq_some_iff.mp e2
  cases e4
  refine h2 F σ H ρ d ρ1 _ R e1 fun v H' p r => ?_
  obtain ⟨a, e, n, ho, t⟩ := r.vr
  subst e
  have R1 := r.fr rfl a rfl
  exact k _ _ (R1.setOwn e3 t R.dom n ho) (Rl.setOwnEvo p.ev R1 e3 n ho)
section
variable {i : Nat} {x : Str} (hN : X.N.Nodup) (hi : X.N[i]? = some x) (hx : Loc X.env.scope x)
theorem sg_set (hN : X.N.Nodup) (hi : X.N[i]? = some x) (hx : Loc X.env.scope x) (h : EG X m .k e fe) (hs : swapsWith e (some (.Name x pos')) pos.line X.env = pure false := by rfl) (hf : X.fn x = true ∨ X.env.scope.names.lookup x = some .local := by first | exact .inl rfl | exact .inr rfl | assumption) :
    SG X kr (.Assign [.Name x pos'] e pos) (sSetP i fe) := by
  obtain ⟨t, h1, h2⟩ := h.ex
  exact ⟨_, ps_set hN hi hx h1 hs hf, set_pure h2⟩
theorem sg_setO (hN : X.N.Nodup) (hi : X.N[i]? = some x) (hx : Loc X.env.scope x) (h : EG X m .f e fe) (hs : swapsWith e (some (.Name x pos')) pos.line X.env = pure false := by rfl) (hf : X.fn x = true ∨ X.env.scope.names.lookup x = some .local := by first | exact .inl rfl | exact .inr rfl | assumption) :
    SG X kr (.Assign [.Name x pos'] e pos) (sSetO i fe) := by
  obtain ⟨t, h1, h2⟩ := h.ex
  exact ⟨_, ps_set hN hi hx h1 hs hf, set_own h2⟩
end
/-! ## targets of loops, unpacking: the slots that they write are told -/
abbrev Gf := D → Rho → Option Rho
structure GG (X : Cx) (ws : List Nat) (tg : Expr) (f : Gf) : Prop where
  ex : ∃ t : L2.TG, PG X tg t ∧ ∀ (F : Fx) (σ : L2.St) (H : Hp) (ρ ρ' : Rho) (v : V) (d : D) (Q : L2.St → Hp → Prop), Rl X.K F σ H ρ → Dn X.K (hide H (Ow F σ ρ)) v d → f d ρ = some ρ' →
    (∀ σ', Rl X.K F σ' H ρ' → Evo F σ H ρ σ' H ρ' → (∀ j, j ∉ ws → σ'[j]? = σ[j]?) → Q σ' H) → t v σ H Q
  out : ∀ d ρ ρ', f d ρ = some ρ' → ρ'.length = ρ.length ∧ (∀ j, j ∉ ws → ρ'[j]? = ρ[j]?) ∧ ∀ j, j ∈ ws → ∃ e, ρ'[j]? = some (.p e)
structure GGs (X : Cx) (ws : List Nat) (tgs : List Expr) (f : List D → Rho → Option Rho) : Prop where
  ex : ∃ t : L2.TGs, PGs X tgs t ∧ ∀ (F : Fx) (σ : L2.St) (H : Hp) (ρ ρ' : Rho) (vs : List V) (ds : List D) (Q : L2.St → Hp → Prop), Rl X.K F σ H ρ → DnL X.K (hide H (Ow F σ ρ)) vs ds → f ds ρ = some ρ' →
    (∀ σ', Rl X.K F σ' H ρ' → Evo F σ H ρ σ' H ρ' → (∀ j, j ∉ ws → σ'[j]? = σ[j]?) → Q σ' H) → t vs σ H Q
  out : ∀ d ρ ρ', f d ρ = some ρ' → ρ'.length = ρ.length ∧ (∀ j, j ∉ ws → ρ'[j]? = ρ[j]?) ∧ ∀ j, j ∈ ws → ∃ e, ρ'[j]? = some (.p e)
def gNil : List D → Rho → Option Rho
  | [], ρ => some ρ
  | _ :: _, _ => none
def gCons (f : Gf) (g : List D → Rho → Option Rho) : List D → Rho → Option Rho
  | [], _ => none
  | d :: ds, ρ => (f d ρ).bind (g ds)
def gTup (n : Nat) (g : List D → Rho → Option Rho) : Gf
  | .tuple ds, ρ => if ds.length = n then g ds ρ else none
  | _, _ => none
theorem gg_name {i : Nat} {x : Str} (hN : X.N.Nodup) (hi : X.N[i]? = some x) (hx : Loc X.env.scope x) (hf : X.fn x = true ∨ X.env.scope.names.lookup x = some .local := by first | exact .inl rfl | exact .inr rfl | assumption) : GG X [i] (.Name x pos) (setP i) := by
  refine ⟨⟨_, pg_name hN hi hx hf, fun F σ H ρ ρ' v d Q R hd hf k => ?_⟩, fun d ρ ρ' hf => ?_⟩
  · obtain ⟨R2, ev⟩ := R.setPure hf hd
    obtain ⟨s, h1, rfl, _⟩ := setP_some hf
    exact k _ R2 ev fun j hj => List.getElem?_set_ne (fun z => hj (by simp [z]))
  · obtain ⟨s, h1, rfl, _⟩ := setP_some hf
    refine ⟨by simp, fun j hj => List.getElem?_set_ne (fun z => hj (by simp [z])), fun j hj => ⟨d, ?_⟩⟩
    obtain rfl : j = i := by simpa using hj
    exact List.getElem?_set_self (lt_of_some h1)
theorem ggs_nil : GGs X [] [] gNil := by
  refine ⟨⟨_, pgs_nil, fun F σ H ρ ρ' vs ds Q R hd hf k => ?_⟩, fun d ρ ρ' hf => ?_⟩
  · cases hd with
    | nil => cases hf; exact ⟨rfl, k _ R .refl fun _ _ => rfl⟩
    | cons _ _ => cases hf
  · cases d with
    | nil => cases hf; exact ⟨rfl, fun _ _ => rfl, fun _ z => absurd z (by simp)⟩
    | cons _ _ => cases hf
theorem ggs_cons {e : Expr} {es : List Expr} {w1 w2 : List Nat} {f : Gf} {g : List D → Rho → Option Rho} (h1 : GG X w1 e f) (h2 : GGs X w2 es g)
    (hs : (assignEach (e :: es) X.env).map (·.2) = assign e X.env :: (assignEach es X.env).map (·.2) := by rfl) : GGs X (w1 ++ w2) (e :: es) (gCons f g) := by
  obtain ⟨ta, ha1, ha2⟩ := h1.ex
  obtain ⟨tb, hb1, hb2⟩ := h2.ex
  refine ⟨⟨_, pgs_cons ha1 hb1 hs, fun F σ H ρ ρ' vs ds Q R hd hf k => ?_⟩, fun ds ρ ρ' hf => ?_⟩
  · cases hd with
    | nil => cases hf
    | cons h t =>
      obtain ⟨ρ1, e1, e2⟩ := Option.bind_eq_some_iff.mp hf
      refine ⟨_, _, rfl, ha2 F σ H ρ ρ1 _ _ _ R h e1 fun σ1 R1 ev1 o1 => ?_⟩
      refine hb2 F σ1 H ρ1 ρ' _ _ _ R1 (DnL.mono ev1.kept t) e2 fun σ2 R2 ev2 o2 => ?_
      refine k σ2 R2 (ev1.trans ev2) fun j hj => ?_
      have j1 : j ∉ w1 := fun z => hj (List.mem_append_left _ z)
      have j2 : j ∉ w2 := fun z => hj (List.mem_append_right _ z)
      exact (o2 j j2).trans (o1 j j1)
  · cases ds with
    | nil => cases hf
    | cons d ds =>
      obtain ⟨ρ1, e1, e2⟩ := Option.bind_eq_some_iff.mp hf
      obtain ⟨l1, o1⟩ := h1.out _ _ _ e1
      obtain ⟨l2, o2⟩ := h2.out _ _ _ e2
      refine ⟨l2.trans l1, fun j hj => ?_, fun j hj => ?_⟩
      · have j1 : j ∉ w1 := fun z => hj (List.mem_append_left _ z)
        have j2 : j ∉ w2 := fun z => hj (List.mem_append_right _ z)
        exact (o2.1 j j2).trans (o1.1 j j1)
      · by_cases j2 : j ∈ w2
        · exact o2.2 j j2
        · obtain ⟨e, he⟩ := o1.2 j ((List.mem_append.mp hj).elim id fun z => absurd z j2)
          exact ⟨e, (o2.1 j j2).trans he⟩
theorem gg_tup {es : List Expr} {n k : Nat} {ws : List Nat} {g : List D → Rho → Option Rho} (hc : X.calm = true) (h : GGs X ws es g) (hn : (assignEach es X.env).length = n := by rfl) (hst : (assignEach es X.env).findIdx? (·.1) = none := by rfl) : GG X ws (.Tuple es k pos) (gTup n g) := by
  obtain ⟨ta, ha1, ha2⟩ := h.ex
  refine ⟨⟨_, pg_tup hc ha1 hn hst, fun F σ H ρ ρ' v d Q R hd hf k => ?_⟩, fun d ρ ρ' hf => ?_⟩
  · cases d with
    | tuple ds =>
      have hf' : (if ds.length = n then g ds ρ else none) = some ρ' := hf
      by_cases e : ds.length = n
      · rw [if_pos e] at hf'
        cases hd with
        | tup h1 h2 =>
          exact ⟨_, _, rfl, .of (hide_sub _ _ h1), by rw [h2.length]; exact e, ha2 F σ H ρ ρ' _ ds Q R h2 hf' k⟩
      · rw [if_neg e] at hf'
        cases hf'
    | _ => cases hf
  · cases d with
    | tuple ds =>
      have hf' : (if ds.length = n then g ds ρ else none) = some ρ' := hf
      by_cases e : ds.length = n
      · rw [if_pos e] at hf'
        exact h.out _ _ _ hf'
      · rw [if_neg e] at hf'
        cases hf'
    | _ => cases hf
/-- target = e -/
def sAsg (g : Gf) (f : Ef) : Sf := fun ρ => (f ρ).bind fun a => (g a.1 a.2).map .nx
theorem sg_asg {tg : Expr} {ws : List Nat} {g : Gf} (h : EG X m .k e fe) (hg : GG X ws tg g) (hs : swapsWithSole [tg] e pos.line X.env = pure false := by rfl) (hw : swappedStores [tg] e X.env = pure none := by rfl)
    (h1 : (assignEach [tg] X.env).map (·.2) = [assign tg X.env] := by rfl) : SG X kr (.Assign [tg] e pos) (sAsg g fe) := by
  obtain ⟨t, ht1, ht2⟩ := h.ex
  obtain ⟨tg', hg1, hg2⟩ := hg.ex
  refine ⟨_, ps_asg ht1 hg1 hs hw h1, fun F σ H ρ o E R hf k => ?_⟩
  obtain ⟨⟨d, ρ1⟩, e1, e2⟩ := Option.bind_eq_some_iff.mp hf
  obtain ⟨ρ2, e3, e4⟩ := Option.map_eq_some_iff.mp e2
  cases e4
  refine ht2 F σ H ρ d ρ1 _ R e1 fun v H' p r => ?_
  exact hg2 F σ H' ρ1 ρ2 v d _ p.rl r.vr e3 fun σ' R' ev' _ => k σ' H' R' (p.ev.trans ev')
/-- a, b = x, y: both values first -/
def sPar (i j : Nat) (f : Af) : Sf := fun ρ => (f ρ).bind fun a => match a.1 with
  | [x, y] => (setP i x a.2).bind fun ρ1 => (setP j y ρ1).map .nx
  | _ => none
theorem sg_par {i j : Nat} {x y : Str} {a b : Expr} {fa : Af} {px py pt : Pos} {kt k2 pt2} (hc : X.calm = true) (hN : X.N.Nodup) (hi : X.N[i]? = some x) (hj : X.N[j]? = some y) (hij : i ≠ j)
    (hx : X.env.scope.names.lookup x = some .local) (hy : X.env.scope.names.lookup y = some .local) (ha : AG X m [a, b] fa)
    (hw : swappedStores [.Tuple [.Name x px, .Name y py] kt pt] (.Tuple [a, b] k2 pt2) X.env = pure (some [x, y])) (hs : swapsWithSole [.Tuple [.Name x px, .Name y py] kt pt] (.Tuple [a, b] k2 pt2) pos.line X.env = pure false := by rfl) :
    SG X kr (.Assign [.Tuple [.Name x px, .Name y py] kt pt] (.Tuple [a, b] k2 pt2) pos) (sPar i j fa) := by
  obtain ⟨t, h1, h2⟩ := ha.ex
  refine ⟨_, ps_par hc hN hi hj hij hx hy h1 hw hs, fun F σ H ρ o E R hf k => ?_⟩
  obtain ⟨⟨ds, ρ1⟩, e1, e2⟩ := Option.bind_eq_some_iff.mp hf
  refine h2 F σ H ρ ds ρ1 _ R e1 fun vs H' p r => ?_
  cases r with
  | nil => cases e2
  | cons r1 r =>
    cases r with
    | nil => cases e2
    | cons r2 r =>
      cases r with
      | cons _ _ => cases e2
      | nil =>
        obtain ⟨ρ2, e3, e4⟩ := Option.bind_eq_some_iff.mp e2
        obtain ⟨ρ3, e5, e6⟩ := Option.map_eq_some_iff.mp e4
        cases e6
        obtain ⟨R2, ev2⟩ := p.rl.setPure e3 r1
        obtain ⟨R3, ev3⟩ := R2.setPure e5 (Dn.mono ev2.kept r2)
        exact ⟨_, _, rfl, k _ _ R3 ((p.ev.trans ev2).trans ev3)⟩
end
end DL
namespace DL
open L2 PyProof.Rows PySem PySem.Spec
/-! ## what is walked -/
structure ItOk (K : Fg) (bw : Bool) (G' H' : Hp) (J : It) (ds : List D) : Prop where
  go : ∀ i H2 O2, Same G' (hide H2 O2) → (bw = true → Same H' H2) → i < ds.length → J.go i H2
  stop : ∀ i H2 O2, Same G' (hide H2 O2) → (bw = true → Same H' H2) → ds.length ≤ i → J.stop i H2
  yld : ∀ i H2 O2 x H3, Same G' (hide H2 O2) → (bw = true → Same H' H2) → (∀ a, O2 a → Live H2 a) → i < ds.length → J.yld i H2 x H3 → Same H2 H3 ∧ ∃ d, ds[i]? = some d ∧ Dn K (hide H3 O2) x d
structure IG (X : Cx) (m bw : Bool) (tg iter : Expr) (f : Af) : Prop where
  ex : ∃ wi : TI, PI X tg iter wi ∧ ∀ (F : Fx) (σ : L2.St) (H : Hp) (ρ : Rho) (ds : List D) (ρ' : Rho) (R : It → Hp → Prop), Rl X.K F σ H ρ → f ρ = some (ds, ρ') →
    (∀ J H', Po X.K F m σ H ρ H' ρ' → ItOk X.K bw (hide H' (Ow F σ ρ')) H' J ds → R J H') → wi σ H R
theorem IG.cong {X : Cx} {m bw : Bool} {tg iter : Expr} {f f' : Af} (h : IG X m bw tg iter f) (q : f' = f) : IG X m bw tg iter f' := by rw [q]; exact h
def chars (x : Str) : List D := x.cps.toList.map fun c => .str ⟨#[c]⟩
/-- the items of what can be walked -/
def items : D → Option (List D)
  | .list ds => some ds
  | .tuple ds => some ds
  | .str x => some (chars x)
  | _ => none
def iAny (K : Fg) (tl : TE) : TI := fun σ H R => tl σ H fun x H1 => (∃ a xs, x = .ref a ∧ SqL K H1 a xs ∧ R (Itl K a) H1) ∨ (∃ a xs, x = .ref a ∧ SqT K H1 a xs ∧ R (Itt K a) H1) ∨ ∃ z, x = .str z ∧ R (Its z) H1
theorem pi_any {X : Cx} {tg l : Expr} {tl : TE} (hl : PE X l tl) : PI X tg l (iAny X.K tl) := by
  refine ⟨fun pins s σ H R I h => thn (hl.run pins s σ H _ I h) fun v s1 ⟨x, H1, I1, r1, q1⟩ => ?_⟩
  rcases q1 with ⟨a, xs, e, hq, q⟩ | ⟨a, xs, e, hq, q⟩ | ⟨z, e, q⟩ <;> subst e
  · cases r1
    obtain ⟨its, rv, p, hz⟩ := I1.list hq
    exact wpAny_pyIter_list p.isList (pi_one (tk := s1.toks) I1 _ (turn_list a _) ⟨_, Heap.get?_push_size _ rfl, rfl, rfl⟩ q)
  · cases r1
    obtain ⟨its, rv, p, hz⟩ := I1.tuple hq
    exact wpAny_pyIter_tuple (show s1.heap.IsTuple a its.toArray from p) (pi_one (tk := s1.toks) I1 _ (turn_tuple a _) ⟨_, Heap.get?_push_size _ rfl, rfl, rfl⟩ q)
  · obtain ⟨t, rfl⟩ := r1
    cases ha : z.cps.all (· < 128)
    · exact wpAny_pyIter_wide ha (pi_one (tk := s1.toks) I1 _ (turn_str _ z t "str_iterator" (.inr rfl)) ⟨_, Heap.get?_push_size _ rfl, rfl, rfl⟩ q)
    · exact wpAny_pyIter_ascii ha (pi_one (tk := s1.toks) I1 _ (turn_str _ z t "str_ascii_iterator" (.inl rfl)) ⟨_, Heap.get?_push_size _ rfl, rfl, rfl⟩ q)
def seqI (f : Ef) : Af := fun ρ => (f ρ).bind fun a => (items a.1).map fun r => (r, a.2)
def puI (f : Rho → Option D) : Rho → Option (List D) := fun ρ => (f ρ).bind items
theorem seqI_lift (f : Rho → Option D) : seqI (lift f) = liftA (puI f) := by funext ρ; unfold seqI lift liftA puI; cases f ρ <;> simp
def isB : Kd → Bool
  | .b => true
  | _ => false
theorem itOk_list {K : Fg} {bw : Bool} {G' H' : Hp} {a : Addr} {xs : List V} {ds : List D} (hq : ∀ H2 O2, Same G' (hide H2 O2) → (bw = true → Same H' H2) → SqL K H2 a xs) (t : DnL K G' xs ds) : ItOk K bw G' H' (Itl K a) ds where
  go := fun i H2 O2 g b hi => by
    obtain ⟨u, h1, _⟩ := t.get (List.getElem?_eq_getElem hi)
    exact ⟨xs, u, hq H2 O2 g b, h1⟩
  stop := fun i H2 O2 g b hi => ⟨xs, hq H2 O2 g b, by rw [t.length]; exact hi⟩
  yld := fun i H2 O2 x H3 g b _ hi y => by
    obtain ⟨e, y⟩ := y
    subst e
    obtain ⟨u, h1, h2⟩ := t.get (List.getElem?_eq_getElem hi)
    have e := y xs (hq H3 O2 g b)
    rw [h1] at e
    cases e
    exact ⟨.refl _, ds[i], List.getElem?_eq_getElem hi, h2.mono g⟩
theorem itOk_tup {K : Fg} {bw : Bool} {G' H' : Hp} {a : Addr} {xs : List V} {ds : List D} (hq : ∀ H2 O2, Same G' (hide H2 O2) → (bw = true → Same H' H2) → SqT K H2 a xs) (t : DnL K G' xs ds) : ItOk K bw G' H' (Itt K a) ds where
  go := fun i H2 O2 g b hi => by
    obtain ⟨u, h1, _⟩ := t.get (List.getElem?_eq_getElem hi)
    exact ⟨xs, u, hq H2 O2 g b, h1⟩
  stop := fun i H2 O2 g b hi => ⟨xs, hq H2 O2 g b, by rw [t.length]; exact hi⟩
  yld := fun i H2 O2 x H3 g b _ hi y => by
    obtain ⟨e, y⟩ := y
    subst e
    obtain ⟨u, h1, h2⟩ := t.get (List.getElem?_eq_getElem hi)
    have e := y xs (hq H3 O2 g b)
    rw [h1] at e
    cases e
    exact ⟨.refl _, ds[i], List.getElem?_eq_getElem hi, h2.mono g⟩
theorem itOk_str {K : Fg} {bw : Bool} {G' H' : Hp} {z : Str} : ItOk K bw G' H' (Its z) (chars z) where
  go := fun i H2 O2 g b hi => by
    have hi : i < z.cps.size := by simpa [chars] using hi
    exact hi
  stop := fun i H2 O2 g b hi => by
    have hi : z.cps.size ≤ i := by simpa [chars] using hi
    exact hi
  yld := fun i H2 O2 x H3 g b _ hi y => by
    obtain ⟨e, c, hc, hx⟩ := y
    subst e hx
    refine ⟨.refl _, .str ⟨#[c]⟩, ?_, .str _⟩
    unfold chars
    rw [List.getElem?_map, Array.getElem?_toList, hc]
    rfl
theorem seqT_sub {K : Fg} {H H' : Hp} {a : Addr} {xs : List V} (e : Same H H') (h : SqT K H a xs) : SqT K H' a xs := by
  rcases h with (h | ⟨o, h⟩) | h
  · exact .inl (.inl (e _ _ h))
  · exact .inl (.inr ⟨o, e _ _ h⟩)
  · exact .inr h
section
variable {X : Cx} {m : Bool} {kd : Kd} {tg e : Expr} {fe : Ef}
theorem it_kept {bw : Bool} {G H' : Hp} {R : It → Hp → Prop} {d : D} {ds : List D} {v : V} (hG : Same G H') (hd : Dn X.K G v d) (hi : items d = some ds) (k : ∀ J, ItOk X.K bw G H' J ds → R J H') :
    (∃ a xs, v = .ref a ∧ SqL X.K H' a xs ∧ R (Itl X.K a) H') ∨ (∃ a xs, v = .ref a ∧ SqT X.K H' a xs ∧ R (Itt X.K a) H') ∨ ∃ z, v = .str z ∧ R (Its z) H' := by
  cases hd with
  | lst q t => cases hi; exact .inl ⟨_, _, rfl, hG.seq q, k _ (itOk_list (fun H2 O2 g _ => hide_sub.seq (g.seq q)) t)⟩
  | tup q t => cases hi; exact .inr (.inl ⟨_, _, rfl, .of (hG _ _ q), k _ (itOk_tup (fun H2 O2 g _ => .of (hide_sub _ _ (g _ _ q))) t)⟩)
  | str z => cases hi; exact .inr (.inr ⟨z, rfl, k _ itOk_str⟩)
  | _ => cases hi
theorem it_borrowed {H' : Hp} {O : Ad} {R : It → Hp → Prop} {d : D} {ds : List D} {v : V} (hd : Bw X.K O H' v d) (hi : items d = some ds) (k : ∀ J, ItOk X.K true (hide H' O) H' J ds → R J H') :
    (∃ a xs, v = .ref a ∧ SqL X.K H' a xs ∧ R (Itl X.K a) H') ∨ (∃ a xs, v = .ref a ∧ SqT X.K H' a xs ∧ R (Itt X.K a) H') ∨ ∃ z, v = .str z ∧ R (Its z) H' := by
  cases d with
  | list ds' => cases hi; obtain ⟨a, xs, e, q, t⟩ := hd.list; exact .inl ⟨a, xs, e, q, k _ (itOk_list (fun H2 O2 g b => (b rfl).seq q) t)⟩
  | tuple ds' => cases hi; obtain ⟨a, xs, e, q, t⟩ := hd.tuple; exact .inr (.inl ⟨a, xs, e, .of (hide_sub _ _ q), k _ (itOk_tup (fun H2 O2 g b => .of (b rfl _ _ (hide_sub _ _ q))) t)⟩)
  | str z => cases hi; exact .inr (.inr ⟨z, hd.str, k _ itOk_str⟩)
  | _ => cases hi
/-- a list, a tuple, a text; a borrowed one for what changes nothing -/
theorem ig_any (h : EG X m kd e fe) : IG X m (isB kd) tg e (seqI fe) := by
  obtain ⟨t, h1, h2⟩ := h.ex
  refine ⟨_, pi_any h1, fun F σ H ρ ds ρ' R Rr hf k => ?_⟩
  obtain ⟨⟨d, ρ1⟩, e1, e2⟩ := Option.bind_eq_some_iff.mp hf
  obtain ⟨r, e3, e4⟩ := Option.map_eq_some_iff.mp e2
  cases e4
  refine h2 F σ H ρ d ρ1 _ Rr e1 fun v H' p r => ?_
  cases kd with
  | k => exact it_kept hide_sub r.vr e3 fun J ok => k J H' p ok
  | f => exact it_kept hide_sub (Vr.weak r.vr) e3 fun J ok => k J H' p ok
  | b => exact it_borrowed r.vr e3 fun J ok => k J H' p ok
theorem ip_any {g : Rho → Option D} (h : EP X kd e g) : IG X true (isB kd) tg e (liftA (puI g)) := (ig_any h).cong (seqI_lift g).symm
/-! ranges -/
def bnd (i : Int) : Bool := Nat.blt i.natAbs 4611686018427387904
theorem bnd_iff {i : Int} : bnd i = true ↔ -(2 ^ 62) < i ∧ i < 2 ^ 62 := by
  unfold bnd
  rw [Nat.blt_eq]
  omega
theorem bnd_of {i : Int} (h : bnd i = true) : -(2 ^ 62) ≤ i ∧ i < 2 ^ 62 := by
  have := bnd_iff.mp h
  exact ⟨Int.le_of_lt this.1, this.2⟩
def rgI (lo : Int) (n : Nat) : List D := (List.range n).map fun i => .int (lo + (i : Nat))
def rgC (lo c : Int) (n : Nat) : List D := (List.range n).map fun i => .int (lo + (i : Nat) * c)
/-- range(..): one or two rgI, or downward by ones -/
def rng : List D → Option (List D)
  | [.int j] => if bnd j = true then some (rgI 0 j.toNat) else none
  | [.int i, .int j] => if (bnd i && bnd j) = true then some (rgI i (j - i).toNat) else none
  | [.int i, .int j, .int c] => if (bnd i && bnd j && decide (c = -1)) = true then some (rgC i (-1) (i - j).toNat) else none
  | _ => none
theorem itOk_range {K : Fg} {bw : Bool} {G' H' : Hp} {lo : Int} {n : Nat} : ItOk K bw G' H' (Itr lo n) (rgI lo n) where
  go := fun i H2 O2 g b hi => by
    have hi : i < n := by simpa [rgI] using hi
    exact hi
  stop := fun i H2 O2 g b hi => by
    have hi : n ≤ i := by simpa [rgI] using hi
    exact hi
  yld := fun i H2 O2 x H3 g b _ hi y => by
    have hi : i < n := by simpa [rgI] using hi
    obtain ⟨e, y⟩ := y
    subst e y
    exact ⟨.refl _, .int (lo + i), by simp [rgI, hi], .int _⟩
theorem itOk_rangeC {K : Fg} {bw : Bool} {G' H' : Hp} {lo c : Int} {n : Nat} : ItOk K bw G' H' (Itc lo c n) (rgC lo c n) where
  go := fun i H2 O2 g b hi => by
    have hi : i < n := by simpa [rgC] using hi
    exact hi
  stop := fun i H2 O2 g b hi => by
    have hi : n ≤ i := by simpa [rgC] using hi
    exact hi
  yld := fun i H2 O2 x H3 g b _ hi y => by
    have hi : i < n := by simpa [rgC] using hi
    obtain ⟨e, y⟩ := y
    subst e y
    exact ⟨.refl _, .int (lo + i * c), by simp [rgC, hi], .int _⟩
def seqR (f : Af) : Af := fun ρ => (f ρ).bind fun a => (rng a.1).map fun r => (r, a.2)
def puR (f : Rho → Option (List D)) : Rho → Option (List D) := fun ρ => (f ρ).bind rng
theorem seqR_lift (f : Rho → Option (List D)) : seqR (liftA f) = liftA (puR f) := by funext ρ; unfold seqR liftA puR; cases f ρ <;> simp
theorem dnl1 {K : Fg} {G : Hp} {vs : List V} {i : Int} (h : DnL K G vs [.int i]) : vs = [.int i] := by
  cases h with
  | cons h t => cases h; cases t; rfl
theorem dnl2 {K : Fg} {G : Hp} {vs : List V} {i j : Int} (h : DnL K G vs [.int i, .int j]) : vs = [.int i, .int j] := by
  cases h with
  | cons h t => cases h; rw [dnl1 t]
theorem dnl3 {K : Fg} {G : Hp} {vs : List V} {i j c : Int} (h : DnL K G vs [.int i, .int j, .int c]) : vs = [.int i, .int j, .int c] := by
  cases h with
  | cons h t => cases h; rw [dnl2 t]
variable {p pos : Pos} {a b c : Expr} {f : Af}
theorem ig_range1 (hg : Gl X "range") (hm : X.mg "range" = none) (h : AG X m [a] f) (hs : starEach [a] X.env = [(false, eval a X.env)] := by rfl) : IG X m false tg (.Call (.Name "range" p) [a] [] pos) (seqR f) := by
  obtain ⟨t, h1, h2⟩ := h.ex
  refine ⟨_, pi_range1 hg hm h1 hs, fun F σ H ρ ds ρ' R Rr hf k => ?_⟩
  obtain ⟨⟨es, ρ1⟩, e1, e2⟩ := Option.bind_eq_some_iff.mp hf
  obtain ⟨r, e3, e4⟩ := Option.map_eq_some_iff.mp e2
  cases e4
  have hl := h.len _ _ _ e1
  refine h2 F σ H ρ es ρ1 _ Rr e1 fun vs H' p r => ?_
  match es, hl with
  | [x], _ =>
    cases x with
    | int j =>
      have e3' : (if bnd j = true then some (rgI 0 j.toNat) else none) = some ds := e3
      by_cases hb : bnd j = true
      · rw [if_pos hb] at e3'
        cases e3'
        obtain ⟨b1, b2⟩ := bnd_of hb
        exact ⟨j, dnl1 r, b1, b2, k _ H' p itOk_range⟩
      · rw [if_neg hb] at e3'
        cases e3'
    | _ => cases e3
theorem ig_range2 (hg : Gl X "range") (hm : X.mg "range" = none) (h : AG X m [a, b] f) (hs : starEach [a, b] X.env = [(false, eval a X.env), (false, eval b X.env)] := by rfl) (hs2 : starEach [b] X.env = [(false, eval b X.env)] := by rfl) : IG X m false tg (.Call (.Name "range" p) [a, b] [] pos) (seqR f) := by
  obtain ⟨t, h1, h2⟩ := h.ex
  refine ⟨_, pi_range2 hg hm h1 hs hs2, fun F σ H ρ ds ρ' R Rr hf k => ?_⟩
  obtain ⟨⟨es, ρ1⟩, e1, e2⟩ := Option.bind_eq_some_iff.mp hf
  obtain ⟨r, e3, e4⟩ := Option.map_eq_some_iff.mp e2
  cases e4
  have hl := h.len _ _ _ e1
  refine h2 F σ H ρ es ρ1 _ Rr e1 fun vs H' p r => ?_
  match es, hl with
  | [x, y], _ =>
    cases x with
    | int i =>
      cases y with
      | int j =>
        have e3' : (if (bnd i && bnd j) = true then some (rgI i (j - i).toNat) else none) = some ds := e3
        by_cases hb : (bnd i && bnd j) = true
        · rw [if_pos hb] at e3'
          cases e3'
          obtain ⟨z1, z2⟩ := Bool.and_eq_true_iff.mp hb
          obtain ⟨b1, b2⟩ := bnd_of z1
          obtain ⟨b3, b4⟩ := bnd_of z2
          exact ⟨i, j, dnl2 r, ⟨b1, b2, b3, b4⟩, k _ H' p itOk_range⟩
        · rw [if_neg hb] at e3'
          cases e3'
      | _ => cases e3
    | _ => cases e3
theorem ig_range3 (hg : Gl X "range") (hm : X.mg "range" = none) (h : AG X m [a, b, c] f) (hs : starEach [a, b, c] X.env = (false, eval a X.env) :: starEach [b, c] X.env := by rfl) (hpl : (backTo pos (starEach [b, c] X.env)).any (·.1) = false := by rfl) :
    IG X m false tg (.Call (.Name "range" p) [a, b, c] [] pos) (seqR f) := by
  obtain ⟨t, h1, h2⟩ := h.ex
  refine ⟨_, pi_range3 hg hm h1 hs hpl, fun F σ H ρ ds ρ' R Rr hf k => ?_⟩
  obtain ⟨⟨es, ρ1⟩, e1, e2⟩ := Option.bind_eq_some_iff.mp hf
  obtain ⟨r, e3, e4⟩ := Option.map_eq_some_iff.mp e2
  cases e4
  have hl := h.len _ _ _ e1
  refine h2 F σ H ρ es ρ1 _ Rr e1 fun vs H' p r => ?_
  match es, hl with
  | [x, y, z], _ =>
    cases x with
    | int i =>
      cases y with
      | int j =>
        cases z with
        | int c =>
          have e3' : (if (bnd i && bnd j && decide (c = -1)) = true then some (rgC i (-1) (i - j).toNat) else none) = some ds := e3
          by_cases hb : (bnd i && bnd j && decide (c = -1)) = true
          · rw [if_pos hb] at e3'
            cases e3'
            obtain ⟨z1, z3⟩ := Bool.and_eq_true_iff.mp hb
            obtain ⟨z1, z2⟩ := Bool.and_eq_true_iff.mp z1
            obtain ⟨b1, b2⟩ := bnd_of z1
            obtain ⟨b3, b4⟩ := bnd_of z2
            have z3 := of_decide_eq_true z3
            subst z3
            exact ⟨i, j, -1, (i - j).toNat, dnl3 r, .neg b1 b2 b3 b4, k _ H' p itOk_rangeC⟩
          · rw [if_neg hb] at e3'
            cases e3'
        | _ => cases e3
      | _ => cases e3
    | _ => cases e3
end
/-! ## for -/
def forS (g : Gf) (b : Sf) : List D → Sf
  | [] => fun ρ => some (.nx ρ)
  | d :: ds => fun ρ => (g d ρ).bind fun ρ1 => (b ρ1).bind fun o => match o with
    | .nx ρ2 => forS g b ds ρ2
    | .ct ρ2 => forS g b ds ρ2
    | .bk ρ2 => some (.nx ρ2)
    | .rt d ρ2 => some (.rt d ρ2)
def sFor (it : Af) (g : Gf) (b : Sf) : Sf := fun ρ => (it ρ).bind fun a => forS g b a.1 a.2
section
variable {X : Cx} {kr : Kd} {m : Bool} {pos : Pos}
theorem sg_for {tg iter : Expr} {body : List Stmt} {it : Af} {g : Gf} {b : Sf} {ws : List Nat} (hp : PassesOwn (model X.prog X.w) X.A X.env X.xe) (hc : X.calm = true) (hi : IG X m false tg iter it) (hg : GG X ws tg g) (hb : SB X kr body b)
    (hs : ∀ x, foldedSetIterable iter X.env x = pure x := by intro _; rfl) : SG X kr (.For tg iter body [] pos) (sFor it g b) := by
  obtain ⟨wi, hi1, hi2⟩ := hi.ex
  obtain ⟨tg', hg1, hg2⟩ := hg.ex
  obtain ⟨tb, hb1, hb2⟩ := hb.ex
  refine ⟨_, ps_for hp hc hi1 hg1 hb1 hs, fun F σ H ρ o E R hf k => ?_⟩
  obtain ⟨⟨ds, ρ1⟩, e1, e2⟩ := Option.bind_eq_some_iff.mp hf
  refine hi2 F σ H ρ ds ρ1 _ R e1 fun J H1 p ok => ?_
  refine ⟨fun i n σ2 H2 => n = ds.length - i ∧ i ≤ ds.length ∧ ∃ ρ2, Rl X.K F σ2 H2 ρ2 ∧ Evo F σ H1 ρ1 σ2 H2 ρ2 ∧ forS g b (ds.drop i) ρ2 = some o, ⟨_, rfl, Nat.zero_le _, ρ1, p.rl, .refl, e2⟩, ?_⟩
  rintro i n σ2 H2 ⟨rfl, hle, ρ2, R2, ev2, hf2⟩
  have nb : (false = true → Same H1 H2) := fun z => by cases z
  by_cases hlt : i < ds.length
  · refine .inr ⟨ok.go i H2 _ ev2.kept nb hlt, ?_⟩
    rw [List.drop_eq_getElem_cons hlt] at hf2
    obtain ⟨ρ3, e3, e4⟩ := Option.bind_eq_some_iff.mp hf2
    obtain ⟨o1, e5, e6⟩ := Option.bind_eq_some_iff.mp e4
    refine ⟨fun σ' H' => ∃ ρ', Rl X.K F σ' H' ρ' ∧ Evo F σ H1 ρ1 σ' H' ρ' ∧ forS g b (ds.drop (i + 1)) ρ' = some o, fun σ' H' ⟨ρ', q1, q2, q3⟩ => ⟨ds.length - (i + 1), by omega, rfl, hlt, ρ', q1, q2, q3⟩, fun x H3 y => ?_⟩
    obtain ⟨s3, d, ed, dn⟩ := ok.yld i H2 _ x H3 ev2.kept nb R2.domL hlt y
    rw [List.getElem?_eq_getElem hlt] at ed
    cases ed
    have R3 := R2.grow s3
    have ev3 : Evo F σ H1 ρ1 σ2 H3 ρ2 := ev2.trans (R2.evo s3)
    refine hg2 F σ2 H3 ρ2 ρ3 x _ _ R3 dn e3 fun σ4 R4 ev4 _ => ?_
    refine hb2 F σ4 H3 ρ3 o1 _ R4 e5 ?_
    have ev5 : Evo F σ H1 ρ1 σ4 H3 ρ3 := ev3.trans ev4
    cases o1 with
    | nx ρ5 => exact fun σ' H' R' e => ⟨ρ5, R', ev5.trans e, e6⟩
    | ct ρ5 => exact fun σ' H' R' e => ⟨ρ5, R', ev5.trans e, e6⟩
    | bk ρ5 =>
      cases e6
      exact fun σ' H' R' e => k σ' H' R' ((p.ev.trans ev5).trans e)
    | rt d ρ5 =>
      cases e6
      exact fun v σ' H' R' e r => k v σ' H' R' ((p.ev.trans ev5).trans e) r
  · have ei : i = ds.length := by omega
    subst ei
    rw [List.drop_length] at hf2
    cases hf2
    exact .inl ⟨ok.stop _ H2 _ ev2.kept nb (Nat.le_refl _), k σ2 H2 R2 (p.ev.trans ev2)⟩
/-! ## while -/
def whileS (c : Tf) (b : Sf) : Nat → Sf
  | 0 => fun _ => none
  | n + 1 => fun ρ => (c ρ).bind fun t => if t.1 = true then (b t.2).bind fun o => match o with
    | .nx ρ2 => whileS c b n ρ2
    | .ct ρ2 => whileS c b n ρ2
    | .bk ρ2 => some (.nx ρ2)
    | .rt d ρ2 => some (.rt d ρ2)
    else some (.nx t.2)
def whileX (c : Tf) (b : Sf) (ρ : Rho) : Option Out := do
  let t ← c ρ
  if t.1 = true then do
    let o ← b t.2
    match o with
    | .nx ρ2 => whileX c b ρ2
    | .ct ρ2 => whileX c b ρ2
    | .bk ρ2 => some (.nx ρ2)
    | .rt d ρ2 => some (.rt d ρ2)
  else some (.nx t.2)
partial_fixpoint
theorem whileX_ends {c : Tf} {b : Sf} {ρ : Rho} {o : Out} (h : whileX c b ρ = some o) : ∃ n, whileS c b n ρ = some o := by
  refine whileX.partial_correctness c b (fun ρ o => ∃ n, whileS c b n ρ = some o) ?_ ρ o h
  intro f ih ρ o h
  obtain ⟨⟨t, ρ1⟩, e1, e2⟩ := Option.bind_eq_some_iff.mp h
  cases t with
  | false =>
    refine ⟨1, ?_⟩
    show (c ρ).bind _ = some o
    rw [e1]
    exact e2
  | true =>
    have e2' : ((b ρ1).bind fun o => match o with
      | .nx ρ2 => f ρ2
      | .ct ρ2 => f ρ2
      | .bk ρ2 => some (.nx ρ2)
      | .rt d ρ2 => some (.rt d ρ2)) = some o := e2
    obtain ⟨o1, e3, e4⟩ := Option.bind_eq_some_iff.mp e2'
    cases o1 with
    | nx ρ2 =>
      obtain ⟨n, hn⟩ := ih ρ2 o e4
      refine ⟨n + 1, ?_⟩
      show (c ρ).bind _ = some o
      rw [e1]
      show (b ρ1).bind _ = some o
      rw [e3]
      exact hn
    | ct ρ2 =>
      obtain ⟨n, hn⟩ := ih ρ2 o e4
      refine ⟨n + 1, ?_⟩
      show (c ρ).bind _ = some o
      rw [e1]
      show (b ρ1).bind _ = some o
      rw [e3]
      exact hn
    | bk ρ2 =>
      refine ⟨1, ?_⟩
      show (c ρ).bind _ = some o
      rw [e1]
      show (b ρ1).bind _ = some o
      rw [e3]
      exact e4
    | rt d ρ2 =>
      refine ⟨1, ?_⟩
      show (c ρ).bind _ = some o
      rw [e1]
      show (b ρ1).bind _ = some o
      rw [e3]
      exact e4
theorem sg_while {c : Expr} {body : List Stmt} {t : Tf} {b : Sf} (hp : PassesOwn (model X.prog X.w) X.A X.env X.xe) (hc : TG X m c t) (hb : SB X kr body b) : SG X kr (.While c body [] pos) (whileX t b) := by
  obtain ⟨tc, hc1, hc2⟩ := hc.ex
  obtain ⟨tb, hb1, hb2⟩ := hb.ex
  refine ⟨_, ps_while hp hc1 hb1, fun F σ H ρ o E R hf k => ?_⟩
  obtain ⟨n, hn⟩ := whileX_ends hf
  refine ⟨fun n σ2 H2 => ∃ ρ2, Rl X.K F σ2 H2 ρ2 ∧ Evo F σ H ρ σ2 H2 ρ2 ∧ whileS t b n ρ2 = some o, ⟨n, ρ, R, .refl, hn⟩, ?_⟩
  rintro n σ2 H2 ⟨ρ2, R2, ev2, hf2⟩
  cases n with
  | zero => cases hf2
  | succ n =>
    obtain ⟨⟨x, ρ3⟩, e1, e2⟩ := Option.bind_eq_some_iff.mp hf2
    refine hc2 F σ2 H2 ρ2 x ρ3 _ R2 e1 fun H3 p3 => ?_
    cases x with
    | false =>
      rw [if_neg Bool.false_ne_true] at e2 ⊢
      cases e2
      exact k σ2 H3 p3.rl (ev2.trans p3.ev)
    | true =>
      rw [if_pos rfl] at e2 ⊢
      obtain ⟨o1, e3, e4⟩ := Option.bind_eq_some_iff.mp e2
      refine ⟨fun σ' H' => ∃ ρ', Rl X.K F σ' H' ρ' ∧ Evo F σ H ρ σ' H' ρ' ∧ whileS t b n ρ' = some o, fun σ' H' ⟨ρ', q1, q2, q3⟩ => ⟨n, Nat.lt_succ_self n, ρ', q1, q2, q3⟩, ?_⟩
      refine hb2 F σ2 H3 ρ3 o1 _ p3.rl e3 ?_
      have ev5 : Evo F σ H ρ σ2 H3 ρ3 := ev2.trans p3.ev
      cases o1 with
      | nx ρ5 => exact fun σ' H' R' e => ⟨ρ5, R', ev5.trans e, e4⟩
      | ct ρ5 => exact fun σ' H' R' e => ⟨ρ5, R', ev5.trans e, e4⟩
      | bk ρ5 => cases e4; exact fun σ' H' R' e => k σ' H' R' (ev5.trans e)
      | rt d ρ5 => cases e4; exact fun v σ' H' R' e r => k v σ' H' R' (ev5.trans e) r
end
end DL
namespace DL
open L2 PyProof.Rows PySem PySem.Spec
/-! ## the readings as the pure meanings themselves -/
def canE (K : Fg) (m : Bool) (kd : Kd) (f : Ef) : TE := fun σ H Q => ∃ F ρ d ρ', Rl K F σ H ρ ∧ f ρ = some (d, ρ') ∧ ∀ v H', Po K F m σ H ρ H' ρ' → Er K F σ ρ' kd H H' v d → Q v H'
def canT (K : Fg) (m : Bool) (f : Tf) : L2.TT := fun σ H Q => ∃ F ρ d ρ', Rl K F σ H ρ ∧ f ρ = some (d, ρ') ∧ ∀ H', Po K F m σ H ρ H' ρ' → Q d H'
def canG (K : Fg) (ws : List Nat) (f : Gf) : L2.TG := fun v σ H Q => ∃ F ρ d ρ', Rl K F σ H ρ ∧ Dn K (hide H (Ow F σ ρ)) v d ∧ f d ρ = some ρ' ∧
  ∀ σ', Rl K F σ' H ρ' → Evo F σ H ρ σ' H ρ' → (∀ j, j ∉ ws → σ'[j]? = σ[j]?) → Q σ' H
theorem EG.can {X : Cx} {m : Bool} {kd : Kd} {e : Expr} {f : Ef} (h : EG X m kd e f) : PE X e (canE X.K m kd f) := by
  obtain ⟨t, h1, h2⟩ := h.ex
  exact ⟨fun pins s σ H Q I ⟨F, ρ, d, ρ', R, hf, k⟩ => h1.run pins s σ H Q I (h2 F σ H ρ d ρ' Q R hf k)⟩
theorem GG.can {X : Cx} {ws : List Nat} {e : Expr} {f : Gf} (h : GG X ws e f) : PG X e (canG X.K ws f) := by
  obtain ⟨t, h1, h2⟩ := h.ex
  exact ⟨fun pins s σ H v u Q I r ⟨F, ρ, d, ρ', R, hd, hf, k⟩ => h1.run pins s σ H v u Q I r (h2 F σ H ρ ρ' v d Q R hd hf k)⟩
/-- the tests of a comprehension -/
structure TsG (X : Cx) (m : Bool) (ifs : List Expr) (f : Tf) : Prop where
  ex : ∃ t : L2.TT, PTs X ifs t ∧ ∀ (F : Fx) (σ : L2.St) (H : Hp) (ρ : Rho) (b : Bool) (ρ' : Rho) (Q : Bool → Hp → Prop), Rl X.K F σ H ρ → f ρ = some (b, ρ') →
    (∀ H', Po X.K F m σ H ρ H' ρ' → Q b H') → t σ H Q
theorem TsG.can {X : Cx} {m : Bool} {ifs : List Expr} {f : Tf} (h : TsG X m ifs f) : PTs X ifs (canT X.K m f) := by
  obtain ⟨t, h1, h2⟩ := h.ex
  exact ⟨fun pins s σ H Q I ⟨F, ρ, d, ρ', R, hf, k⟩ => h1.run pins s σ H Q I (h2 F σ H ρ d ρ' Q R hf k)⟩
def tsN : Rho → Option Bool := fun _ => some true
theorem ts_nil {X : Cx} : TsG X true [] (liftT tsN) := ⟨_, pts_nil, fun F σ H ρ b ρ' Q R hf k => by
  obtain ⟨h, rfl⟩ := liftT_some.mp hf
  cases h
  exact k H (.refl R)⟩
theorem ts_one {X : Cx} {m : Bool} {c : Expr} {f : Tf} (h : TG X m c f) : TsG X m [c] f := by
  obtain ⟨t, h1, h2⟩ := h.ex
  exact ⟨t, pts_one h1, h2⟩
/-! ## the block's own slots -/
def unw (ρ : Rho) : List Nat → Rho
  | [] => ρ
  | v :: vs => (unw ρ vs).set v .un
def rst (ρ0 ρ : Rho) : List Nat → Rho
  | [] => ρ
  | v :: vs => (rst ρ0 ρ vs).set v (ρ0.getD v .un)
def free (vs : List Nat) (ρ : Rho) : Bool := vs.all fun v => match ρ[v]? with
  | some s => !s.own
  | none => false
theorem free_at {vs : List Nat} {ρ : Rho} (h : free vs ρ = true) {v : Nat} (hv : v ∈ vs) : ∃ s, ρ[v]? = some s ∧ s.own = false := by
  have := List.all_eq_true.mp h v hv
  split at this
  · rename_i s e
    exact ⟨s, e, by simpa using this⟩
  · cases this
theorem unw_length (ρ : Rho) : ∀ vs, (unw ρ vs).length = ρ.length
  | [] => rfl
  | v :: vs => by simp [unw, unw_length ρ vs]
theorem unw_out {ρ : Rho} {j : Nat} : ∀ {vs : List Nat}, j ∉ vs → (unw ρ vs)[j]? = ρ[j]?
  | [], _ => rfl
  | v :: vs, h => by
    unfold unw
    rw [List.getElem?_set_ne (fun z => h (by simp [z]))]
    exact unw_out fun z => h (List.mem_cons_of_mem _ z)
theorem unw_in {ρ : Rho} {j : Nat} (hj : j < ρ.length) : ∀ {vs : List Nat}, j ∈ vs → (unw ρ vs)[j]? = some .un
  | v :: vs, h => by
    unfold unw
    by_cases z : v = j
    · subst z
      exact List.getElem?_set_self (by rw [unw_length]; exact hj)
    · rw [List.getElem?_set_ne z]
      exact unw_in hj ((List.mem_cons.mp h).elim (fun e => absurd e.symm z) id)
theorem rst_length (ρ0 ρ : Rho) : ∀ vs, (rst ρ0 ρ vs).length = ρ.length
  | [] => rfl
  | v :: vs => by simp [rst, rst_length ρ0 ρ vs]
theorem rst_out {ρ0 ρ : Rho} {j : Nat} : ∀ {vs : List Nat}, j ∉ vs → (rst ρ0 ρ vs)[j]? = ρ[j]?
  | [], _ => rfl
  | v :: vs, h => by
    unfold rst
    rw [List.getElem?_set_ne (fun z => h (by simp [z]))]
    exact rst_out fun z => h (List.mem_cons_of_mem _ z)
theorem rst_in {ρ0 ρ : Rho} {j : Nat} (hj : j < ρ.length) : ∀ {vs : List Nat}, j ∈ vs → (rst ρ0 ρ vs)[j]? = some (ρ0.getD j .un)
  | v :: vs, h => by
    unfold rst
    by_cases z : v = j
    · subst z
      exact List.getElem?_set_self (by rw [rst_length]; exact hj)
    · rw [List.getElem?_set_ne z]
      exact rst_in hj ((List.mem_cons.mp h).elim (fun e => absurd e.symm z) id)
theorem rst_unw (ρ : Rho) (vs : List Nat) : rst ρ (unw ρ vs) vs = ρ := by
  refine List.ext_getElem? fun j => ?_
  by_cases hj : j ∈ vs
  · by_cases hl : j < ρ.length
    · rw [rst_in (by rw [unw_length]; exact hl) hj, List.getElem?_eq_getElem hl]
      simp [List.getD, List.getElem?_eq_getElem hl]
    · rw [List.getElem?_eq_none (by rw [rst_length, unw_length]; omega), List.getElem?_eq_none (by omega)]
  · rw [rst_out hj, unw_out hj]
theorem unw_eq {ρ ρ' : Rho} {vs : List Nat} (hl : ρ'.length = ρ.length) (h : ∀ j, j ∉ vs → ρ'[j]? = ρ[j]?) : unw ρ' vs = unw ρ vs := by
  refine List.ext_getElem? fun j => ?_
  by_cases hj : j ∈ vs
  · by_cases hl' : j < ρ.length
    · rw [unw_in hl' hj, unw_in (by omega) hj]
    · rw [List.getElem?_eq_none (by rw [unw_length]; omega), List.getElem?_eq_none (by rw [unw_length]; omega)]
  · rw [unw_out hj, unw_out hj, h j hj]
theorem wipe_in {σ : L2.St} {j : Nat} (hj : j < σ.length) : ∀ {vs : List Nat}, j ∈ vs → (wipe σ vs)[j]? = some none
  | v :: vs, h => by
    unfold wipe
    by_cases z : v = j
    · subst z
      exact List.getElem?_set_self (by rw [wipe_length]; exact hj)
    · rw [List.getElem?_set_ne z]
      exact wipe_in hj ((List.mem_cons.mp h).elim (fun e => absurd e.symm z) id)
theorem wipe_eq {σ σ' : L2.St} {vs : List Nat} (hl : σ'.length = σ.length) (h : ∀ j, j ∉ vs → σ'[j]? = σ[j]?) : wipe σ' vs = wipe σ vs := by
  refine List.ext_getElem? fun j => ?_
  by_cases hj : j ∈ vs
  · by_cases hl' : j < σ.length
    · rw [wipe_in hl' hj, wipe_in (by omega) hj]
    · rw [List.getElem?_eq_none (by rw [wipe_length]; omega), List.getElem?_eq_none (by rw [wipe_length]; omega)]
  · rw [wipe_out hj, wipe_out hj, h j hj]
section
variable {K : Fg} {F : Fx} {σ : L2.St} {H H' : Hp} {ρ ρ' : Rho} {a : Addr}
theorem Rl.wiped (R : Rl K F σ H ρ) : ∀ {vs : List Nat}, (∀ v ∈ vs, ∃ s, ρ[v]? = some s) → Rl K F (wipe σ vs) H (unw ρ vs) ∧ Evo F σ H ρ (wipe σ vs) H (unw ρ vs)
  | [], _ => ⟨R, .refl⟩
  | v :: vs, h => by
    obtain ⟨R1, e1⟩ := Rl.wiped R (vs := vs) fun u hu => h u (List.mem_cons_of_mem _ hu)
    obtain ⟨s, hs⟩ := h v List.mem_cons_self
    have hl : v < (unw ρ vs).length := by rw [unw_length]; exact lt_of_some hs
    obtain ⟨R2, e2⟩ := R1.setAny (i := v) (t := .un) (x := none) (List.getElem?_eq_getElem hl) rfl trivial
    exact ⟨R2, e1.trans e2⟩
theorem Rl.drop (R : Rl K (F.add a) σ H ρ) : Rl K F σ H ρ where
  len := R.len
  slot := fun i s h => by
    obtain ⟨x, h1, h2⟩ := R.slot i s h
    refine ⟨x, h1, ?_⟩
    have h3 : SlOk K (hide H (Ow (F.add a) σ ρ)) H F i x s := by cases s <;> exact h2
    exact h3.mono (hide_less fun b hb => ow_add.mpr (.inl hb)) fun _ _ _ q => q
  inj := R.inj
  oc := fun b hb => R.oc b (.inl hb)
  dom := R.dom
/-- what a caller owns may turn -/
theorem Rl.outer {o : HO} (R : Rl K F σ H ρ) (ha : F.Oc a) (ho : ∀ xs, o ≠ .tup xs := by intro _ z; cases z) : Rl K F σ (upd H a o) ρ ∧ Same (hide H (Ow F σ ρ)) (hide (upd H a o) (Ow F σ ρ)) := by
  have G : Same (hide H (Ow F σ ρ)) (hide (upd H a o) (Ow F σ ρ)) := hide_both fun b u nb hb => ⟨nb, by rw [upd_ne (fun z => nb (by rw [z]; exact .inl ha))]; exact hb⟩
  have dom : ∀ b, H b ≠ none → upd H a o b ≠ none := fun b hb => by
    by_cases z : b = a
    · subst z; rw [upd_same]; simp
    · rw [upd_ne z]; exact hb
  refine ⟨⟨R.len, fun i s h => ?_, R.inj, fun b hb => ⟨(if z : b = a then by subst z; exact ⟨o, upd_same, ho⟩ else (R.oc b hb).1.upd z), (R.oc b hb).2⟩, fun b hb => dom b (R.dom b hb)⟩, G⟩
  obtain ⟨x, h1, h2⟩ := R.slot i s h
  refine ⟨x, h1, ?_⟩
  have nx : ∀ b, Own σ ρ i b → b ≠ a := fun b hb z => (R.oc a ha).2 i (by rw [← z]; exact hb)
  cases s with
  | un => trivial
  | p e => obtain ⟨v, e1, e2⟩ := h2; exact ⟨v, e1, e2.mono G⟩
  | o e => obtain ⟨b, e1, e2, e3⟩ := h2; subst e1; exact ⟨b, rfl, e2.mono G (fun q z => by rw [upd_ne (nx b ⟨_, h, rfl, h1⟩)]; exact z), e3⟩
  | m e => obtain ⟨b, e1, e2, e3⟩ := h2; subst e1; exact ⟨b, rfl, e2.mono G (fun q z => by rw [upd_ne (nx b ⟨_, h, rfl, h1⟩)]; exact z), e3⟩
/-- behind the block: the own slots as they were -/
theorem Rl.restore {F' : Fx} {H1 : Hp} {ρ1 ρe : Rho} {vs : List Nat} (R1 : Rl K F σ H1 ρ1) (hv : free vs ρ1 = true) (Rw : Rl K F' (wipe σ vs) H' ρe) (g : Same (hide H1 (Ow F σ ρ1)) (hide H' (Ow F' (wipe σ vs) ρe))) :
    Rl K F' σ H' (rst ρ1 ρe vs) ∧ ∀ b, Ow F' σ (rst ρ1 ρe vs) b ↔ Ow F' (wipe σ vs) ρe b := by
  have hl : σ.length = ρe.length := by rw [← Rw.len, wipe_length]
  have hl1 : ρ1.length = ρe.length := by rw [← R1.len]; exact hl
  have ow : ∀ i b, Own σ (rst ρ1 ρe vs) i b ↔ Own (wipe σ vs) ρe i b := fun i b => by
    by_cases hi : i ∈ vs
    · constructor
      · rintro ⟨s, h1, h2, h3⟩
        have hlt : i < ρe.length := by rw [← hl]; exact lt_of_some h3
        rw [rst_in hlt hi] at h1
        obtain ⟨t, e1, e2⟩ := free_at hv hi
        have : ρ1.getD i .un = t := by simp [List.getD, e1]
        rw [this] at h1
        cases h1
        rw [e2] at h2
        cases h2
      · rintro ⟨s, h1, h2, h3⟩
        have hlt : i < σ.length := by rw [hl]; exact lt_of_some h1
        rw [wipe_in hlt hi] at h3
        cases h3
    · unfold Own
      rw [rst_out hi, wipe_out hi]
  have owE : ∀ b, Ow F' σ (rst ρ1 ρe vs) b ↔ Ow F' (wipe σ vs) ρe b := fun b => ⟨fun h => h.imp id fun ⟨i, q⟩ => ⟨i, (ow i b).mp q⟩, fun h => h.imp id fun ⟨i, q⟩ => ⟨i, (ow i b).mpr q⟩⟩
  have G : Same (hide H' (Ow F' (wipe σ vs) ρe)) (hide H' (Ow F' σ (rst ρ1 ρe vs))) := hide_less fun b hb => (owE b).mp hb
  refine ⟨⟨by rw [rst_length]; exact hl, fun i s h => ?_, fun i j b h1 h2 => Rw.inj i j b ((ow i b).mp h1) ((ow j b).mp h2), fun b hb => ⟨(Rw.oc b hb).1, fun i q => (Rw.oc b hb).2 i ((ow i b).mp q)⟩, Rw.dom⟩, owE⟩
  by_cases hi : i ∈ vs
  · have hlt : i < ρe.length := by have := lt_of_some h; rwa [rst_length] at this
    rw [rst_in hlt hi] at h
    cases h
    obtain ⟨t, e1, e2⟩ := free_at hv hi
    have et : ρ1.getD i .un = t := by simp [List.getD, e1]
    rw [et]
    obtain ⟨x, h1, h2⟩ := R1.slot i t e1
    refine ⟨x, h1, ?_⟩
    cases t with
    | un => trivial
    | p d => obtain ⟨v, q1, q2⟩ := h2; exact ⟨v, q1, (q2.mono g).mono G⟩
    | o d => cases e2
    | m d => cases e2
  · rw [rst_out hi] at h
    obtain ⟨x, h1, h2⟩ := Rw.slot i s h
    rw [wipe_out hi] at h1
    exact ⟨x, h1, h2.mono G fun _ _ _ q => q⟩
end
end DL
namespace DL
open L2 PyProof.Rows PySem PySem.Spec
/-! ## list comprehensions -/
def unwO (vs : List Nat) (ρ : Rho) : Option Rho := if free vs ρ = true then some (unw ρ vs) else none
def compS (g : Gf) (p : Tf) (e : Ef) (vs : List Nat) : List D → Rho → Option (List D × Rho)
  | [] => fun ρ => some ([], ρ)
  | d :: ds => fun ρ => (g d ρ).bind fun ρ1 => (p ρ1).bind fun c => if c.1 = true then
      (e c.2).bind fun a => (unwO vs a.2).bind fun ρ2 => (compS g p e vs ds ρ2).map fun r => (a.1 :: r.1, r.2)
    else (unwO vs c.2).bind fun ρ2 => compS g p e vs ds ρ2
def compE (it : Af) (g : Gf) (p : Tf) (e : Ef) (vs : List Nat) : Ef := fun ρ => (it ρ).bind fun a => (unwO vs a.2).bind fun ρw => (compS g p e vs a.1 ρw).bind fun r =>
  if r.1.length ≤ lim then some (.list r.1, rst a.2 r.2 vs) else none
def compPs (g : Gf) (p : Rho → Option Bool) (e : Rho → Option D) (ρ : Rho) : List D → Option (List D)
  | [] => some []
  | d :: ds => (g d ρ).bind fun ρ1 => (p ρ1).bind fun c => if c = true then (e ρ1).bind fun a => (compPs g p e ρ ds).map fun r => a :: r else compPs g p e ρ ds
def compPE (it : Rho → Option (List D)) (g : Gf) (p : Rho → Option Bool) (e : Rho → Option D) (vs : List Nat) : Rho → Option D := fun ρ => (it ρ).bind fun ds => (unwO vs ρ).bind fun ρw => (compPs g p e ρw ds).bind fun r =>
  if r.length ≤ lim then some (.list r) else none
theorem unwO_some {vs : List Nat} {ρ ρ' : Rho} (h : unwO vs ρ = some ρ') : free vs ρ = true ∧ ρ' = unw ρ vs := by
  unfold unwO at h
  split at h
  · rename_i e
    cases h
    exact ⟨e, rfl⟩
  · cases h
/-- what a target of slots vs does -/
def OutOk (vs : List Nat) (g : Gf) : Prop := ∀ d ρ ρ', g d ρ = some ρ' → ρ'.length = ρ.length ∧ (∀ j, j ∉ vs → ρ'[j]? = ρ[j]?) ∧ ∀ j, j ∈ vs → ∃ e, ρ'[j]? = some (.p e)
theorem unwO_of {vs : List Nat} {g : Gf} (h : OutOk vs g) {d : D} {ρ ρ' : Rho} (e : g d ρ = some ρ') : unwO vs ρ' = some (unw ρ vs) := by
  obtain ⟨l, h1, h2⟩ := h d ρ ρ' e
  unfold unwO
  rw [if_pos, unw_eq l h1]
  refine List.all_eq_true.mpr fun v hv => ?_
  obtain ⟨x, hx⟩ := h2 v hv
  rw [hx]
  rfl
theorem compS_lift {vs : List Nat} {g : Gf} (h : OutOk vs g) (p : Rho → Option Bool) (e : Rho → Option D) {ρ : Rho} (hρ : unw ρ vs = ρ) : ∀ ds, compS g (liftT p) (lift e) vs ds ρ = (compPs g p e ρ ds).map fun r => (r, ρ)
  | [] => rfl
  | d :: ds => by
    have ih := compS_lift h p e hρ ds
    show (g d ρ).bind _ = ((g d ρ).bind _).map _
    cases h1 : g d ρ with
    | none => rfl
    | some ρ1 =>
      have u := unwO_of h h1
      rw [hρ] at u
      show (liftT p ρ1).bind _ = ((p ρ1).bind _).map _
      unfold liftT
      cases h2 : p ρ1 with
      | none => rfl
      | some c =>
        cases c with
        | false =>
          show (unwO vs ρ1).bind _ = (compPs g p e ρ ds).map _
          rw [u]
          exact ih
        | true =>
          show (lift e ρ1).bind _ = ((e ρ1).bind _).map _
          unfold lift
          cases h3 : e ρ1 with
          | none => rfl
          | some a =>
            show (unwO vs ρ1).bind _ = ((compPs g p e ρ ds).map _).map _
            rw [u]
            show (compS g (liftT p) (lift e) vs ds ρ).map _ = _
            rw [ih]
            cases compPs g p e ρ ds <;> rfl
theorem unw_unw (ρ : Rho) (vs : List Nat) : unw (unw ρ vs) vs = unw ρ vs := unw_eq (unw_length ρ vs) fun j hj => unw_out hj
theorem compE_lift {vs : List Nat} {g : Gf} (h : OutOk vs g) (it : Rho → Option (List D)) (p : Rho → Option Bool) (e : Rho → Option D) : compE (liftA it) g (liftT p) (lift e) vs = lift (compPE it g p e vs) := by
  funext ρ
  show ((it ρ).map fun d => (d, ρ)).bind _ = ((it ρ).bind _).map _
  cases it ρ with
  | none => rfl
  | some ds =>
    show (unwO vs ρ).bind _ = ((unwO vs ρ).bind _).map _
    cases hu : unwO vs ρ with
    | none => rfl
    | some ρw =>
      obtain ⟨_, rfl⟩ := unwO_some hu
      show (compS g (liftT p) (lift e) vs ds (unw ρ vs)).bind _ = ((compPs g p e (unw ρ vs) ds).bind _).map _
      rw [compS_lift h p e (unw_unw ρ vs) ds]
      cases compPs g p e (unw ρ vs) ds with
      | none => rfl
      | some r =>
        show (if r.length ≤ lim then some (PyData.list r, rst ρ (unw ρ vs) vs) else none) = Option.map _ (if r.length ≤ lim then some (PyData.list r) else none)
        rw [rst_unw]
        split <;> rfl
theorem wipe_wipe (σ : L2.St) (vs : List Nat) : wipe (wipe σ vs) vs = wipe σ vs := wipe_eq (wipe_length σ vs) fun j hj => wipe_out hj
theorem oo_name (i : Nat) : OutOk [i] (setP i) := fun d ρ ρ' hf => by
  obtain ⟨s, h1, rfl, _⟩ := setP_some hf
  refine ⟨by simp, fun j hj => List.getElem?_set_ne (fun z => hj (by simp [z])), fun j hj => ⟨d, ?_⟩⟩
  obtain rfl : j = i := by simpa using hj
  exact List.getElem?_set_self (lt_of_some h1)
def OutOks (vs : List Nat) (g : List D → Rho → Option Rho) : Prop := ∀ d ρ ρ', g d ρ = some ρ' → ρ'.length = ρ.length ∧ (∀ j, j ∉ vs → ρ'[j]? = ρ[j]?) ∧ ∀ j, j ∈ vs → ∃ e, ρ'[j]? = some (.p e)
theorem oos_nil : OutOks [] gNil := fun d ρ ρ' hf => by
  cases d with
  | nil => cases hf; exact ⟨rfl, fun _ _ => rfl, fun _ z => absurd z (by simp)⟩
  | cons _ _ => cases hf
theorem oos_cons {w1 w2 : List Nat} {f : Gf} {g : List D → Rho → Option Rho} (h1 : OutOk w1 f) (h2 : OutOks w2 g) : OutOks (w1 ++ w2) (gCons f g) := fun ds ρ ρ' hf => by
  cases ds with
  | nil => cases hf
  | cons d ds =>
    obtain ⟨ρ1, e1, e2⟩ := Option.bind_eq_some_iff.mp hf
    obtain ⟨l1, o1⟩ := h1 _ _ _ e1
    obtain ⟨l2, o2⟩ := h2 _ _ _ e2
    refine ⟨l2.trans l1, fun j hj => ?_, fun j hj => ?_⟩
    · have j1 : j ∉ w1 := fun z => hj (List.mem_append_left _ z)
      have j2 : j ∉ w2 := fun z => hj (List.mem_append_right _ z)
      exact (o2.1 j j2).trans (o1.1 j j1)
    · by_cases j2 : j ∈ w2
      · exact o2.2 j j2
      · obtain ⟨e, he⟩ := o1.2 j ((List.mem_append.mp hj).elim id fun z => absurd z j2)
        exact ⟨e, (o2.1 j j2).trans he⟩
theorem oo_tup {ws : List Nat} {n : Nat} {g : List D → Rho → Option Rho} (h : OutOks ws g) : OutOk ws (gTup n g) := fun d ρ ρ' hf => by
  cases d with
  | tuple ds =>
    have hf' : (if ds.length = n then g ds ρ else none) = some ρ' := hf
    by_cases e : ds.length = n
    · rw [if_pos e] at hf'
      exact h _ _ _ hf'
    · rw [if_neg e] at hf'
      cases hf'
  | _ => cases hf
theorem GG.ok {X : Cx} {ws : List Nat} {e : Expr} {f : Gf} (h : GG X ws e f) : OutOk ws f := h.out
section
variable {X : Cx} {m1 m2 m3 bw : Bool}
/-- what holds ahead of turn i: Dd the new list -/
structure LcW (K : Fg) (F : Fx) (Dd : Addr) (vs : List Nat) (σ : L2.St) (H1 : Hp) (ρ1 : Rho) (pu : Bool) (g : Gf) (p : Tf) (e : Ef) (ds total : List D) (ρe : Rho) (i n : Nat) (H2 : Hp) : Prop where
  n : n = ds.length - i
  le : i ≤ ds.length
  st : ∃ ρi acc out rest, Rl K (F.add Dd) (wipe σ vs) H2 ρi ∧ Same (hide H1 (Ow F σ ρ1)) (hide H2 (Ow (F.add Dd) (wipe σ vs) ρi)) ∧ H2 Dd = some (.lst acc) ∧ DnL K (hide H2 (Ow (F.add Dd) (wipe σ vs) ρi)) acc out ∧
    compS g p e vs (ds.drop i) ρi = some (rest, ρe) ∧ out ++ rest = total ∧ (pu = true → ρi = unw ρ1 vs ∧ Same H1 H2)
  oc : ∀ a, F.Oc a → H2 a = H1 a
  dom : ∀ a, H1 a ≠ none → H2 a ≠ none
theorem eg_lc {elt tg iter : Expr} {ifs : List Expr} {scope : Scope} {own : List (Str × Nat)} {pos : Pos} {it : Af} {g : Gf} {p : Tf} {e : Ef} (hc : X.calm = true) (hN : X.N.Nodup) (hi : IG X m1 bw tg iter it) (ok : BlkOk X.N X.env.scope scope own)
    (hg : ∀ (s : Shared) (H : Hp) (C : Addr) (cl : List (Str × Addr)) (fp : List Addr), GG (X.blk s H scope (compEnvC scope cl C X.env) fp) (own.map (·.2)) tg g)
    (ht : ∀ (s : Shared) (H : Hp) (C : Addr) (cl : List (Str × Addr)) (fp : List Addr), TsG (X.blk s H scope (compEnvC scope cl C X.env) fp) m2 ifs p)
    (he : ∀ (s : Shared) (H : Hp) (C : Addr) (cl : List (Str × Addr)) (fp : List Addr), EG (X.blk s H scope (compEnvC scope cl C X.env) fp) m3 .k elt e)
    (hb : bw = true → (m2 && m3) = true) (gout : OutOk (own.map (·.2)) g) (hs : ∀ x, foldedSetIterable iter X.env x = pure x := by intro _; rfl) :
    ∃ t, PE X (.ListComp elt [⟨tg, iter, ifs, 0⟩] scope pos) t ∧ (∀ {i : Nat} {y : Str} {py spos : Pos}, X.N[i]? = some y → X.env.scope.names.lookup y = some .local → swapsWith (.ListComp elt [⟨tg, iter, ifs, 0⟩] scope pos) (some (.Name y py)) spos.line X.env = pure true →
        PS X (.Assign [.Name y py] (.ListComp elt [⟨tg, iter, ifs, 0⟩] scope pos) spos) (tAsg t (gName i))) ∧
      ∀ (F : Fx) (σ : L2.St) (H : Hp) (ρ : Rho) (d : D) (ρ' : Rho) (Q : VK), Rl X.K F σ H ρ → compE it g p e (own.map (·.2)) ρ = some (d, ρ') →
        (∀ v H', Po X.K F (m1 && (m2 && m3)) σ H ρ H' ρ' → Er X.K F σ ρ' .f H H' v d → Q v H') → t σ H Q := by
  obtain ⟨wi, hi1, hi2⟩ := hi.ex
  refine ⟨tLc wi (canG X.K (own.map (·.2)) g) (canT X.K m2 p) (canE X.K m3 .k e) (own.map (·.2)), pe_lc hc hN hi1 ok (fun s H C cl fp => (hg s H C cl fp).can) (fun s H C cl fp => (ht s H C cl fp).can) (fun s H C cl fp => (he s H C cl fp).can) hs,
    fun hy hyl hsw => ps_setLc hc hN hy hyl hsw hi1 ok (fun s H C cl fp => (hg s H C cl fp).can) (fun s H C cl fp => (ht s H C cl fp).can) (fun s H C cl fp => (he s H C cl fp).can) hs, fun F σ H ρ d ρ' Q R hf k => ?_⟩
  generalize hvs : own.map (·.2) = vs at *
  obtain ⟨⟨ds, ρ1⟩, e1, e2⟩ := Option.bind_eq_some_iff.mp hf
  obtain ⟨ρw, e3, e4⟩ := Option.bind_eq_some_iff.mp e2
  obtain ⟨⟨total, ρe⟩, e5, e6⟩ := Option.bind_eq_some_iff.mp e4
  obtain ⟨hfree, rfl⟩ := unwO_some e3
  have e6 : (if total.length ≤ lim then some (PyData.list total, rst ρ1 ρe vs) else none) = some (d, ρ') := e6
  by_cases hlim : total.length ≤ lim
  case neg => rw [if_neg hlim] at e6; cases e6
  rw [if_pos hlim] at e6
  cases e6
  have hthere : ∀ v ∈ vs, ∃ s, ρ1[v]? = some s := fun v hv => let ⟨s, h1, _⟩ := free_at hfree hv; ⟨s, h1⟩
  refine hi2 F σ H ρ ds ρ1 _ R e1 fun J H1 p1 iok => fun Dd hD => ?_
  have noD : ¬ Ow F σ ρ1 Dd := notOwned p1.rl hD
  -- the start
  have start : LcW X.K F Dd vs σ H1 ρ1 (m2 && m3) g p e ds total ρe 0 ds.length (upd H1 Dd (.lst [])) := by
    have Ra : Rl X.K (F.add Dd) σ (upd H1 Dd (.lst [])) ρ1 := p1.rl.addNew (sameNew hD) hD ⟨_, upd_same, fun _ z => by cases z⟩
    obtain ⟨Rw, ew⟩ := Ra.wiped hthere
    refine ⟨rfl, Nat.zero_le _, ⟨unw ρ1 vs, [], [], total, Rw, ?_, upd_same, .nil, e5, rfl, fun _ => ⟨rfl, sameNew hD⟩⟩, fun a ha => ?_, fun a ha => sameDom (sameNew hD) ha⟩
    · refine Same.trans ?_ ew.kept
      exact hide_both fun b o nb hb => ⟨fun z => (ow_add.mp z).elim nb (ne_of_none hb hD), sameNew hD _ _ hb⟩
    · exact upd_ne fun z => (p1.rl.oc a ha).1.ne (by rw [z]; exact hD)
  refine ⟨fun i n H2 => LcW X.K F Dd vs σ H1 ρ1 (m2 && m3) g p e ds total ρe i n H2, ⟨_, start⟩, fun i n H2 w => ?_⟩
  obtain ⟨hn, hle, ⟨ρi, acc, out, rest, Ri, kept, hacc, hdn, hcomp, happ, hpu⟩, hoc, hdom⟩ := w
  have nb : bw = true → Same H1 H2 := fun z => (hpu (hb z)).2
  by_cases hlt : i < ds.length
  · refine .inr ⟨iok.go i H2 _ kept nb hlt, fun H' => ∃ m', LcW X.K F Dd vs σ H1 ρ1 (m2 && m3) g p e ds total ρe (i + 1) m' H', fun H' ⟨m', w'⟩ => ⟨m', by have := w'.n; omega, w'⟩, fun x H3 y => ?_⟩
    obtain ⟨s3, d, ed, dn⟩ := iok.yld i H2 _ x H3 kept nb Ri.domL hlt y
    rw [List.getElem?_eq_getElem hlt] at ed
    cases ed
    rw [List.drop_eq_getElem_cons hlt] at hcomp
    obtain ⟨ρ2, c1, c2⟩ := Option.bind_eq_some_iff.mp hcomp
    obtain ⟨⟨c, ρ3⟩, c3, c4⟩ := Option.bind_eq_some_iff.mp c2
    have R3 := Ri.grow s3
    have k3 : Same (hide H1 (Ow F σ ρ1)) (hide H3 (Ow (F.add Dd) (wipe σ vs) ρi)) := kept.trans (hide_same s3)
    refine ⟨F.add Dd, ρi, ds[i], ρ2, R3, dn, c1, fun σ2 R4 ev4 o4 => ?_⟩
    have hw : wipe σ2 vs = wipe σ vs := by
      have l2 : σ2.length = (wipe σ vs).length := by rw [R4.len, R3.len]; exact (gout _ _ _ c1).1
      have := wipe_eq l2 o4
      rw [this, wipe_wipe]
    refine ⟨hw, F.add Dd, ρ2, c, ρ3, R4, c3, fun H4 p4 => ?_⟩
    have hD4 : H4 Dd = some (.lst acc) := by rw [p4.ev.oc Dd (.inr rfl), s3 _ _ hacc]
    have k4 : Same (hide H1 (Ow F σ ρ1)) (hide H4 (Ow (F.add Dd) σ2 ρ3)) := (k3.trans ev4.kept).trans p4.ev.kept
    have oc4 : ∀ a, F.Oc a → H4 a = H1 a := fun a ha => ((p4.ev.oc a (.inl ha)).trans (sameAt s3 (by rw [hoc a ha]; exact (p1.rl.oc a ha).1.ne))).trans (hoc a ha)
    have dom4 : ∀ a, H1 a ≠ none → H4 a ≠ none := fun a ha => p4.ev.dom a (sameDom s3 (hdom a ha))
    have dn4 : DnL X.K (hide H4 (Ow (F.add Dd) σ2 ρ3)) acc out := DnL.mono (((hide_same s3).trans ev4.kept).trans p4.ev.kept) hdn
    -- the next turn's state, from a heap H5 and its slots ρ4
    have next : ∀ (H5 : Hp) (ρ4 ρ5 : Rho), Rl X.K (F.add Dd) σ2 H5 ρ4 → unwO vs ρ4 = some ρ5 → Rl X.K (F.add Dd) (wipe σ vs) H5 ρ5 ∧ Same (hide H5 (Ow (F.add Dd) σ2 ρ4)) (hide H5 (Ow (F.add Dd) (wipe σ vs) ρ5)) := fun H5 ρ4 ρ5 R5 hu => by
      obtain ⟨hf4, rfl⟩ := unwO_some hu
      obtain ⟨Rw, ew⟩ := R5.wiped (vs := vs) fun v hv => let ⟨s, h1, _⟩ := free_at hf4 hv; ⟨s, h1⟩
      rw [hw] at Rw
      have := ew.kept
      rw [hw] at this
      exact ⟨Rw, this⟩
    cases c with
    | false =>
      refine L2.iteF ?_
      rw [if_neg Bool.false_ne_true] at c4
      obtain ⟨ρ5, c5, c6⟩ := Option.bind_eq_some_iff.mp c4
      obtain ⟨Rn, kn⟩ := next H4 ρ3 ρ5 p4.rl c5
      refine ⟨_, ⟨rfl, hlt, ⟨ρ5, acc, out, rest, Rn, k4.trans kn, hD4, DnL.mono kn dn4, c6, happ, fun z => ?_⟩, oc4, dom4⟩⟩
      obtain ⟨z1, z2⟩ := Bool.and_eq_true_iff.mp z
      obtain ⟨q1, q2⟩ := p4.pu z1
      obtain ⟨q3, q4⟩ := hpu z
      subst q1
      refine ⟨?_, (q4.trans s3).trans q2⟩
      have u := unwO_of gout c1
      rw [c5] at u
      rw [Option.some.inj u, q3, unw_unw]
    | true =>
      refine L2.iteT ?_
      rw [if_pos rfl] at c4
      obtain ⟨⟨a, ρ4⟩, c5, c6⟩ := Option.bind_eq_some_iff.mp c4
      obtain ⟨ρ5, c7, c8⟩ := Option.bind_eq_some_iff.mp c6
      obtain ⟨⟨r, ρ6⟩, c9, c10⟩ := Option.map_eq_some_iff.mp c8
      cases c10
      refine ⟨F.add Dd, ρ3, a, ρ4, p4.rl, c5, fun yv H5 p5 r5 => ?_⟩
      have hD5 : H5 Dd = some (.lst acc) := by rw [p5.ev.oc Dd (.inr rfl)]; exact hD4
      obtain ⟨Rn, kn⟩ := next H5 ρ4 ρ5 p5.rl c7
      obtain ⟨Ru, ku⟩ := Rn.outer (a := Dd) (o := .lst (acc ++ [yv])) (.inr rfl)
      have dn5 : DnL X.K (hide H5 (Ow (F.add Dd) (wipe σ vs) ρ5)) (acc ++ [yv]) (out ++ [a]) := (DnL.mono (p5.ev.kept.trans kn) dn4).append (.one (Dn.mono kn r5.vr))
      have hlen : acc.length < lim := by
        have h1 := dn4.length
        have h2 := congrArg List.length happ
        rw [List.length_append, List.length_cons] at h2
        omega
      refine ⟨acc, hD5, by rw [sizeLine_eq]; exact hlen, _, ⟨rfl, hlt, ⟨ρ5, _, out ++ [a], r, Ru, ((k4.trans p5.ev.kept).trans kn).trans ku, upd_same, DnL.mono ku dn5, c9, by rw [List.append_assoc]; exact happ, fun z => ?_⟩, fun b hb => ?_, fun b hb => ?_⟩⟩
      · obtain ⟨z1, z2⟩ := Bool.and_eq_true_iff.mp z
        obtain ⟨q1, q2⟩ := p4.pu z1
        obtain ⟨q5, q6⟩ := p5.pu z2
        obtain ⟨q3, q4⟩ := hpu z
        subst q1
        subst q5
        refine ⟨?_, fun b o hb => ?_⟩
        · have u := unwO_of gout c1
          rw [c7] at u
          rw [Option.some.inj u, q3, unw_unw]
        · rw [upd_ne (ne_of_none hb hD)]
          exact q6 _ _ (q2 _ _ (s3 _ _ (q4 _ _ hb)))
      · rw [upd_ne (fun z => (p1.rl.oc b hb).1.ne (by rw [z]; exact hD)), p5.ev.oc b (.inl hb)]
        exact oc4 b hb
      · by_cases z : b = Dd
        · subst z; rw [upd_same]; simp
        · rw [upd_ne z]; exact p5.ev.dom b (dom4 b hb)
  · have ei : i = ds.length := by omega
    subst ei
    rw [List.drop_length] at hcomp
    cases hcomp
    rw [List.append_nil] at happ
    subst happ
    refine .inl ⟨iok.stop _ H2 _ kept nb (Nat.le_refl _), ?_⟩
    obtain ⟨Rr, owE⟩ := p1.rl.restore hfree Ri kept
    have Rf : Rl X.K F σ H2 (rst ρ1 ρe vs) := Rr.drop
    have owF : ∀ b, insA (Ow F σ (rst ρ1 ρe vs)) Dd b ↔ Ow (F.add Dd) σ (rst ρ1 ρe vs) b := fun b => ow_add.symm
    have noD2 : ¬ Ow F σ (rst ρ1 ρe vs) Dd := fun z => by
      rcases z with z | ⟨j, z⟩
      · exact noD (.inl z)
      · exact (Rr.oc Dd (.inr rfl)).2 j z
    have k5 : Same (hide H1 (Ow F σ ρ1)) (hide H2 (Ow F σ (rst ρ1 ρe vs))) := kept.trans (hide_less fun b hb => (owE b).mp (ow_add.mpr (.inl hb)))
    have hDn : H Dd = none := by
      cases q : H Dd with
      | none => rfl
      | some o => exact absurd hD (p1.ev.dom Dd (by rw [q]; simp))
    refine k _ H2 ⟨Rf, ⟨p1.ev.kept.trans k5, fun b hb => (hoc b hb).trans (p1.ev.oc b hb), fun b hb => hdom b (p1.ev.dom b hb)⟩, fun z => ?_⟩ ⟨⟨Dd, rfl, hDn, noD2, acc, hacc, DnL.mono (hide_less fun b hb => (owE b).mp ((owF b).mp hb)) hdn⟩, fun _ b hb => ?_⟩
    · obtain ⟨z1, z2⟩ := Bool.and_eq_true_iff.mp z
      obtain ⟨q1, q2⟩ := p1.pu z1
      obtain ⟨q3, q4⟩ := hpu z2
      rw [q3, rst_unw]
      exact ⟨q1, q2.trans q4⟩
    · cases hb
      exact Rr
end
end DL
namespace DL
open L2 PyProof.Rows PySem PySem.Spec
/-! ## comprehensions as expressions, as assignments -/
section
variable {X : Cx} {m1 m2 m3 bw : Bool} {kr : Kd}
section
variable {elt tg iter : Expr} {ifs : List Expr} {scope : Scope} {own : List (Str × Nat)} {pos : Pos} {it : Af} {g : Gf} {p : Tf} {e : Ef} (hc : X.calm = true) (hN : X.N.Nodup) (hi : IG X m1 bw tg iter it) (ok : BlkOk X.N X.env.scope scope own)
    (hg : ∀ (s : Shared) (H : Hp) (C : Addr) (cl : List (Str × Addr)) (fp : List Addr), GG (X.blk s H scope (compEnvC scope cl C X.env) fp) (own.map (·.2)) tg g)
    (ht : ∀ (s : Shared) (H : Hp) (C : Addr) (cl : List (Str × Addr)) (fp : List Addr), TsG (X.blk s H scope (compEnvC scope cl C X.env) fp) m2 ifs p)
    (he : ∀ (s : Shared) (H : Hp) (C : Addr) (cl : List (Str × Addr)) (fp : List Addr), EG (X.blk s H scope (compEnvC scope cl C X.env) fp) m3 .k elt e)
    (gout : OutOk (own.map (·.2)) g)
include hc hN hi ok hg ht he gout
theorem eg_comp (hb : bw = true → (m2 && m3) = true) (hs : ∀ x, foldedSetIterable iter X.env x = pure x := by intro _; rfl) : EG X (m1 && (m2 && m3)) .f (.ListComp elt [⟨tg, iter, ifs, 0⟩] scope pos) (compE it g p e (own.map (·.2))) := by
  obtain ⟨t, h1, _, h3⟩ := eg_lc (pos := pos) hc hN hi ok hg ht he hb gout hs
  exact ⟨t, h1, h3⟩
theorem sg_comp {i : Nat} {y : Str} {py spos : Pos} (hy : X.N[i]? = some y) (hyl : X.env.scope.names.lookup y = some .local) (hsw : swapsWith (.ListComp elt [⟨tg, iter, ifs, 0⟩] scope pos) (some (.Name y py)) spos.line X.env = pure true)
    (hb : bw = true → (m2 && m3) = true) (hs : ∀ x, foldedSetIterable iter X.env x = pure x := by intro _; rfl) : SG X kr (.Assign [.Name y py] (.ListComp elt [⟨tg, iter, ifs, 0⟩] scope pos) spos) (sSetP i (compE it g p e (own.map (·.2)))) := by
  obtain ⟨t, h1, h2, h3⟩ := eg_lc (pos := pos) hc hN hi ok hg ht he hb gout hs
  refine ⟨_, h2 hy hyl hsw, set_pure (m := m1 && (m2 && m3)) fun F σ H ρ d ρ' Q R hf k => h3 F σ H ρ d ρ' Q R hf fun v H' p r => k v H' p (.k (Vr.weak r.vr))⟩
theorem sg_compO {i : Nat} {y : Str} {py spos : Pos} (hy : X.N[i]? = some y) (hyl : X.env.scope.names.lookup y = some .local) (hsw : swapsWith (.ListComp elt [⟨tg, iter, ifs, 0⟩] scope pos) (some (.Name y py)) spos.line X.env = pure true)
    (hb : bw = true → (m2 && m3) = true) (hs : ∀ x, foldedSetIterable iter X.env x = pure x := by intro _; rfl) : SG X kr (.Assign [.Name y py] (.ListComp elt [⟨tg, iter, ifs, 0⟩] scope pos) spos) (sSetO i (compE it g p e (own.map (·.2)))) := by
  obtain ⟨t, h1, h2, h3⟩ := eg_lc (pos := pos) hc hN hi ok hg ht he hb gout hs
  exact ⟨_, h2 hy hyl hsw, set_own (m := m1 && (m2 && m3)) h3⟩
end
section
variable {elt tg iter : Expr} {ifs : List Expr} {scope : Scope} {own : List (Str × Nat)} {pos : Pos} {it : Rho → Option (List D)} {g : Gf} {p : Rho → Option Bool} {e : Rho → Option D} (hc : X.calm = true) (hN : X.N.Nodup) (hi : IG X true bw tg iter (liftA it)) (ok : BlkOk X.N X.env.scope scope own)
    (hg : ∀ (s : Shared) (H : Hp) (C : Addr) (cl : List (Str × Addr)) (fp : List Addr), GG (X.blk s H scope (compEnvC scope cl C X.env) fp) (own.map (·.2)) tg g)
    (ht : ∀ (s : Shared) (H : Hp) (C : Addr) (cl : List (Str × Addr)) (fp : List Addr), TsG (X.blk s H scope (compEnvC scope cl C X.env) fp) true ifs (liftT p))
    (he : ∀ (s : Shared) (H : Hp) (C : Addr) (cl : List (Str × Addr)) (fp : List Addr), EP (X.blk s H scope (compEnvC scope cl C X.env) fp) .k elt e)
    (gout : OutOk (own.map (·.2)) g)
include hc hN hi ok hg ht he gout
theorem ep_comp (hs : ∀ x, foldedSetIterable iter X.env x = pure x := by intro _; rfl) : EP X .f (.ListComp elt [⟨tg, iter, ifs, 0⟩] scope pos) (compPE it g p e (own.map (·.2))) :=
  (eg_comp hc hN hi ok hg ht he gout (fun _ => rfl) hs).cong (compE_lift gout it p e).symm
theorem sp_comp {i : Nat} {y : Str} {py spos : Pos} (hy : X.N[i]? = some y) (hyl : X.env.scope.names.lookup y = some .local) (hsw : swapsWith (.ListComp elt [⟨tg, iter, ifs, 0⟩] scope pos) (some (.Name y py)) spos.line X.env = pure true)
    (hs : ∀ x, foldedSetIterable iter X.env x = pure x := by intro _; rfl) : SG X kr (.Assign [.Name y py] (.ListComp elt [⟨tg, iter, ifs, 0⟩] scope pos) spos) (sSetP i (lift (compPE it g p e (own.map (·.2))))) :=
  (sg_comp hc hN hi ok hg ht he gout hy hyl hsw (fun _ => rfl) hs).cong (by rw [compE_lift gout it p e])
theorem sp_compO {i : Nat} {y : Str} {py spos : Pos} (hy : X.N[i]? = some y) (hyl : X.env.scope.names.lookup y = some .local) (hsw : swapsWith (.ListComp elt [⟨tg, iter, ifs, 0⟩] scope pos) (some (.Name y py)) spos.line X.env = pure true)
    (hs : ∀ x, foldedSetIterable iter X.env x = pure x := by intro _; rfl) : SG X kr (.Assign [.Name y py] (.ListComp elt [⟨tg, iter, ifs, 0⟩] scope pos) spos) (sSetO i (lift (compPE it g p e (own.map (·.2))))) :=
  (sg_compO hc hN hi ok hg ht he gout hy hyl hsw (fun _ => rfl) hs).cong (by rw [compE_lift gout it p e])
end
end
/-! ## defs -/
/-- a def that changes nothing of its caller's: n parameters -/
def spP (K : Fg) (n : Nat) (kr : Kd) (g : List D → Option D) : Sp := fun vs H Q _ => ∃ (O : Ad) (ds : List D) (d : D), vs.length = n ∧ (∀ a, O a → Live H a) ∧ DnL K (hide H O) vs ds ∧ g ds = some d ∧ ∀ v H', Same H H' → Vr K kr O H H' v d → Q v H'
/-- a def that changes the list at its parameter k: c the list ahead, the others' data -/
def ins {α : Type} (k : Nat) (x : α) (l : List α) : List α := l.take k ++ x :: l.drop k
def spM (K : Fg) (n k : Nat) (g : D → List D → Option (D × D)) : Sp := fun vs H Q _ => ∃ (O : Ad) (a : Addr) (ws : List V) (ds : List D) (c r c' : D), vs = ins k (.ref a) ws ∧ k ≤ ws.length ∧ vs.length = n ∧ (∀ b, O b → Live H b) ∧ ¬ O a ∧
  Top K (hide H (insA O a)) H a c ∧ DnL K (hide H (insA O a)) ws ds ∧ g c ds = some (r, c') ∧
  ∀ v H', Same (hide H (insA O a)) (hide H' (insA O a)) → (∀ b, O b → H' b = H b) → (∀ b, H b ≠ none → H' b ≠ none) → Top K (hide H' (insA O a)) H' a c' → Dn K (hide H' (insA O a)) v r → Q v H'
def outD : Out → Option D
  | .rt d _ => some d
  | .nx _ => some .none
  | _ => none
def fnP (N : Nat) (b : Sf) (ds : List D) : Option D := (b (ds.map Sl.p ++ List.replicate (N - ds.length) .un)).bind outD
def outM (k : Nat) : Out → Option (D × D)
  | .rt d ρ => (match ρ[k]? with
    | some (.m c) => some (d, c)
    | _ => none)
  | .nx ρ => (match ρ[k]? with
    | some (.m c) => some (.none, c)
    | _ => none)
  | _ => none
def fnM (N k : Nat) (b : Sf) (c : D) (ds : List D) : Option (D × D) := (b (ins k (.m c) (ds.map Sl.p) ++ List.replicate (N - (ds.length + 1)) .un)).bind (outM k)
theorem own_start {vs : List V} {ρ : Rho} {n : Nat} {i : Nat} {a : Addr} : Own (vs.map some ++ List.replicate n none) ρ i a → vs[i]? = some (.ref a) ∧ ∃ s, ρ[i]? = some s ∧ s.own = true := by
  rintro ⟨s, h1, h2, h3⟩
  refine ⟨?_, s, h1, h2⟩
  by_cases hi : i < vs.length
  · rw [List.getElem?_append_left (by simpa using hi), List.getElem?_map] at h3
    cases q : vs[i]? with
    | none => rw [q] at h3; cases h3
    | some v => rw [q] at h3; cases h3; rfl
  · rw [List.getElem?_append_right (by simpa using hi)] at h3
    by_cases hj : i - (vs.map some).length < n
    · rw [List.getElem?_replicate_of_lt hj] at h3; cases h3
    · rw [List.getElem?_eq_none (by simpa using hj)] at h3; cases h3
section
variable {P : Program} {w : World} {K : Fg} {mg : Str → Option Value} {base : Heap} {x qual : Str} {st : Stmt} {f : Addr} {fd : FuncData} {N ps : List Str} {k : Nat} {kr : Kd}
theorem pure_start {K : Fg} {O : Ad} {H : Hp} {vs : List V} {ds : List D} (n : Nat) (dom : ∀ a, O a → Live H a) (h : DnL K (hide H O) vs ds) :
    Rl K ⟨O, vs.map some, H⟩ (vs.map some ++ List.replicate n none) H (ds.map Sl.p ++ List.replicate n .un) ∧ ∀ b, Ow ⟨O, vs.map some, H⟩ (vs.map some ++ List.replicate n none) (ds.map Sl.p ++ List.replicate n .un) b ↔ O b := by
  have no : ∀ i a, ¬ Own (vs.map some ++ List.replicate n none) (ds.map Sl.p ++ List.replicate n .un) i a := fun i a ⟨s, h1, h2, _⟩ => by
    have hm := List.mem_of_getElem? h1
    rcases List.mem_append.mp hm with hm | hm
    · obtain ⟨d, _, rfl⟩ := List.mem_map.mp hm
      cases h2
    · rw [List.eq_of_mem_replicate hm] at h2
      cases h2
  have owE : ∀ b, Ow ⟨O, vs.map some, H⟩ (vs.map some ++ List.replicate n none) (ds.map Sl.p ++ List.replicate n .un) b ↔ O b := fun b => ⟨fun z => z.elim id fun ⟨i, q⟩ => absurd q (no i b), fun z => .inl z⟩
  refine ⟨⟨by simp [h.length], fun i s hs => ?_, fun i j a h1 _ => absurd h1 (no i a), fun a ha => ⟨dom a ha, fun i => no i a⟩, fun a ha => ha⟩, owE⟩
  by_cases hi : i < ds.length
  · rw [List.getElem?_append_left (by simpa using hi), List.getElem?_map, List.getElem?_eq_getElem hi] at hs
    cases hs
    obtain ⟨u, e1, e2⟩ := h.get (List.getElem?_eq_getElem hi)
    refine ⟨some u, ?_, u, rfl, e2.mono (hide_less fun b hb => (owE b).mp hb)⟩
    rw [List.getElem?_append_left (by rw [List.length_map]; exact lt_of_some e1), List.getElem?_map, e1]
    rfl
  · rw [List.getElem?_append_right (by simpa using hi)] at hs
    have hj := lt_of_some hs
    rw [List.length_replicate, List.length_map] at hj
    rw [List.getElem?_replicate_of_lt (by simpa using hj)] at hs
    cases hs
    refine ⟨none, ?_, trivial⟩
    have hl := h.length
    rw [List.getElem?_append_right (by rw [List.length_map]; omega), List.getElem?_replicate_of_lt (by rw [List.length_map]; omega)]
theorem fn_pure (hk : kr = .k ∨ kr = .f) {b : Sf} (F : Fun K x qual st f fd) (S : FnScope N ps (defScope st))
    (hbody : ∀ (cdv : Value) (A : Around) (outer : List Env) (s : Shared) (H : Hp) (E : XK), Room k (A.deeper (envOfC qual (defScope st) s.heap.objs.size f cdv)) → SB (cxOf CX0 P w K mg base N qual (defScope st) f cdv A outer s H E).nox kr (defBody st) b)
    (hn : kr = .f → ∀ ρ ρ', b ρ ≠ some (.nx ρ') := by intro h; cases h) : FnOk P w K mg base CX0 (k + 1) f fd ps (spP K ps.length kr (fnP N.length b)) := by
  refine F.ok S (fun vs H Q E h => ?_) fun cdv A outer s H vs Q E hr h => ?_
  · obtain ⟨O, ds, d, h1, _⟩ := h
    exact h1
  · obtain ⟨O, ds, d, hl, dom, hd, hg, q⟩ := h
    obtain ⟨t, ht1, ht2⟩ := (hbody cdv A outer s H E hr).ex
    refine ⟨t, ht1, ?_⟩
    obtain ⟨o, e1, e2⟩ := Option.bind_eq_some_iff.mp hg
    obtain ⟨R0, owE⟩ := pure_start (N.length - ds.length) dom hd
    have hst : start N vs = vs.map some ++ List.replicate (N.length - ds.length) none := by unfold L2.start; rw [hd.length]
    rw [hst]
    have grow : ∀ {σ' : L2.St} {H' : Hp} {ρ' : Rho}, Evo ⟨O, vs.map some, H⟩ (vs.map some ++ List.replicate (N.length - ds.length) none) H (ds.map Sl.p ++ List.replicate (N.length - ds.length) .un) σ' H' ρ' → Same H H' := fun {σ' H' ρ'} ev b u hb => by
      by_cases z : O b
      · rw [ev.oc b z]; exact hb
      · exact (hide_some.mp (ev.kept b u (hide_some.mpr ⟨fun y => z ((owE b).mp y), hb⟩))).2
    refine ht2 ⟨O, vs.map some, H⟩ _ H _ o _ R0 e1 ?_
    have om : ∀ ρ', (∀ b, O b → Om ⟨O, vs.map some, H⟩ ρ' b) := fun ρ' b hb => .inl hb
    cases o with
    | bk ρ' => cases e2
    | ct ρ' => cases e2
    | rt d' ρ' =>
      cases e2
      intro v σ' H' R' ev r
      refine q v H' (grow ev) ?_
      rcases hk with rfl | rfl
      · exact Dn.mono (hide_less (om ρ')) r
      · obtain ⟨a, e, n, no, t⟩ := r
        exact ⟨a, e, n, fun z => no (om ρ' a z), t.mono (hide_less fun b hb => hb.imp (om ρ' b) id) fun _ q => q⟩
    | nx ρ' =>
      cases e2
      intro σ' H' R' ev
      rcases hk with rfl | rfl
      · exact q _ H' (grow ev) .non
      · exact absurd e1 (hn rfl _ _)
end
end DL
namespace DL
open L2 PyProof.Rows PySem PySem.Spec
theorem ins_length {α : Type} {k : Nat} {x : α} {l : List α} (h : k ≤ l.length) : (ins k x l).length = l.length + 1 := by unfold ins; simp; omega
theorem ins_at {α : Type} {k : Nat} {x : α} {l : List α} (h : k ≤ l.length) : (ins k x l)[k]? = some x := by
  unfold ins
  rw [List.getElem?_append_right (by rw [List.length_take]; omega), List.length_take, Nat.min_eq_left h, Nat.sub_self]
  rfl
theorem ins_lt {α : Type} {k i : Nat} {x : α} {l : List α} (h : k ≤ l.length) (hi : i < k) : (ins k x l)[i]? = l[i]? := by
  unfold ins
  rw [List.getElem?_append_left (by rw [List.length_take]; omega), List.getElem?_take_of_lt hi]
theorem ins_gt {α : Type} {k i : Nat} {x : α} {l : List α} (h : k ≤ l.length) (hi : k ≤ i) : (ins k x l)[i + 1]? = l[i]? := by
  unfold ins
  rw [List.getElem?_append_right (by rw [List.length_take]; omega), List.length_take, Nat.min_eq_left h, show i + 1 - k = (i - k) + 1 by omega, List.getElem?_cons_succ, List.getElem?_drop]
  congr 1
  omega
/-- the i-th of a list with one put in -/
theorem ins_cases {α : Type} {k i : Nat} {x y : α} {l : List α} (h : k ≤ l.length) (e : (ins k x l)[i]? = some y) : (i = k ∧ y = x) ∨ (i < k ∧ l[i]? = some y) ∨ ∃ j, i = j + 1 ∧ k ≤ j ∧ l[j]? = some y := by
  by_cases h1 : i = k
  · subst h1
    rw [ins_at h] at e
    exact .inl ⟨rfl, (Option.some.inj e).symm⟩
  · by_cases h2 : i < k
    · rw [ins_lt h h2] at e
      exact .inr (.inl ⟨h2, e⟩)
    · obtain ⟨j, rfl⟩ : ∃ j, i = j + 1 := ⟨i - 1, by omega⟩
      rw [ins_gt h (by omega)] at e
      exact .inr (.inr ⟨j, rfl, by omega, e⟩)
theorem ins_map {α β : Type} (g : α → β) {k : Nat} {x : α} {l : List α} : (ins k x l).map g = ins k (g x) (l.map g) := by
  unfold ins
  rw [List.map_append, List.map_cons, List.map_take, List.map_drop]
section
variable {P : Program} {w : World} {K : Fg} {mg : Str → Option Value} {base : Heap} {x qual : Str} {st : Stmt} {f : Addr} {fd : FuncData} {N ps : List Str} {k j : Nat}
theorem mut_start {K : Fg} {O : Ad} {H : Hp} {a : Addr} {ws : List V} {ds : List D} {c : D} (n : Nat) (dom : ∀ b, O b → Live H b) (ha : ¬ O a) (t : Top K (hide H (insA O a)) H a c) (h : DnL K (hide H (insA O a)) ws ds) (hj : j ≤ ws.length) :
    Rl K ⟨O, (ins j (.ref a) ws).map some, H⟩ ((ins j (.ref a) ws).map some ++ List.replicate n none) H (ins j (.m c) (ds.map Sl.p) ++ List.replicate n .un) ∧
      ∀ b, Ow ⟨O, (ins j (.ref a) ws).map some, H⟩ ((ins j (.ref a) ws).map some ++ List.replicate n none) (ins j (.m c) (ds.map Sl.p) ++ List.replicate n .un) b ↔ insA O a b := by
  have hl := h.length
  have hj' : j ≤ (ds.map Sl.p).length := by rw [List.length_map]; omega
  have l1 : (ins j (.ref a) ws).length = ws.length + 1 := ins_length hj
  have l2 : (ins j (Sl.m c) (ds.map Sl.p)).length = ws.length + 1 := by rw [ins_length hj', List.length_map, hl]
  have at1 : ∀ i, i < ws.length + 1 → ((ins j (.ref a) ws).map some ++ List.replicate n none)[i]? = ((ins j (.ref a) ws).map some)[i]? := fun i hi => List.getElem?_append_left (by rw [List.length_map]; omega)
  have at2 : ∀ i, i < ws.length + 1 → (ins j (Sl.m c) (ds.map Sl.p) ++ List.replicate n .un)[i]? = (ins j (Sl.m c) (ds.map Sl.p))[i]? := fun i hi => List.getElem?_append_left (by omega)
  have slots : ∀ i s, (ins j (Sl.m c) (ds.map Sl.p) ++ List.replicate n .un)[i]? = some s → (i = j ∧ s = .m c) ∨ (∃ d v, s = .p d ∧ ((ins j (.ref a) ws).map some ++ List.replicate n none)[i]? = some (some v) ∧ Dn K (hide H (insA O a)) v d) ∨ (s = .un ∧ ∃ y, ((ins j (.ref a) ws).map some ++ List.replicate n none)[i]? = some y) := fun i s hs => by
    by_cases hi : i < ws.length + 1
    · rw [at2 i hi] at hs
      rcases ins_cases hj' hs with ⟨e1, e2⟩ | ⟨e1, e2⟩ | ⟨i', rfl, e1, e2⟩
      · exact .inl ⟨e1, e2⟩
      · rw [List.getElem?_map] at e2
        obtain ⟨d, e3, e4⟩ := Option.map_eq_some_iff.mp e2
        obtain ⟨v, e5, e6⟩ := h.get e3
        refine .inr (.inl ⟨d, v, e4.symm, ?_, e6⟩)
        rw [at1 i hi, List.getElem?_map, ins_lt hj e1, e5]
        rfl
      · rw [List.getElem?_map] at e2
        obtain ⟨d, e3, e4⟩ := Option.map_eq_some_iff.mp e2
        obtain ⟨v, e5, e6⟩ := h.get e3
        refine .inr (.inl ⟨d, v, e4.symm, ?_, e6⟩)
        rw [at1 _ hi, List.getElem?_map, ins_gt hj e1, e5]
        rfl
    · rw [List.getElem?_append_right (by omega)] at hs
      have hr := lt_of_some hs
      rw [List.length_replicate] at hr
      rw [List.getElem?_replicate_of_lt hr] at hs
      cases hs
      refine .inr (.inr ⟨rfl, none, ?_⟩)
      rw [List.getElem?_append_right (by rw [List.length_map]; omega), List.getElem?_replicate_of_lt (by rw [List.length_map]; omega)]
  have atj : ((ins j (.ref a) ws).map some ++ List.replicate n none)[j]? = some (some (.ref a)) := by rw [at1 j (by omega), List.getElem?_map, ins_at hj]; rfl
  have atjm : (ins j (Sl.m c) (ds.map Sl.p) ++ List.replicate n .un)[j]? = some (.m c) := by rw [at2 j (by omega), ins_at hj']
  have ow : ∀ i b, Own ((ins j (.ref a) ws).map some ++ List.replicate n none) (ins j (Sl.m c) (ds.map Sl.p) ++ List.replicate n .un) i b → i = j ∧ b = a := fun i b ⟨s, h1, h2, h3⟩ => by
    rcases slots i s h1 with ⟨e1, e2⟩ | ⟨d, v, e1, _⟩ | ⟨e1, _⟩
    · subst e1
      rw [atj] at h3
      cases h3
      exact ⟨rfl, rfl⟩
    · subst e1; cases h2
    · subst e1; cases h2
  have owE : ∀ b, Ow ⟨O, (ins j (.ref a) ws).map some, H⟩ ((ins j (.ref a) ws).map some ++ List.replicate n none) (ins j (.m c) (ds.map Sl.p) ++ List.replicate n .un) b ↔ insA O a b := fun b =>
    ⟨fun z => z.imp id fun ⟨i, q⟩ => (ow i b q).2, fun z => z.elim .inl fun e => .inr ⟨j, _, atjm, rfl, by rw [e]; exact atj⟩⟩
  refine ⟨⟨by simp only [List.length_append, List.length_map, List.length_replicate, l1, l2], fun i s hs => ?_, fun i i' b h1 h2 => by rw [(ow i b h1).1, (ow i' b h2).1], fun b hb => ⟨dom b hb, fun i q => ha (by rw [← (ow i b q).2]; exact hb)⟩, fun b hb => hb⟩, owE⟩
  have G : Same (hide H (insA O a)) (hide H (Ow ⟨O, (ins j (.ref a) ws).map some, H⟩ ((ins j (.ref a) ws).map some ++ List.replicate n none) (ins j (.m c) (ds.map Sl.p) ++ List.replicate n .un))) := hide_less fun b hb => (owE b).mp hb
  rcases slots i s hs with ⟨rfl, rfl⟩ | ⟨d, v, rfl, e1, e2⟩ | ⟨rfl, y, e1⟩
  · exact ⟨_, atj, a, rfl, t.mono G fun _ q => q, by show ((ins i (.ref a) ws).map some)[i]? = _; rw [List.getElem?_map, ins_at hj]; rfl⟩
  · exact ⟨_, e1, v, rfl, e2.mono G⟩
  · exact ⟨y, e1, trivial⟩
theorem fn_mut {b : Sf} (F : Fun K x qual st f fd) (S : FnScope N ps (defScope st))
    (hbody : ∀ (cdv : Value) (A : Around) (outer : List Env) (s : Shared) (H : Hp) (E : XK), Room k (A.deeper (envOfC qual (defScope st) s.heap.objs.size f cdv)) → SB (cxOf CX0 P w K mg base N qual (defScope st) f cdv A outer s H E).nox .k (defBody st) b) :
    FnOk P w K mg base CX0 (k + 1) f fd ps (spM K ps.length j (fnM N.length j b)) := by
  refine F.ok S (fun vs H Q E h => ?_) fun cdv A outer s H vs Q E hr h => ?_
  · obtain ⟨O, a, ws, ds, c, r, c', _, _, h1, _⟩ := h
    exact h1
  · obtain ⟨O, a, ws, ds, c, r, c', rfl, hj, hl, dom, ha, t, hd, hg, q⟩ := h
    obtain ⟨tt, ht1, ht2⟩ := (hbody cdv A outer s H E hr).ex
    refine ⟨tt, ht1, ?_⟩
    obtain ⟨o, e1, e2⟩ := Option.bind_eq_some_iff.mp hg
    obtain ⟨R0, owE⟩ := mut_start (N.length - (ds.length + 1)) dom ha t hd hj
    have hst : start N (ins j (.ref a) ws) = (ins j (.ref a) ws).map some ++ List.replicate (N.length - (ds.length + 1)) none := by unfold L2.start; rw [ins_length hj, hd.length]
    rw [hst]
    -- the end, whatever came back
    have fin : ∀ {σ' : L2.St} {H' : Hp} {ρ' : Rho} {v : V}, Rl K ⟨O, (ins j (.ref a) ws).map some, H⟩ σ' H' ρ' → Evo ⟨O, (ins j (.ref a) ws).map some, H⟩ ((ins j (.ref a) ws).map some ++ List.replicate (N.length - (ds.length + 1)) none) H (ins j (.m c) (ds.map Sl.p) ++ List.replicate (N.length - (ds.length + 1)) .un) σ' H' ρ' →
        ρ'[j]? = some (.m c') → Dn K (hide H' (Om ⟨O, (ins j (.ref a) ws).map some, H⟩ ρ')) v r → Q v H' := fun {σ' H' ρ' v} R' ev hm hv => by
      have hja : ((ins j (.ref a) ws).map some)[j]? = some (some (.ref a)) := by rw [List.getElem?_map, ins_at hj]; rfl
      obtain ⟨y, g1, b', g2, g3, g4⟩ := R'.slot j _ hm
      subst g2
      have eb : b' = a := by
        have g5 := hja.symm.trans g4
        cases g5
        rfl
      subst eb
      have ow : Own σ' ρ' j b' := ⟨_, hm, rfl, g1⟩
      have less : ∀ z, insA O b' z → Ow ⟨O, (ins j (.ref b') ws).map some, H⟩ σ' ρ' z := fun z hz => hz.elim .inl fun e => .inr ⟨j, by rw [e]; exact ow⟩
      have less2 : ∀ z, insA O b' z → Om ⟨O, (ins j (.ref b') ws).map some, H⟩ ρ' z := fun z hz => hz.elim .inl fun e => .inr ⟨j, c', hm, by rw [e]; exact hja⟩
      refine q v H' (fun z u e => ?_) ev.oc ev.dom (g3.mono (hide_less less) fun _ q => q) (hv.mono (hide_less less2))
      obtain ⟨e3, e4⟩ := hide_some.mp e
      obtain ⟨e5, e6⟩ := hide_some.mp (ev.kept z u (hide_some.mpr ⟨fun y => e3 ((owE z).mp y), e4⟩))
      exact hide_some.mpr ⟨e3, e6⟩
    refine ht2 ⟨O, (ins j (V.ref a) ws).map some, H⟩ _ H _ o _ R0 e1 ?_
    cases o with
    | bk ρ' => cases e2
    | ct ρ' => cases e2
    | rt d' ρ' =>
      have e2 : (match ρ'[j]? with | some (.m c) => some (d', c) | _ => none) = some (r, c') := e2
      split at e2
      · rename_i c1 hm
        cases e2
        exact fun v σ' H' R' ev hv => fin R' ev hm hv
      · cases e2
    | nx ρ' =>
      have e2 : (match ρ'[j]? with | some (.m c) => some (PyData.none, c) | _ => none) = some (r, c') := e2
      split at e2
      · rename_i c1 hm
        cases e2
        exact fun σ' H' R' ev => fin R' ev hm .non
      · cases e2
end
/-! ## calls -/
section
variable {X : Cx} {m : Bool} {kr kd : Kd} {k n j i : Nat} {f : Addr} {fd : FuncData} {ps : List Str} {x : Str} {p pos : Pos} {e : Expr} {es : List Expr}
theorem eg_call {g : List D → Option D} {fa : Af} (F : FnOk X.prog X.w X.K X.mg X.base CX0 k f fd ps (spP X.K n kr g)) (hr : Room k X.A) (hg : Gl X x) (hm : X.mg x = some (.ref f)) (hk : PySem.W.keepIn X.K (.ref f) = true) (hb : Binds X.K fd ps [])
    (ha : AG X m (e :: es) fa) (hn : Nat.beq (e :: es).length n = true := by rfl) (hdb : (x == ("__debug__" : Str)) = false := by decide) (he : starEach (e :: es) X.env = (false, eval e X.env) :: starEach es X.env := by rfl) (hpl : (backTo pos (starEach es X.env)).any (·.1) = false := by rfl) :
    EG X m kr (.Call (.Name x p) (e :: es) [] pos) (seqA g fa) := by
  obtain ⟨t, h1, h2⟩ := ha.ex
  refine ⟨_, pe_call F hr hg hm hk hb .nil pass0 h1 hdb he hpl, fun F σ H ρ d ρ' Q R hf k => ?_⟩
  obtain ⟨ds, e1, e2⟩ := seqA_some hf
  refine h2 F σ H ρ ds ρ' _ R e1 fun vs H1 p1 r1 => ?_
  refine ⟨Ow F σ ρ', ds, d, ?_, p1.rl.domL, by rw [List.append_nil]; exact r1, e2, fun z H3 s3 r3 => k z H3 (p1.more s3) (.of p1.rl s3 r3 p1.ev.dom)⟩
  rw [List.append_nil, r1.length, ha.len _ _ _ e1]
  exact Nat.eq_of_beq_eq_true hn
theorem ep_call {g : List D → Option D} {fa : Rho → Option (List D)} (F : FnOk X.prog X.w X.K X.mg X.base CX0 k f fd ps (spP X.K n kr g)) (hr : Room k X.A) (hg : Gl X x) (hm : X.mg x = some (.ref f)) (hk : PySem.W.keepIn X.K (.ref f) = true) (hb : Binds X.K fd ps [])
    (ha : AP X (e :: es) fa) (hn : Nat.beq (e :: es).length n = true := by rfl) (hdb : (x == ("__debug__" : Str)) = false := by decide) (he : starEach (e :: es) X.env = (false, eval e X.env) :: starEach es X.env := by rfl) (hpl : (backTo pos (starEach es X.env)).any (·.1) = false := by rfl) :
    EP X kr (.Call (.Name x p) (e :: es) [] pos) (puA g fa) := (eg_call F hr hg hm hk hb ha hn hdb he hpl).cong (seqA_lift g fa).symm
/-- no argument -/
def pu0 (g : List D → Option D) : Rho → Option D := fun _ => g []
theorem ep_call0 {g : List D → Option D} (F : FnOk X.prog X.w X.K X.mg X.base CX0 k f fd ps (spP X.K n kr g)) (hr : Room k X.A) (hg : Gl X x) (hm : X.mg x = some (.ref f)) (hk : PySem.W.keepIn X.K (.ref f) = true) (hb : Binds X.K fd ps [])
    (hn : Nat.beq 0 n = true := by rfl) (hdb : (x == ("__debug__" : Str)) = false := by decide) : EP X kr (.Call (.Name x p) [] [] pos) (pu0 g) := by
  refine ⟨_, pe_call0 F hr hg hm hk hb .nil pass0 hdb, fun F σ H ρ d ρ' Q R hf k => ?_⟩
  obtain ⟨hf, rfl⟩ := lift_some.mp hf
  exact ⟨Ow F σ ρ', [], d, Nat.eq_of_beq_eq_true hn, R.domL, .nil, hf, fun z H3 s3 r3 => k z H3 (.grow R s3) (.of R s3 r3 fun _ h => h)⟩
/-- arguments, one of which, at place j, is the name of the slot i that owns a list -/
structure AM (X : Cx) (j i : Nat) (es : List Expr) (f : Af) : Prop where
  ex : ∃ t : TA, PA X es t ∧ ∀ (F : Fx) (σ : L2.St) (H : Hp) (ρ : Rho) (ds : List D) (ρ' : Rho) (a : Addr) (Q : List V → Hp → Prop), Rl X.K F σ H ρ → σ[i]? = some (some (.ref a)) → f ρ = some (ds, ρ') →
    (∀ ws H', Po X.K F false σ H ρ H' ρ' → DnL X.K (hide H' (Ow F σ ρ')) ws ds → Q (ins j (.ref a) ws) H') → t σ H Q
  len : ∀ ρ ds ρ', f ρ = some (ds, ρ') → ds.length + 1 = es.length ∧ j ≤ ds.length
theorem am_here {y : Str} {py : Pos} {fa : Af} (h : PE X (.Name y py) (tVar i)) (hr : AG X m es fa) (hs : starEach (.Name y py :: es) X.env = (false, eval (.Name y py) X.env) :: starEach es X.env := by rfl) : AM X 0 i (.Name y py :: es) fa := by
  obtain ⟨t, h1, h2⟩ := hr.ex
  refine ⟨⟨_, pa_cons h h1 hs, fun F σ H ρ ds ρ' a Q R hi hf k => ?_⟩, fun ρ ds ρ' hf => ⟨by rw [hr.len _ _ _ hf]; rfl, Nat.zero_le _⟩⟩
  exact ⟨.ref a, hi, h2 F σ H ρ ds ρ' _ R hf fun vs H' p r => k vs H' (p.weak fun z => by cases z) r⟩
theorem am_cons {fe : Ef} {fa : Af} (h : EG X m .k e fe) (hr : AM X j i es fa) (hs : starEach (e :: es) X.env = (false, eval e X.env) :: starEach es X.env := by rfl) : AM X (j + 1) i (e :: es) (aS fe fa) := by
  obtain ⟨ta, ha1, ha2⟩ := h.ex
  obtain ⟨t, h1, h2⟩ := hr.ex
  refine ⟨⟨_, pa_cons ha1 h1 hs, fun F σ H ρ ds ρ' a Q R hi hf k => ?_⟩, fun ρ ds ρ' hf => ?_⟩
  · obtain ⟨⟨y, ρ1⟩, e1, e2⟩ := Option.bind_eq_some_iff.mp hf
    obtain ⟨⟨r, ρ2⟩, e3, e2⟩ := Option.map_eq_some_iff.mp e2
    cases e2
    refine ha2 F σ H ρ y ρ1 _ R e1 fun v H1 p1 r1 => ?_
    refine h2 F σ H1 ρ1 r _ a _ p1.rl hi e3 fun vs H2 p2 r2 => ?_
    exact k (v :: vs) H2 ((p1.weak (n := false) (by simp)).trans p2) (.cons (Dn.mono p2.ev.kept r1.vr) r2)
  · obtain ⟨⟨y, ρ1⟩, e1, e2⟩ := Option.bind_eq_some_iff.mp hf
    obtain ⟨⟨r, ρ2⟩, e3, e2⟩ := Option.map_eq_some_iff.mp e2
    cases e2
    obtain ⟨l1, l2⟩ := hr.len _ _ _ e3
    exact ⟨by rw [List.length_cons, List.length_cons, l1], Nat.succ_le_succ l2⟩
/-- f(.., draws, ..) -/
def callM (i : Nat) (g : D → List D → Option (D × D)) (fa : Af) : Ef := fun ρ => (ownd i ρ).bind fun _ => (fa ρ).bind fun a => (ownd i a.2).bind fun c => (g c a.1).map fun r => (r.1, wr i r.2 a.2)
theorem top_upd {K : Fg} {F : Fx} {σ : L2.St} {H H' : Hp} {ρ : Rho} {a : Addr} {d : D} {s : Sl} (R : Rl K F σ H ρ) (hs : ρ[i]? = some s) (hw : s.own = true) (ha : σ[i]? = some (some (.ref a)))
    (g : Same (hide H (Ow F σ ρ)) (hide H' (Ow F σ ρ))) (oc : ∀ b, Ow F σ ρ b → b ≠ a → H' b = H b) (dom : ∀ b, H b ≠ none → H' b ≠ none) (t : Top K (hide H' (Ow F σ ρ)) H' a d) :
    Rl K F σ H' (wr i d ρ) ∧ Evo F σ H ρ σ H' (wr i d ρ) := by
  have ow : Own σ ρ i a := ⟨s, hs, hw, ha⟩
  have nOc : ∀ b, F.Oc b → b ≠ a := fun b hb z => (R.oc b hb).2 i (by rw [z]; exact ow)
  have G : Same (hide H (Ow F σ ρ)) (hide H' (Ow F σ (wr i d ρ))) := by rw [ow_wr]; exact g
  have T : Top K (hide H' (Ow F σ (wr i d ρ))) H' a d := by rw [ow_wr]; exact t
  have ocE : ∀ b, F.Oc b → H' b = H b := fun b hb => oc b (.inl hb) (nOc b hb)
  refine ⟨⟨?_, fun l u hu => ?_, fun l l' b h1 h2 => R.inj l l' b (own_wr.mp h1) (own_wr.mp h2), fun b hb => ⟨(R.oc b hb).1.at (ocE b hb), fun l q => (R.oc b hb).2 l (own_wr.mp q)⟩, fun b hb => dom b (R.dom b hb)⟩, ⟨G, ocE, dom⟩⟩
  · unfold wr
    rw [hs]
    simpa using R.len
  · by_cases z : i = l
    · subst z
      unfold wr at hu
      rw [hs] at hu
      simp only at hu
      rw [List.getElem?_set_self (lt_of_some hs)] at hu
      cases hu
      obtain ⟨y, h1, h2⟩ := R.slot i s hs
      rw [ha] at h1
      cases h1
      refine ⟨_, ha, ?_⟩
      cases s with
      | un => cases hw
      | p e => cases hw
      | o e => obtain ⟨b, e1, _, e3⟩ := h2; cases e1; exact ⟨a, rfl, T, e3⟩
      | m e => obtain ⟨b, e1, _, e3⟩ := h2; cases e1; exact ⟨a, rfl, T, e3⟩
    · have hu' : ρ[l]? = some u := by
        unfold wr at hu
        rw [hs] at hu
        simp only at hu
        rw [List.getElem?_set_ne z] at hu
        exact hu
      obtain ⟨y, h1, h2⟩ := R.slot l u hu'
      refine ⟨y, h1, ?_⟩
      have keep : ∀ b, Own σ ρ l b → ∀ q, H b = some q → H' b = some q := fun b hb q e => by
        rw [oc b (.inr ⟨l, hb⟩) (fun y => z (R.inj i l a ow (by rw [← y]; exact hb)))]
        exact e
      cases u with
      | un => trivial
      | p e => obtain ⟨v, e1, e2⟩ := h2; exact ⟨v, e1, e2.mono G⟩
      | o e => obtain ⟨b, e1, e2, e3⟩ := h2; subst e1; exact ⟨b, rfl, e2.mono G (keep b ⟨_, hu', rfl, h1⟩), e3⟩
      | m e => obtain ⟨b, e1, e2, e3⟩ := h2; subst e1; exact ⟨b, rfl, e2.mono G (keep b ⟨_, hu', rfl, h1⟩), e3⟩
theorem eg_callM {g : D → List D → Option (D × D)} {fa : Af} (F : FnOk X.prog X.w X.K X.mg X.base CX0 k f fd ps (spM X.K n j g)) (hr : Room k X.A) (hg : Gl X x) (hm : X.mg x = some (.ref f)) (hk : PySem.W.keepIn X.K (.ref f) = true) (hb : Binds X.K fd ps [])
    (ha : AM X j i (e :: es) fa) (hn : Nat.beq (e :: es).length n = true := by rfl) (hdb : (x == ("__debug__" : Str)) = false := by decide) (he : starEach (e :: es) X.env = (false, eval e X.env) :: starEach es X.env := by rfl) (hpl : (backTo pos (starEach es X.env)).any (·.1) = false := by rfl) :
    EG X false .k (.Call (.Name x p) (e :: es) [] pos) (callM i g fa) := by
  obtain ⟨t, h1, h2⟩ := ha.ex
  refine ⟨_, pe_call F hr hg hm hk hb .nil pass0 h1 hdb he hpl, fun F σ H ρ d ρ' Q R hf k => ?_⟩
  obtain ⟨c0, e0, hf⟩ := Option.bind_eq_some_iff.mp hf
  obtain ⟨⟨ds, ρ1⟩, e1, hf⟩ := Option.bind_eq_some_iff.mp hf
  obtain ⟨c, e2, hf⟩ := Option.bind_eq_some_iff.mp hf
  obtain ⟨⟨r, c'⟩, e3, hf⟩ := Option.map_eq_some_iff.mp hf
  cases hf
  obtain ⟨a, s0, q1, q2, q3, _⟩ := ownd_some R e0
  refine h2 F σ H ρ ds ρ1 a _ R q3 e1 fun ws H1 p1 r1 => ?_
  obtain ⟨a', s, g1, g2, g3, t⟩ := ownd_some p1.rl e2
  rw [q3] at g3
  cases g3
  have ow : Own σ ρ1 i a := ⟨s, g1, g2, q3⟩
  have R1 := p1.rl
  -- all but that one
  have hE : insA (fun b => Ow F σ ρ1 b ∧ b ≠ a) a = Ow F σ ρ1 := by
    funext b
    refine propext ⟨fun z => z.elim (fun y => y.1) fun y => .inr ⟨i, by rw [y]; exact ow⟩, fun z => ?_⟩
    by_cases y : b = a
    · exact .inr y
    · exact .inl ⟨z, y⟩
  have hl := ha.len _ _ _ e1
  have hw := r1.length
  refine ⟨fun b => Ow F σ ρ1 b ∧ b ≠ a, a, ws, ds, c, r, c', by rw [List.append_nil], by omega, ?_, fun b hb => R1.domL b hb.1, fun z => z.2 rfl, by rw [hE]; exact t, by rw [hE]; exact r1, e3, fun v H2 s2 oc dom t2 hv => ?_⟩
  · have h3 : (e :: es).length = n := Nat.eq_of_beq_eq_true hn
    rw [List.append_nil, ins_length (by omega), hw, ← h3]
    exact hl.1
  · rw [hE] at s2 t2 hv
    obtain ⟨R2, ev2⟩ := top_upd R1 g1 g2 q3 s2 (fun b hb nb => oc b ⟨hb, nb⟩) dom t2
    refine k v H2 ⟨R2, p1.ev.trans ev2, fun z => by cases z⟩ (.k ?_)
    rw [ow_wr]
    exact hv
end
end DL
namespace DL
open L2 PyProof.Rows PySem PySem.Spec
/-! ## methods that change the slot's own list -/
def lstOf : D → Option (List D)
  | .list ds => some ds
  | _ => none
theorem lstOf_some {d : D} {ds : List D} (h : lstOf d = some ds) : d = .list ds := by
  cases d <;> simp [lstOf] at h
  rw [h]
def MutL (X : Cx) (id : String) (g : List D → List D → Option (D × List D)) : Prop :=
  MtR X id fun x vs H Q => ∃ (a : Addr) (xs : List V) (G : Hp) (ds es : List D) (r : D) (ds' : List D), x = .ref a ∧ H a = some (.lst xs) ∧ DnL X.K G xs ds ∧ DnL X.K G vs es ∧ g ds es = some (r, ds') ∧ ∀ v xs', Dn X.K G v r → DnL X.K G xs' ds' → Q v (upd H a (.lst xs'))
def mutE (i : Nat) (g : List D → List D → Option (D × List D)) (fa : Af) : Ef := fun ρ => (ownd i ρ).bind fun c0 => (lstOf c0).bind fun _ => (fa ρ).bind fun a => (ownd i a.2).bind fun c => (lstOf c).bind fun ds => (g ds a.1).map fun r => (r.1, wr i (.list r.2) a.2)
section
variable {X : Cx} {m : Bool} {kr kd : Kd} {i : Nat} {x : Str} {p pos apos cpos : Pos} {e : Expr} {es : List Expr} {id : String} {name : Str} {g : List D → List D → Option (D × List D)} {fa : Af}
theorem top_list {K : Fg} {G H : Hp} {a : Addr} {ds : List D} (h : Top K G H a (.list ds)) : ∃ xs, H a = some (.lst xs) ∧ DnL K G xs ds := h
theorem eg_mut (pa : PlainAttrs "list") (slot : Slot "list" name id) (hty : typeOf (.builtin id) = pure (.type "method_descriptor")) (hm : MutL X id g) (ho : PE X (.Name x p) (tVar i)) (ha : AG X m (e :: es) fa)
    (hbase : attributeBase (.Name x p) name X.env (eval (.Name x p) X.env) = eval (.Name x p) X.env := by rfl)
    (hfew : ((backTo cpos (starEach (e :: es) X.env)).all (fun x => !x.1) && (backToKw cpos (keywordEach [] X.env)).all (fun x => x.1.isSome) && decide ((e :: es).length + ([] : List Keyword).length + (if ([] : List Keyword).isEmpty then 0 else 1) < 30)) = true := by rfl)
    (hline : (apos.endLine == cpos.line) = true := by rfl) (hs : starEach (e :: es) X.env = (false, eval e X.env) :: starEach es X.env := by rfl) (hplain : (backTo cpos (starEach es X.env)).any (·.1) = false := by rfl) :
    EG X false .k (.Call (.Attribute (.Name x p) name apos) (e :: es) [] cpos) (mutE i g fa) := by
  obtain ⟨t, h1, h2⟩ := ha.ex
  refine ⟨_, pe_bm pa slot hty hm ho h1 hbase hfew hline hs hplain, fun F σ H ρ d ρ' Q R hf k => ?_⟩
  obtain ⟨c0, e0, hf⟩ := Option.bind_eq_some_iff.mp hf
  obtain ⟨d0, e0', hf⟩ := Option.bind_eq_some_iff.mp hf
  obtain ⟨⟨as, ρ1⟩, e1, hf⟩ := Option.bind_eq_some_iff.mp hf
  obtain ⟨c, e2, hf⟩ := Option.bind_eq_some_iff.mp hf
  obtain ⟨ds, e2', hf⟩ := Option.bind_eq_some_iff.mp hf
  obtain ⟨⟨r, ds'⟩, e3, hf⟩ := Option.map_eq_some_iff.mp hf
  cases hf
  have e0' := lstOf_some e0'
  have e2' := lstOf_some e2'
  subst e0' e2'
  obtain ⟨a, s0, q1, q2, q3, t0⟩ := ownd_some R e0
  obtain ⟨xs0, hx0, _⟩ := top_list t0
  refine ⟨.ref a, q3, .inl ⟨rfl, xs0, .of hx0⟩, ?_⟩
  refine h2 F σ H ρ as ρ1 _ R e1 fun vs H1 p1 r1 => ?_
  obtain ⟨a', s, g1, g2, g3, t1⟩ := ownd_some p1.rl e2
  rw [q3] at g3
  cases g3
  obtain ⟨xs, hx, hd⟩ := top_list t1
  refine ⟨a, xs, _, ds, as, r, ds', rfl, hx, hd, r1, e3, fun v xs' hv hxs => ?_⟩
  obtain ⟨R2, ev2⟩ := p1.rl.write (o := .lst xs') (d := .list ds') g1 g2 q3 ⟨xs', upd_same, hxs⟩
  exact k v _ ⟨R2, p1.ev.trans ev2, fun z => by cases z⟩ (.k (hv.mono ev2.kept))
theorem eg_mut0 (pa : PlainAttrs "list") (slot : Slot "list" name id) (hty : typeOf (.builtin id) = pure (.type "method_descriptor")) (hm : MutL X id g) (ho : PE X (.Name x p) (tVar i))
    (hbase : attributeBase (.Name x p) name X.env (eval (.Name x p) X.env) = eval (.Name x p) X.env := by rfl) (hline : (apos.endLine == cpos.line) = true := by rfl) :
    EG X false .k (.Call (.Attribute (.Name x p) name apos) [] [] cpos) (mutE i g (liftA aN)) := by
  refine ⟨_, pe_bm0 pa slot hty hm ho hbase hline, fun F σ H ρ d ρ' Q R hf k => ?_⟩
  obtain ⟨c0, e0, hf⟩ := Option.bind_eq_some_iff.mp hf
  obtain ⟨d0, e0', hf⟩ := Option.bind_eq_some_iff.mp hf
  obtain ⟨⟨as, ρ1⟩, e1, hf⟩ := Option.bind_eq_some_iff.mp hf
  obtain ⟨e1, rfl⟩ := liftA_some.mp e1
  cases e1
  obtain ⟨c, e2, hf⟩ := Option.bind_eq_some_iff.mp hf
  obtain ⟨ds, e2', hf⟩ := Option.bind_eq_some_iff.mp hf
  obtain ⟨⟨r, ds'⟩, e3, hf⟩ := Option.map_eq_some_iff.mp hf
  cases hf
  have e2' := lstOf_some e2'
  subst e2'
  obtain ⟨a, s, g1, g2, g3, t1⟩ := ownd_some R e2
  obtain ⟨xs, hx, hd⟩ := top_list t1
  refine ⟨.ref a, g3, .inl ⟨rfl, xs, .of hx⟩, a, xs, _, ds, [], r, ds', rfl, hx, hd, .nil, e3, fun v xs' hv hxs => ?_⟩
  obtain ⟨R2, ev2⟩ := R.write (o := .lst xs') (d := .list ds') g1 g2 g3 ⟨xs', upd_same, hxs⟩
  exact k v _ ⟨R2, ev2, fun z => by cases z⟩ (.k (hv.mono ev2.kept))
def gAppend (ds : List D) : List D → Option (D × List D)
  | [d] => if ds.length < lim then some (.none, ds ++ [d]) else none
  | _ => none
def gPop (ds : List D) : List D → Option (D × List D)
  | [] => ds.getLast?.map fun d => (d, ds.dropLast)
  | [.int i] => (ixN ds.length i).bind fun k => ds[k]?.map fun d => (d, ds.eraseIdx k)
  | _ => none
def gReverse (ds : List D) : List D → Option (D × List D)
  | [] => some (.none, ds.reverse)
  | _ => none
theorem mu_append : MutL X "list.append" gAppend := by
  intro pins s σ H x vs v us Q I rx rv h
  obtain ⟨a, xs, G, ds, es, r, ds', rfl, hx, hd, he, hg, k⟩ := h
  match es, hg with
  | [d], hg =>
    have hg : (if ds.length < lim then some (PyData.none, ds ++ [d]) else none) = some (r, ds') := hg
    by_cases hl : ds.length < lim
    · rw [if_pos hl] at hg
      cases hg
      cases he with
      | cons h1 h2 =>
        cases h2
        exact mt_append pins s σ H _ _ v us Q I rx rv ⟨a, xs, _, rfl, rfl, hx, by rw [hd.length, sizeLine_eq]; exact hl, k _ _ .non (hd.append (.one h1))⟩
    · rw [if_neg hl] at hg
      cases hg
theorem mu_pop : MutL X "list.pop" gPop := by
  intro pins s σ H x vs v us Q I rx rv h
  obtain ⟨a, xs, G, ds, es, r, ds', rfl, hx, hd, he, hg, k⟩ := h
  have hl := hd.length
  match es, hg with
  | [], hg =>
    obtain ⟨d, e1, e2⟩ := Option.map_eq_some_iff.mp hg
    cases e2
    cases he
    rw [List.getLast?_eq_getElem?] at e1
    obtain ⟨u, h1, h2⟩ := hd.get e1
    rw [← hl] at h1
    exact mt_pop pins s σ H _ _ v us Q I rx rv ⟨a, xs, u, rfl, rfl, hx, h1, k _ _ h2 hd.dropLast⟩
  | [.int i], hg =>
    obtain ⟨j, e1, e2⟩ := Option.bind_eq_some_iff.mp hg
    obtain ⟨d, e3, e4⟩ := Option.map_eq_some_iff.mp e2
    cases e4
    obtain ⟨u, h1, h2⟩ := hd.get e3
    rw [← hl] at e1
    obtain ⟨q1, q2, q3, q4⟩ := ixN_seq e1
    obtain ⟨z, _⟩ := I.hok a _ hx
    have := line63
    have ev := dnl1 he
    exact mt_popAt pins s σ H _ _ v us Q I rx rv ⟨a, xs, i, j, u, rfl, ev, hx, by omega, by omega, q1, h1, k _ _ h2 (hd.eraseIdx j)⟩
theorem mu_reverse : MutL X "list.reverse" gReverse := by
  intro pins s σ H x vs v us Q I rx rv h
  obtain ⟨a, xs, G, ds, es, r, ds', rfl, hx, hd, he, hg, k⟩ := h
  match es, hg with
  | [], hg =>
    cases hg
    cases he
    exact mt_reverse pins s σ H _ _ v us Q I rx rv ⟨a, xs, rfl, rfl, hx, k _ _ .non hd.reverse⟩
/-! x[i] = e, of a list of the slot's own -/
def storeL (i : Nat) (fe fi : Ef) : Sf := fun ρ => (fe ρ).bind fun a => (ownd i a.2).bind fun _ => (fi a.2).bind fun b => (ownd i b.2).bind fun c => (lstOf c).bind fun ds => match b.1 with
  | .int k => (ixN ds.length k).map fun j => .nx (wr i (.list (ds.set j a.1)) b.2)
  | _ => none
theorem sg_storeL {i' : Expr} {fe fi : Ef} {m2 : Bool} {p1 : Pos} (he : EG X m .k e fe) (ho : PE X (.Name x p) (tVar i)) (hi : EG X m2 kd i' fi)
    (ha : ∀ v, assign (.Subscript (.Name x p) i' p1) X.env v = (do
      let ov ← holding [v] (eval (.Name x p) X.env)
      let iv ← holding [v, ov] (eval i' X.env)
      standAt p1
      holding [v, ov, iv] (setItem ov iv v)
      release [v, ov, iv] []) := by intro _; rfl) (hs : swapsWithSole [.Subscript (.Name x p) i' p1] e pos.line X.env = pure false := by rfl) (hw : swappedStores [.Subscript (.Name x p) i' p1] e X.env = pure none := by rfl)
    (h1 : (assignEach [.Subscript (.Name x p) i' p1] X.env).map (·.2) = [assign (.Subscript (.Name x p) i' p1) X.env] := by rfl) : SG X kr (.Assign [.Subscript (.Name x p) i' p1] e pos) (storeL i fe fi) := by
  obtain ⟨te, he1, he2⟩ := he.ex
  obtain ⟨ti, hi1, hi2⟩ := hi.ex
  refine ⟨_, ps_asg he1 (pg_sub ho hi1 set_list ha) hs hw h1, fun F σ H ρ o E R hf k => ?_⟩
  obtain ⟨⟨d, ρ1⟩, e1, hf⟩ := Option.bind_eq_some_iff.mp hf
  obtain ⟨c0, e2, hf⟩ := Option.bind_eq_some_iff.mp hf
  obtain ⟨⟨ix, ρ2⟩, e3, hf⟩ := Option.bind_eq_some_iff.mp hf
  obtain ⟨c, e4, hf⟩ := Option.bind_eq_some_iff.mp hf
  obtain ⟨ds, e5, hf⟩ := Option.bind_eq_some_iff.mp hf
  have e5 := lstOf_some e5
  subst e5
  cases ix with
  | int n =>
    obtain ⟨j, e6, e7⟩ := Option.map_eq_some_iff.mp hf
    cases e7
    refine he2 F σ H ρ d ρ1 _ R e1 fun v H1 p1 r1 => ?_
    obtain ⟨a, s0, q1, q2, q3, _⟩ := ownd_some p1.rl e2
    refine ⟨.ref a, q3, hi2 F σ H1 ρ1 _ ρ2 _ p1.rl e3 fun u H2 p2 r2 => ?_⟩
    obtain ⟨a', s, g1, g2, g3, t1⟩ := ownd_some p2.rl e4
    rw [q3] at g3
    cases g3
    obtain ⟨xs, hx, hd⟩ := top_list t1
    obtain ⟨R2, ev2⟩ := p2.rl.write (o := .lst (xs.set j v)) (d := .list (ds.set j d)) g1 g2 q3 ⟨_, upd_same, hd.set j (Dn.mono p2.ev.kept r1.vr)⟩
    exact ⟨a, xs, n, j, rfl, r2.bw.int, hx, by rw [hd.length]; exact e6, k σ _ R2 ((p1.ev.trans p2.ev).trans ev2)⟩
  | _ => cases hf
/-! name op= e, plain data -/
def IpD (X : Cx) (kd : Kd) (op : Operator) (g : D → D → Option D) : Prop :=
  PIp X op fun x y H Q => ∃ (O : Ad) (d e z : D), (∀ a, O a → Live H a) ∧ Bw X.K O H x d ∧ Bw X.K O H y e ∧ g d e = some z ∧ ∀ v H', Same H H' → Vr X.K kd O H H' v z → Q v H'
def sAug (i : Nat) (g : D → D → Option D) (fe : Ef) : Sf := fun ρ => (vP i ρ).bind fun a => (fe ρ).bind fun b => (g a b.1).bind fun z => (setP i z b.2).map .nx
theorem sg_aug {op : Operator} {g : D → D → Option D} {fe : Ef} (hN : X.N.Nodup) (hi : X.N[i]? = some x) (hx : Loc X.env.scope x) (he : EG X m kd e fe) (ho : IpD X .k op g) (hf : X.fn x = true ∨ X.env.scope.names.lookup x = some .local := by first | exact .inl rfl | exact .inr rfl | assumption) :
    SG X kr (.AugAssign (.Name x p) op e pos) (sAug i g fe) := by
  obtain ⟨te, he1, he2⟩ := he.ex
  refine ⟨_, ps_aug hN hi hx he1 ho hf, fun F σ H ρ o E R hf k => ?_⟩
  obtain ⟨d, e1, hf⟩ := Option.bind_eq_some_iff.mp hf
  obtain ⟨⟨b, ρ1⟩, e2, hf⟩ := Option.bind_eq_some_iff.mp hf
  obtain ⟨z, e3, hf⟩ := Option.bind_eq_some_iff.mp hf
  obtain ⟨ρ2, e4, hf⟩ := Option.map_eq_some_iff.mp hf
  cases hf
  unfold vP at e1
  split at e1
  · rename_i d' q
    cases e1
    obtain ⟨y, h1, v, h2, dn⟩ := R.slot i _ q
    subst h2
    refine ⟨v, h1, he2 F σ H ρ b ρ1 _ R e2 fun u H1 p1 r1 => ?_⟩
    refine ⟨Ow F σ ρ1, d, b, z, p1.rl.domL, .inl (Dn.mono p1.ev.kept dn), r1.bw, e3, fun w H2 s2 r2 => ?_⟩
    obtain ⟨R3, ev3⟩ := (p1.rl.grow s2).setPure e4 r2
    exact k _ H2 R3 ((p1.ev.trans (p1.rl.evo s2)).trans ev3)
  · cases e1
end
end DL
namespace DL
open L2 PyProof.Rows PySem PySem.Spec
/-! ## values read as data -/
section
variable {X : Cx} {pins : List (Addr × Obj)} {σ : L2.St} {H : Hp} {s : Shared}
mutual
theorem Dn.reads {G : Hp} (I : Inv X pins σ H s) (hG : Same G H) : ∀ {v : V} {d : D} {u : Value}, Dn X.K G v d → d.plain = true → RelV v u → ∃ as, Reads s.heap u d as
  | _, _, _, .non, _, r => by cases r; exact ⟨_, .none⟩
  | _, _, _, .bl b, _, r => by cases r; exact ⟨_, .bool b⟩
  | _, _, _, .int i, _, r => by obtain ⟨t, rfl⟩ := r; exact ⟨_, .int i t⟩
  | _, _, _, .str x, _, r => by obtain ⟨t, rfl⟩ := r; exact ⟨_, .str x t⟩
  | _, _, _, .lst h t, hp, r => by
    cases r
    obtain ⟨its, rv, ⟨o, n, ho, hc, _, hd⟩, _⟩ := I.list (hG.seq h)
    obtain ⟨as, hr⟩ := DnL.reads I hG t (by simpa [PyData.plain] using hp) rv
    exact ⟨_, .list ho hc hd hr⟩
  | _, _, _, .tup h t, hp, r => by
    cases r
    obtain ⟨its, rv, ⟨o, ho, hc, n, hd⟩, _⟩ := I.tuple (.of (hG _ _ h))
    obtain ⟨as, hr⟩ := DnL.reads I hG t (by simpa [PyData.plain] using hp) rv
    exact ⟨_, .tuple ho hc hd hr⟩
  | _, _, _, .dic _ _, hp, _ => by cases hp
  | _, _, _, .dct _ _, hp, _ => by cases hp
theorem DnL.reads {G : Hp} (I : Inv X pins σ H s) (hG : Same G H) : ∀ {vs : List V} {ds : List D} {us : List Value}, DnL X.K G vs ds → PyData.plainAll ds = true → Vals vs us → ∃ as, ReadsAll s.heap us ds as
  | _, _, _, .nil, _, r => by cases r; exact ⟨_, .nil⟩
  | _, _, _, .cons h t, hp, r => by
    have hp' := Bool.and_eq_true_iff.mp (show (PyData.plain _ && PyData.plainAll _) = true by simpa [PyData.plainAll] using hp)
    cases r with
    | cons r1 r2 =>
      obtain ⟨as, h1⟩ := Dn.reads I hG h hp'.1 r1
      obtain ⟨bs, h2⟩ := DnL.reads I hG t hp'.2 r2
      exact ⟨_, .cons h1 h2⟩
end
theorem Bw.reads {O : Ad} {v : V} {d : D} {u : Value} (I : Inv X pins σ H s) (h : Bw X.K O H v d) (hp : d.plain = true) (r : RelV v u) : ∃ as, Reads s.heap u d as := by
  rcases h with h | ⟨a, rfl, t⟩
  · exact Dn.reads I hide_sub h hp r
  · exact Dn.reads I (.refl _) (t.dn hide_sub) hp r
end
/-! ## == and < of data -/
/-- plain data, not deeper than forty -/
def dOk (d : D) : Bool := d.plain && Nat.ble d.depth 40
theorem dOk_iff {d : D} : dOk d = true ↔ d.plain = true ∧ d.depth ≤ 40 := by unfold dOk; rw [Bool.and_eq_true, Nat.ble_eq]
def eqD (d e : D) : Option D := if (dOk d && dOk e) = true then some (.bool (PyData.eqv d e)) else none
def neD (d e : D) : Option D := if (dOk d && dOk e) = true then some (.bool (!PyData.eqv d e)) else none
def notN : D → Bool
  | .none => false
  | _ => true
def cOk (d e : D) : Bool := PySem.W.alike d e && notN d && dOk d && dOk e
def ltD (d e : D) : Option D := if cOk d e = true then some (.bool (PySem.W.dataLt d e)) else none
def gtD (d e : D) : Option D := if cOk d e = true then some (.bool (PySem.W.dataLt e d)) else none
def leD (d e : D) : Option D := if cOk d e = true then some (.bool (!PySem.W.dataLt e d)) else none
def geD (d e : D) : Option D := if cOk d e = true then some (.bool (!PySem.W.dataLt d e)) else none
theorem ite_some {c : Prop} [Decidable c] {α : Type} {a b : α} (h : (if c then some a else none) = some b) : c ∧ a = b := by
  by_cases hc : c
  · rw [if_pos hc] at h; exact ⟨hc, Option.some.inj h⟩
  · rw [if_neg hc] at h; cases h
theorem notN_ne {d : D} (h : notN d = true) : d ≠ .none := fun e => by subst e; cases h
theorem cOk_iff {d e : D} (h : cOk d e = true) : PySem.W.alike d e = true ∧ d ≠ .none ∧ (d.plain = true ∧ d.depth ≤ 40) ∧ (e.plain = true ∧ e.depth ≤ 40) := by
  unfold cOk at h
  rw [Bool.and_eq_true, Bool.and_eq_true, Bool.and_eq_true, dOk_iff, dOk_iff] at h
  exact ⟨h.1.1.1, notN_ne h.1.1.2, h.1.2, h.2⟩
section
variable {X : Cx}
theorem od_of {f : Value → Value → Sem Value} {g : D → D → Option D} (p : D → D → Bool) (c : D → D → Bool) (hg : ∀ d e, g d e = if c d e = true then some (.bool (p d e)) else none)
    (hf : ∀ (pins : List (Addr × Obj)) (s : Shared) (σ : L2.St) (H : Hp) (O : Ad) (x y : V) (v u : Value) (d e : D) (Q : Value → Shared → Prop), Inv X pins σ H s → RelV x v → RelV y u → Bw X.K O H x d → Bw X.K O H y e → c d e = true → Q (.bool (p d e)) s → wpAny (model X.prog X.w) X.A (f v u) Q X.xe s) : OpD X .k f g := by
  intro pins s σ H x y v u Q I rx ry ⟨O, d, e, z, dom, bx, by', hz, k⟩
  rw [hg] at hz
  obtain ⟨hc, rfl⟩ := ite_some hz
  exact hf pins s σ H O x y v u d e _ I rx ry bx by' hc ⟨.bl (p d e), H, I, rfl, k _ H (.refl _) (.bl _)⟩
theorem od_eq (hu : X.A.units + 64 < cLine) : OpD X .k (compareOp .Eq) eqD := od_of (fun d e => PyData.eqv d e) (fun d e => dOk d && dOk e) (fun _ _ => rfl) fun pins s σ H O x y v u d e Q I rx ry bx by' hc q => by
  obtain ⟨h1, h2⟩ := Bool.and_eq_true_iff.mp hc
  obtain ⟨p1, l1⟩ := dOk_iff.mp h1
  obtain ⟨p2, l2⟩ := dOk_iff.mp h2
  obtain ⟨as, r1⟩ := bx.reads I p1 rx
  obtain ⟨bs, r2⟩ := by'.reads I p2 ry
  exact PySem.SeqAt.eq_plain r1 r2 p1 p2 (by omega) q
theorem od_ne (hu : X.A.units + 64 < cLine) : OpD X .k (compareOp .NotEq) neD := od_of (fun d e => !PyData.eqv d e) (fun d e => dOk d && dOk e) (fun _ _ => rfl) fun pins s σ H O x y v u d e Q I rx ry bx by' hc q => by
  obtain ⟨h1, h2⟩ := Bool.and_eq_true_iff.mp hc
  obtain ⟨p1, l1⟩ := dOk_iff.mp h1
  obtain ⟨p2, l2⟩ := dOk_iff.mp h2
  obtain ⟨as, r1⟩ := bx.reads I p1 rx
  obtain ⟨bs, r2⟩ := by'.reads I p2 ry
  exact PySem.SeqAt.ne_plain r1 r2 p1 p2 (by omega) q
theorem od_lt (hu : X.A.units + 64 < cLine) : OpD X .k (compareOp .Lt) ltD := od_of (fun d e => PySem.W.dataLt d e) cOk (fun _ _ => rfl) fun pins s σ H O x y v u d e Q I rx ry bx by' hc q => by
  obtain ⟨al, nn, ⟨p1, l1⟩, p2, l2⟩ := cOk_iff hc
  obtain ⟨as, r1⟩ := bx.reads I p1 rx
  obtain ⟨bs, r2⟩ := by'.reads I p2 ry
  exact PySem.W.lt_data r1 r2 al nn (by omega) q
theorem od_gt (hu : X.A.units + 64 < cLine) : OpD X .k (compareOp .Gt) gtD := od_of (fun d e => PySem.W.dataLt e d) cOk (fun _ _ => rfl) fun pins s σ H O x y v u d e Q I rx ry bx by' hc q => by
  obtain ⟨al, nn, ⟨p1, l1⟩, p2, l2⟩ := cOk_iff hc
  obtain ⟨as, r1⟩ := bx.reads I p1 rx
  obtain ⟨bs, r2⟩ := by'.reads I p2 ry
  exact PySem.W.gt_data r1 r2 al nn (by omega) q
theorem od_le (hu : X.A.units + 64 < cLine) : OpD X .k (compareOp .LtE) leD := od_of (fun d e => !PySem.W.dataLt e d) cOk (fun _ _ => rfl) fun pins s σ H O x y v u d e Q I rx ry bx by' hc q => by
  obtain ⟨al, nn, ⟨p1, l1⟩, p2, l2⟩ := cOk_iff hc
  obtain ⟨as, r1⟩ := bx.reads I p1 rx
  obtain ⟨bs, r2⟩ := by'.reads I p2 ry
  exact PySem.W.le_data r1 r2 al nn (by omega) q
theorem od_ge (hu : X.A.units + 64 < cLine) : OpD X .k (compareOp .GtE) geD := od_of (fun d e => !PySem.W.dataLt d e) cOk (fun _ _ => rfl) fun pins s σ H O x y v u d e Q I rx ry bx by' hc q => by
  obtain ⟨al, nn, ⟨p1, l1⟩, p2, l2⟩ := cOk_iff hc
  obtain ⟨as, r1⟩ := bx.reads I p1 rx
  obtain ⟨bs, r2⟩ := by'.reads I p2 ry
  exact PySem.W.ge_data r1 r2 al nn (by omega) q
/-- x in xs: a list or a tuple; a text in a text -/
def inD' : D → D → Option Bool
  | d, .list es => if (dOk d && dOk (.list es)) = true then some (es.any fun y => PyData.eqv y d) else none
  | d, .tuple es => if (dOk d && dOk (.tuple es)) = true then some (es.any fun y => PyData.eqv y d) else none
  | .str a, .str b => some (!(Builtin.Str.occurrences b a 0 b.length 1).isEmpty)
  | _, _ => none
def inD (d e : D) : Option D := (inD' d e).map fun b => .bool b
def ninD (d e : D) : Option D := (inD' d e).map fun b => .bool (!b)
theorem depthList {es : List D} (h : PyData.depth (.list es) ≤ 40) : PyData.depthAll es ≤ 39 := by
  simp only [PyData.depth] at h
  omega
theorem depthTup {es : List D} (h : PyData.depth (.tuple es) ≤ 40) : PyData.depthAll es ≤ 39 := by
  simp only [PyData.depth] at h
  omega
theorem od_in (hu : X.A.units + 64 < cLine) : OpD X .k (compareOp .In) inD := by
  intro pins s σ H x y v u Q I rx ry ⟨O, d, e, z, dom, bx, by', hz, k⟩
  obtain ⟨b, e1, rfl⟩ := Option.map_eq_some_iff.mp hz
  have fin : L2.EP X pins σ Q (.bool b) s := ⟨.bl b, H, I, rfl, k _ H (.refl _) (.bl _)⟩
  have seq : ∀ es, (e = .list es ∨ e = .tuple es) → (dOk d && dOk e) = true → b = (es.any fun y => PyData.eqv y d) → wpAny (model X.prog X.w) X.A (compareOp .In v u) (L2.EP X pins σ Q) X.xe s := fun es he hc hb => by
    obtain ⟨h1, h2⟩ := Bool.and_eq_true_iff.mp hc
    obtain ⟨p1, l1⟩ := dOk_iff.mp h1
    obtain ⟨p2, l2⟩ := dOk_iff.mp h2
    obtain ⟨as, r1⟩ := bx.reads I p1 rx
    obtain ⟨bs, r2⟩ := by'.reads I p2 ry
    rw [hb] at fin
    rcases he with rfl | rfl
    · have := depthList l2
      exact PySem.SeqAt.in_list_data r2 r1 (by simpa [PyData.plain] using p2) p1 (by omega) fin
    · have := depthTup l2
      exact PySem.SeqAt.in_tuple_data r2 r1 (by simpa [PyData.plain] using p2) p1 (by omega) fin
  cases e with
  | list es =>
    have e1 : (if (dOk d && dOk (.list es)) = true then some (es.any fun y => PyData.eqv y d) else none) = some b := by cases d <;> exact e1
    obtain ⟨hc, hb⟩ := ite_some e1
    exact seq es (.inl rfl) hc hb.symm
  | tuple es =>
    have e1 : (if (dOk d && dOk (.tuple es)) = true then some (es.any fun y => PyData.eqv y d) else none) = some b := by cases d <;> exact e1
    obtain ⟨hc, hb⟩ := ite_some e1
    exact seq es (.inr rfl) hc hb.symm
  | str b' =>
    cases d with
    | str a' =>
      cases e1
      exact op_in_str pins s σ H x y v u Q I rx ry ⟨a', b', bx.str, by'.str, k _ H (.refl _) (.bl _)⟩
    | _ => cases e1
  | _ => cases d <;> cases e1
theorem od_nin (hu : X.A.units + 64 < cLine) : OpD X .k (compareOp .NotIn) ninD := by
  intro pins s σ H x y v u Q I rx ry ⟨O, d, e, z, dom, bx, by', hz, k⟩
  obtain ⟨b, e1, rfl⟩ := Option.map_eq_some_iff.mp hz
  have fin : L2.EP X pins σ Q (.bool (!b)) s := ⟨.bl (!b), H, I, rfl, k _ H (.refl _) (.bl _)⟩
  have seq : ∀ es, (e = .list es ∨ e = .tuple es) → (dOk d && dOk e) = true → b = (es.any fun y => PyData.eqv y d) → wpAny (model X.prog X.w) X.A (compareOp .NotIn v u) (L2.EP X pins σ Q) X.xe s := fun es he hc hb => by
    obtain ⟨h1, h2⟩ := Bool.and_eq_true_iff.mp hc
    obtain ⟨p1, l1⟩ := dOk_iff.mp h1
    obtain ⟨p2, l2⟩ := dOk_iff.mp h2
    obtain ⟨as, r1⟩ := bx.reads I p1 rx
    obtain ⟨bs, r2⟩ := by'.reads I p2 ry
    rw [hb] at fin
    rcases he with rfl | rfl
    · have := depthList l2
      exact PySem.SeqAt.notIn_list_data r2 r1 (by simpa [PyData.plain] using p2) p1 (by omega) fin
    · have := depthTup l2
      exact PySem.SeqAt.notIn_tuple_data r2 r1 (by simpa [PyData.plain] using p2) p1 (by omega) fin
  cases e with
  | list es =>
    have e1 : (if (dOk d && dOk (.list es)) = true then some (es.any fun y => PyData.eqv y d) else none) = some b := by cases d <;> exact e1
    obtain ⟨hc, hb⟩ := ite_some e1
    exact seq es (.inl rfl) hc hb.symm
  | tuple es =>
    have e1 : (if (dOk d && dOk (.tuple es)) = true then some (es.any fun y => PyData.eqv y d) else none) = some b := by cases d <;> exact e1
    obtain ⟨hc, hb⟩ := ite_some e1
    exact seq es (.inr rfl) hc hb.symm
  | str b' =>
    cases d with
    | str a' =>
      cases e1
      exact L2.op_notIn_str pins s σ H x y v u Q I rx ry ⟨a', b', bx.str, by'.str, k _ H (.refl _) (.bl _)⟩
    | _ => cases e1
  | _ => cases d <;> cases e1
/-- is None -/
def isN (d e : D) : Option D := match e with
  | .none => some (.bool (!notN d))
  | _ => none
def isNN (d e : D) : Option D := match e with
  | .none => some (.bool (notN d))
  | _ => none
theorem bw_non {K : Fg} {O : Ad} {H : Hp} {v : V} {d : D} (h : Bw K O H v d) : decide (v = V.non) = !notN d := by
  rcases h with h | ⟨a, rfl, t⟩
  · cases h <;> rfl
  · cases d <;> first | rfl | exact t.elim
theorem od_is : OpD X .k (compareOp .Is) isN := by
  intro pins s σ H x y v u Q I rx ry ⟨O, d, e, z, dom, bx, by', hz, k⟩
  cases e with
  | none =>
    cases hz
    refine op_isN pins s σ H x y v u Q I rx ry ⟨by'.none_, ?_⟩
    rw [bw_non bx]
    exact k _ H (.refl _) (.bl _)
  | _ => cases hz
theorem od_isnot : OpD X .k (compareOp .IsNot) isNN := by
  intro pins s σ H x y v u Q I rx ry ⟨O, d, e, z, dom, bx, by', hz, k⟩
  cases e with
  | none =>
    cases hz
    refine op_notN pins s σ H x y v u Q I rx ry ⟨by'.none_, ?_⟩
    rw [bw_non bx, Bool.not_not]
    exact k _ H (.refl _) (.bl _)
  | _ => cases hz
end
end DL
namespace DL
open L2 PyProof.Rows PySem PySem.Spec
/-! ## arithmetic, joining -/
theorem lim_ble {n : Nat} (h : Nat.ble n lim = true) : n ≤ sizeLine := lim_line (Nat.le_of_ble_eq_true h)
def isF : Kd → Prop
  | .b => False
  | _ => True
theorem newL {K : Fg} {kd : Kd} (hk : isF kd) {O : Ad} {H : Hp} {p : Addr} {xs : List V} {ds : List D} (h : H p = none) (dom : ∀ a, O a → Live H a) (t : DnL K (hide H O) xs ds) : Vr K kd O H (upd H p (.lst xs)) (.ref p) (.list ds) := by
  have f := fresh_list (H0 := H) h (fun _ h => h) (fun z => (dom p z).ne h) t
  cases kd with
  | k => exact Vr.weak f
  | f => exact f
  | b => exact hk.elim
theorem newT {K : Fg} {O : Ad} {H H0 : Hp} {p : Addr} {xs : List V} {ds : List D} (h : H p = none) (dom : ∀ a, O a → Live H a) (t : DnL K (hide H O) xs ds) : Vr K .k O H0 (upd H p (.tup xs)) (.ref p) (.tuple ds) :=
  new_tuple h (fun z => (dom p z).ne h) t
def addD : D → D → Option D
  | .int i, .int j => some (.int (i + j))
  | .str a, .str b => if Nat.ble (a.length + b.length) lim = true then some (.str (a ++ b)) else none
  | .tuple a, .tuple b => if Nat.ble (a.length + b.length) lim = true then some (.tuple (a ++ b)) else none
  | .list a, .list b => if Nat.ble (a.length + b.length) lim = true then some (.list (a ++ b)) else none
  | _, _ => none
/-- list + list: a new one -/
def catD : D → D → Option D
  | .list a, .list b => if Nat.ble (a.length + b.length) lim = true then some (.list (a ++ b)) else none
  | _, _ => none
/-! list + list, list * int of any lists that are read -/
theorem add_meets (l : Addr) (items : Array Value) (n : Nat) (dd : Option Addr) (sl : Array (Option Value)) (b : Addr) (items2 : Array Value) (n2 : Nat) (dd2 : Option Addr) (sl2 : Array (Option Value)) (hc0 : items.size + items2.size ≤ sizeLine) :
    Meets (Builtin.«list.__add__» ⟨[.ref l, .ref b], []⟩) (fun _ R s => s.heap.get? l = some { cls := .type "list", dict := dd, data := .seq items n, slots := sl } ∧ s.heap.get? b = some { cls := .type "list", dict := dd2, data := .seq items2 n2, slots := sl2 } ∧
      R (.ok (.ret (Value.ref s.heap.objs.size))) { s with heap := s.heap.push { cls := Value.type "list", data := Data.seq (items ++ items2) }, toks := s.toks }) :=
  .of_wp fun prog w A R s h => by
    obtain ⟨hp, g, d, tk, os⟩ := s
    obtain ⟨hl, hb, h⟩ := h
    have f1 := AutoSeq1.idx_int
    have f2 := AutoSeq1.sub_tuple_tuple
    have f3 := AutoSeq1.sub_list_list
    have f4 := AutoSeq1.sub_tuple_list
    have f5 := AutoSeq1.sub_list_tuple
    wp_walk using AutoSeq1.wpAny_loadPart' hl, AutoSeq1.wpAny_loadPart' hb
    exact ⟨_, rfl, h⟩
theorem rmul_meets (a : Int) (t : Tok) (l : Addr) (items : Array Value) (n : Nat) (dd : Option Addr) (sl : Array (Option Value)) :
    Meets (Builtin.«int.__rmul__» ⟨[.int a t, .ref l], []⟩) (fun _ R s => s.heap.get? l = some { cls := .type "list", dict := dd, data := .seq items n, slots := sl } ∧ R (.ok (.ret Value.notImplemented)) s) :=
  .of_wp fun prog w A R s h => by
    obtain ⟨hp, g, d, tk, os⟩ := s
    obtain ⟨hl, h⟩ := h
    wp_walk using AutoSeq1.wpAny_loadPart' hl
    exact ⟨_, rfl, h⟩
theorem mul_meets (l : Addr) (items : Array Value) (n : Nat) (dd : Option Addr) (sl : Array (Option Value)) (x : Int) (u : Tok) (hc0 : ¬(!Builtin.List.listFitsIndex x) = true) (hc1 : ¬items.size * x.toNat > (2 ^ 63 - 1) / 8) (hc2 : ¬Builtin.List.listTooLong (items.size * x.toNat) = true)
    (hsz : (List.foldl (fun x1 x2 => x1 ++ x2) #[] (List.replicate (if items.isEmpty = true then 0 else x.toNat) items)).size ≤ sizeLine) :
    Meets (Builtin.«list.__mul__» ⟨[.ref l, .int x u], []⟩) (fun _ R s => s.heap.get? l = some { cls := .type "list", dict := dd, data := .seq items n, slots := sl } ∧
      R (.ok (.ret (Value.ref s.heap.objs.size))) { s with heap := s.heap.push { cls := Value.type "list", data := Data.seq (List.foldl (fun x1 x2 => x1 ++ x2) #[] (List.replicate (if items.isEmpty = true then 0 else x.toNat) items)) }, toks := s.toks }) :=
  .of_wp fun prog w A R s h => by
    obtain ⟨hp, g, d, tk, os⟩ := s
    obtain ⟨hl, h⟩ := h
    wp_walk using AutoSeq1.wpAny_loadPart' hl
    refine wpAny_ite_false (decide_eq_false (Nat.not_lt.mpr hsz)) ?_
    wp_walk using AutoSeq1.wpAny_loadPart' hl
    exact ⟨_, rfl, h⟩
section
variable {X : Cx}
def rCatL (K : Fg) : R2 := fun x y H Q => ∃ l b xs zs, x = .ref l ∧ y = .ref b ∧ SqL K H l xs ∧ SqL K H b zs ∧ xs.length + zs.length ≤ sizeLine ∧ ∀ p, H p = none → Q (.ref p) (upd H p (.lst (xs ++ zs)))
theorem op_catL : OpR X (binaryOp .Add) (rCatL X.K) := by
  intro pins s σ H x y v u Q I rx ry h
  obtain ⟨l, b, xs, zs, rfl, rfl, hH, hB, hz, q⟩ := h
  cases rx
  cases ry
  obtain ⟨its, r, ⟨⟨c1, dd, d1, sl⟩, n, e, k1, _, k2⟩, z⟩ := I.list hH
  obtain ⟨its2, r2, ⟨⟨c2, dd2, d2, sl2⟩, n2, e2, k3, _, k4⟩, z2⟩ := I.list hB
  simp only at k1 k2 k3 k4
  subst k1 k2 k3 k4
  have l1 := r.length
  have l2 := r2.length
  refine concat_meets ⟨_, e, rfl⟩ ⟨_, e2, rfl⟩ noFill_list_add seq_list_add F.slot_list_add F.entry_list_add (F.args_list_add_2 _ _) (add_meets l its.toArray n dd sl b its2.toArray n2 dd2 sl2 (by rw [List.size_toArray, List.size_toArray]; omega)) ⟨e, e2, ?_⟩
  have ea : its.toArray ++ its2.toArray = (its ++ its2).toArray := by simp
  rw [ea]
  exact ⟨.ref _, _, I.lnew (t' := s.toks) (r.append r2) (by rw [List.length_append]; omega), rfl, q _ I.fresh⟩
def rRepL (K : Fg) : R2 := fun x y H Q => ∃ l k xs, x = .ref l ∧ y = .int k ∧ SqL K H l xs ∧ -(2 ^ 63) ≤ k ∧ k < 2 ^ 63 ∧ xs.length * k.toNat ≤ sizeLine ∧
  ∀ p, H p = none → Q (.ref p) (upd H p (.lst (List.replicate k.toNat xs).flatten))
theorem op_repL : OpR X (binaryOp .Mult) (rRepL X.K) := by
  intro pins s σ H x y v u Q I rx ry h
  obtain ⟨l, k, xs, rfl, rfl, hH, h1, h2, hz, q⟩ := h
  cases rx
  obtain ⟨t, rfl⟩ := ry
  obtain ⟨its, r, ⟨⟨c1, dd, d1, sl⟩, n, e, k1, _, k2⟩, z⟩ := I.list hH
  simp only at k1 k2
  subst k1 k2
  have hl := r.length
  have hlen : its.toArray.size * k.toNat ≤ sizeLine := by rw [List.size_toArray, ← hl]; exact hz
  have hcap : ¬ its.toArray.size * k.toNat > (2 ^ 63 - 1) / 8 := by
    have : (sizeLine : Nat) ≤ (2 ^ 63 - 1) / 8 := by decide
    omega
  have hfit : ¬ (!Builtin.List.listFitsIndex k) = true := by
    rw [fitsIndex_both h1 h2]
    exact Bool.false_ne_true
  have hlong : ¬ Builtin.List.listTooLong (its.toArray.size * k.toNat) = true := by
    rw [notLongL hlen]
    exact Bool.false_ne_true
  have hnew : List.foldl (fun x1 x2 => x1 ++ x2) #[] (List.replicate (if its.toArray.isEmpty = true then 0 else k.toNat) its.toArray) = (List.replicate k.toNat its).flatten.toArray := by
    have f0 : ∀ m : Nat, List.foldl (fun x1 x2 => x1 ++ x2) #[] (List.replicate m its.toArray) = (List.replicate m its).flatten.toArray := fun m => by
      have := foldl_rep its m []
      rw [List.nil_append] at this
      exact this
    rw [f0]
    cases its with
    | nil => simp
    | cons a r' => rw [if_neg (by simp)]
  refine wpAny_binaryOp_repeat_ref (T := "list") (U := "int") (by decide) ⟨_, e, rfl⟩ (fun s' => typeIs_int s' k t) noFill_list_mul F.fills_int_mul F.slot_int_rmul repeat_list F.slot_int_index.lookup
    (call_meets F.slot_int_rmul (typeIs_int s k t) F.entry_int_rmul (F.args_int_rmul_2 _ _) (rmul_meets k t l its.toArray n dd sl)
      ⟨e, rfl, ⟨_, e, rfl⟩, call_meets F.slot_list_mul ⟨_, e, rfl⟩ F.entry_list_mul (F.args_list_mul_2 _ _) (mul_meets l its.toArray n dd sl k t hfit hcap hlong (by
        rw [hnew, List.size_toArray, PyProof.Rows.lm_len_rep_flat, Nat.mul_comm, ← hl]; exact hz)) ⟨e, ?_⟩⟩)
  rw [hnew]
  exact ⟨.ref _, _, I.lnew (t' := s.toks) (r.rep k.toNat) (by rw [PyProof.Rows.lm_len_rep_flat, Nat.mul_comm]; exact hz), rfl, q _ I.fresh⟩
theorem od_cat {kd : Kd} (hk : isF kd) : OpD X kd (binaryOp .Add) catD := by
  intro pins s σ H x y v u Q I rx ry ⟨O, d, e, z, dom, bx, by', hz, k⟩
  unfold catD at hz
  split at hz
  · obtain ⟨hl, rfl⟩ := ite_some hz
    obtain ⟨l, xs, rfl, h1, t1⟩ := bx.list
    obtain ⟨b, ys, rfl, h2, t2⟩ := by'.list
    exact op_catL pins s σ H _ _ v u Q I rx ry ⟨l, b, xs, ys, rfl, rfl, h1, h2, by rw [t1.length, t2.length]; exact lim_ble hl, fun p hp => k _ _ (sameNew hp) (newL hk hp dom (t1.append t2))⟩
  · cases hz
theorem od_add : OpD X .k (binaryOp .Add) addD := by
  intro pins s σ H x y v u Q I rx ry ⟨O, d, e, z, dom, bx, by', hz, k⟩
  unfold addD at hz
  split at hz
  · cases hz
    have e1 := bx.int
    have e2 := by'.int
    subst e1 e2
    exact op_add pins s σ H _ _ v u Q I rx ry ⟨_, _, rfl, rfl, k _ H (.refl _) (.int _)⟩
  · obtain ⟨hl, rfl⟩ := ite_some hz
    exact op_add_str pins s σ H _ _ v u Q I rx ry ⟨_, _, bx.str, by'.str, lim_ble hl, k _ H (.refl _) (.str _)⟩
  · obtain ⟨hl, rfl⟩ := ite_some hz
    obtain ⟨a, xs, rfl, h1, t1⟩ := bx.tuple
    obtain ⟨b, ys, rfl, h2, t2⟩ := by'.tuple
    refine op_catA pins s σ H _ _ v u Q I rx ry ⟨a, b, xs, ys, rfl, rfl, .of (hide_sub _ _ h1), .of (hide_sub _ _ h2), by rw [t1.length, t2.length]; exact lim_ble hl, fun hx => ?_, fun _ hy => ?_, fun _ _ p hp => k _ _ (sameNew hp) (newT hp dom (t1.append t2))⟩
    · refine k _ H (.refl _) (.tup h2 ?_)
      have := t1.append t2
      rw [hx] at this
      exact this
    · refine k _ H (.refl _) (.tup h1 ?_)
      have := t1.append t2
      rw [hy, List.append_nil] at this
      exact this
  · rename_i a b
    exact od_cat (kd := .k) trivial pins s σ H x y v u Q I rx ry ⟨O, .list a, .list b, z, dom, bx, by', hz, k⟩
  · cases hz
/-- an operation on two ints -/
theorem od_int {f : Value → Value → Sem Value} {g : D → D → Option D} {r : R2} (c : Int → Int → Bool) (p : Int → Int → Int) (hg : ∀ d e z, g d e = some z → ∃ i j, d = .int i ∧ e = .int j ∧ c i j = true ∧ z = .int (p i j)) (hr : OpR X f r)
    (h : ∀ i j H Q, c i j = true → Q (.int (p i j)) H → r (.int i) (.int j) H Q) : OpD X .k f g := by
  intro pins s σ H x y v u Q I rx ry ⟨O, d, e, z, dom, bx, by', hz, k⟩
  obtain ⟨i, j, rfl, rfl, hc, rfl⟩ := hg _ _ _ hz
  have e1 := bx.int
  have e2 := by'.int
  subst e1 e2
  exact hr pins s σ H _ _ v u Q I rx ry (h i j H Q hc (k _ H (.refl _) (.int _)))
def onI (c : Int → Int → Bool) (p : Int → Int → Int) : D → D → Option D
  | .int i, .int j => if c i j = true then some (.int (p i j)) else none
  | _, _ => none
theorem onI_some {c : Int → Int → Bool} {p : Int → Int → Int} {d e z : D} (h : onI c p d e = some z) : ∃ i j, d = .int i ∧ e = .int j ∧ c i j = true ∧ z = .int (p i j) := by
  unfold onI at h
  split at h
  · obtain ⟨hc, rfl⟩ := ite_some h
    exact ⟨_, _, rfl, rfl, hc, rfl⟩
  · cases h
def subD : D → D → Option D := onI (fun _ _ => true) fun i j => i - j
theorem od_sub : OpD X .k (binaryOp .Sub) subD := od_int _ _ (fun _ _ _ h => onI_some h) op_sub fun i j H Q _ q => ⟨i, j, rfl, rfl, q⟩
def divOk (_ j : Int) : Bool := decide (0 < j) && (Nat.blt j.natAbs 1073741824 || Nat.blt j.natAbs.log2 9000)
theorem divOk_w {i j : Int} (h : divOk i j = true) : CDivW i j := by
  unfold divOk at h
  rw [Bool.and_eq_true, Bool.or_eq_true, decide_eq_true_iff, Nat.blt_eq, Nat.blt_eq] at h
  refine ⟨h.1, ?_⟩
  rcases h.2 with q | q
  · have : j.natAbs < 2 ^ 30 := by omega
    have := PySem.Flt.log2_lt_of (by decide) this
    omega
  · exact q
def divD : D → D → Option D := onI divOk fun i j => i / j
theorem od_div : OpD X .k (binaryOp .FloorDiv) divD := od_int _ _ (fun _ _ _ h => onI_some h) op_fdivW fun i j H Q c q => ⟨i, j, rfl, rfl, divOk_w c, q⟩
def modD : D → D → Option D := onI (fun _ j => decide (0 < j)) fun i j => i % j
theorem od_mod : OpD X .k (binaryOp .Mod) modD := od_int _ _ (fun _ _ _ h => onI_some h) op_mod fun i j H Q c q => ⟨i, j, rfl, rfl, of_decide_eq_true c, q⟩
def powOk (i j : Int) : Bool := decide (0 ≤ j) && Nat.ble j.natAbs 1000000 && Nat.blt i.natAbs 18446744073709551616
def powD : D → D → Option D := onI powOk fun i j => i ^ j.toNat
theorem od_pow : OpD X .k (binaryOp .Pow) powD := od_int _ _ (fun _ _ _ h => onI_some h) op_pow fun i j H Q c q => by
  unfold powOk at c
  rw [Bool.and_eq_true, Bool.and_eq_true, decide_eq_true_iff, Nat.ble_eq, Nat.blt_eq] at c
  exact ⟨i, j, rfl, rfl, ⟨c.1.1, by omega, by omega⟩, q⟩
def mulOk (i j : Int) : Bool := Nat.blt i.natAbs 18446744073709551616 || Nat.blt j.natAbs 18446744073709551616 || Nat.blt (i.natAbs.log2 + j.natAbs.log2) 1000000
def rep {α : Type} (k : Int) (xs : List α) : List α := (List.replicate k.toNat xs).flatten
def repOk (n : Nat) (k : Int) : Bool := Nat.ble k.natAbs 1000000 && Nat.ble (n * k.toNat) lim
def mulD : D → D → Option D
  | .int i, .int j => if mulOk i j = true then some (.int (i * j)) else none
  | .list xs, .int k => if repOk xs.length k = true then some (.list (rep k xs)) else none
  | _, _ => none
def repD : D → D → Option D
  | .list xs, .int k => if repOk xs.length k = true then some (.list (rep k xs)) else none
  | _, _ => none
theorem od_mulL {kd : Kd} (hk : isF kd) : OpD X kd (binaryOp .Mult) repD := by
  intro pins s σ H x y v u Q I rx ry ⟨O, d, e, z, dom, bx, by', hz, k⟩
  unfold repD at hz
  split at hz
  · obtain ⟨hl, rfl⟩ := ite_some hz
    unfold repOk at hl
    rw [Bool.and_eq_true, Nat.ble_eq] at hl
    obtain ⟨l, ys, rfl, h1, t1⟩ := bx.list
    have e2 := by'.int
    subst e2
    exact op_repL pins s σ H _ _ v u Q I rx ry ⟨l, _, ys, rfl, rfl, h1, by omega, by omega, by rw [t1.length]; exact lim_ble hl.2, fun p hp => k _ _ (sameNew hp) (newL hk hp dom (t1.rep _))⟩
  · cases hz
theorem od_mul : OpD X .k (binaryOp .Mult) mulD := by
  intro pins s σ H x y v u Q I rx ry ⟨O, d, e, z, dom, bx, by', hz, k⟩
  unfold mulD at hz
  split at hz
  · obtain ⟨hc, rfl⟩ := ite_some hz
    have e1 := bx.int
    have e2 := by'.int
    subst e1 e2
    have q := k _ H (.refl _) (.int _)
    unfold mulOk at hc
    rw [Bool.or_eq_true, Bool.or_eq_true, Nat.blt_eq, Nat.blt_eq, Nat.blt_eq] at hc
    rcases hc with (hc | hc) | hc
    · exact op_mul pins s σ H _ _ v u Q I rx ry ⟨_, _, rfl, rfl, .inl ⟨by omega, by omega⟩, q⟩
    · exact op_mul pins s σ H _ _ v u Q I rx ry ⟨_, _, rfl, rfl, .inr ⟨by omega, by omega⟩, q⟩
    · exact op_mulW pins s σ H _ _ v u Q I rx ry ⟨_, _, rfl, rfl, hc, q⟩
  · exact od_mulL (kd := .k) trivial pins s σ H x y v u Q I rx ry ⟨O, _, _, z, dom, bx, by', hz, k⟩
  · cases hz
def negD : D → Option D
  | .int i => some (.int (-i))
  | _ => none
theorem ud_neg : UnD X .k (unaryOp .USub) negD := by
  intro pins s σ H x v Q I rx ⟨O, d, z, dom, bx, hz, k⟩
  unfold negD at hz
  split at hz
  · cases hz
    have e1 := bx.int
    subst e1
    exact un_neg pins s σ H _ v Q I rx ⟨_, rfl, k _ H (.refl _) (.int _)⟩
  · cases hz
/-! ## a[i], a[lo:hi] -/
def ixD : D → D → Option D
  | .list xs, .int i => atI xs i
  | .tuple xs, .int i => atI xs i
  | .str z, .int i => if Nat.ble z.length lim = true then (atI z.cps.toList i).map fun c => .str ⟨#[c]⟩ else none
  | _, _ => none
theorem DnL.atI {K : Fg} {G : Hp} {xs : List V} {ds : List D} {i : Int} {z : D} (t : DnL K G xs ds) (h : atI ds i = some z) : ∃ v, L2.atI xs i = some v ∧ Dn K G v z := by
  unfold L2.atI at h ⊢
  rw [t.length]
  obtain ⟨j, h1, h2⟩ := Option.bind_eq_some_iff.mp h
  obtain ⟨u, e1, e2⟩ := t.get h2
  exact ⟨u, Option.bind_eq_some_iff.mpr ⟨j, h1, e1⟩, e2⟩
theorem ix_d : IxD X .k ixD := by
  intro value slice pins s σ H x y v u Q I rx ry ⟨O, d, e, z, dom, bx, by', hz, k⟩ hs
  unfold ixD at hz
  split at hz
  · have e2 := by'.int
    subst e2
    obtain ⟨l, xs, rfl, h1, t1⟩ := bx.list
    obtain ⟨w, e1, e2⟩ := t1.atI hz
    exact ix_seq value slice pins s σ H _ _ v u Q I rx ry (.inl ⟨l, xs, _, w, rfl, rfl, h1, e1, k _ H (.refl _) e2⟩) hs
  · have e2 := by'.int
    subst e2
    obtain ⟨l, xs, rfl, h1, t1⟩ := bx.tuple
    obtain ⟨w, e1, e2⟩ := t1.atI hz
    exact ix_seq value slice pins s σ H _ _ v u Q I rx ry (.inr (.inl ⟨l, xs, _, w, rfl, rfl, .of (hide_sub _ _ h1), e1, k _ H (.refl _) e2⟩)) hs
  · have e2 := by'.int
    subst e2
    obtain ⟨hl, hz⟩ := (show Nat.ble _ lim = true ∧ _ from by
      split at hz
      · rename_i h; exact ⟨h, hz⟩
      · cases hz)
    obtain ⟨c, hc, rfl⟩ := Option.map_eq_some_iff.mp hz
    exact ix_seq value slice pins s σ H _ _ v u Q I rx ry (.inr (.inr ⟨_, _, c, bx.str, rfl, lim_ble hl, hc, k _ H (.refl _) (.str _)⟩)) hs
  · cases hz
/-- the part lo:hi -/
def cutD {α : Type} (xs : List α) (lo hi : Option Int) : List α := (xs.drop (HT.sIx xs.length 0 lo)).take (HT.sIx xs.length xs.length hi - HT.sIx xs.length 0 lo)
theorem DnL.cut {K : Fg} {G : Hp} {xs : List V} {ds : List D} (t : DnL K G xs ds) (lo hi : Option Int) : DnL K G (cutV xs lo hi) (cutD ds lo hi) := by
  unfold cutV cutD
  rw [t.length]
  exact (t.drop _).take _
def slD (d : D) (lo hi : Option Int) : Option D := match d with
  | .list xs => some (.list (cutD xs lo hi))
  | .tuple xs => some (.tuple (cutD xs lo hi))
  | .str z => if Nat.ble z.length lim = true then some (.str (cutS z lo hi)) else none
  | _ => none
def slL (d : D) (lo hi : Option Int) : Option D := match d with
  | .list xs => some (.list (cutD xs lo hi))
  | _ => none
def SlD (X : Cx) (kd : Kd) (g : D → Option Int → Option Int → Option D) : Prop :=
  SlR X fun x lo hi H Q => ∃ (O : Ad) (d z : D), (∀ a, O a → Live H a) ∧ Bw X.K O H x d ∧ g d lo hi = some z ∧ ∀ v H', Same H H' → Vr X.K kd O H H' v z → Q v H'
theorem sl_L {kd : Kd} (hk : isF kd) : SlD X kd slL := by
  intro pins s σ H x v vl vu lo hi sl Q I rx hs pl pu ⟨O, d, z, dom, bx, hz, k⟩
  unfold slL at hz
  split at hz
  · cases hz
    obtain ⟨l, xs, rfl, h1, t1⟩ := bx.list
    exact sl_list pins s σ H _ v vl vu lo hi sl Q I rx hs pl pu ⟨l, xs, rfl, h1, fun p hp => k _ _ (sameNew hp) (newL hk hp dom (t1.cut lo hi))⟩
  · cases hz
theorem sl_d : SlD X .k slD := by
  intro pins s σ H x v vl vu lo hi sl Q I rx hs pl pu ⟨O, d, z, dom, bx, hz, k⟩
  unfold slD at hz
  split at hz
  · exact sl_L (kd := .k) trivial pins s σ H x v vl vu lo hi sl Q I rx hs pl pu ⟨O, _, z, dom, bx, hz, k⟩
  · cases hz
    obtain ⟨l, xs, rfl, h1, t1⟩ := bx.tuple
    refine sl_tupA pins s σ H _ v vl vu lo hi sl Q I rx hs pl pu ⟨l, xs, rfl, .of (hide_sub _ _ h1), fun hw => ?_, fun _ p hp => k _ _ (sameNew hp) (newT hp dom (t1.cut lo hi))⟩
    refine k _ H (.refl _) (.tup h1 ?_)
    rw [t1.length] at hw
    unfold cutD
    rw [hw.1, hw.2, List.drop_zero, Nat.sub_zero, List.take_length]
    exact t1
  · obtain ⟨hl, rfl⟩ := ite_some hz
    exact sl_str pins s σ H _ v vl vu lo hi sl Q I rx hs pl pu ⟨_, bx.str, lim_ble hl, k _ H (.refl _) (.str _)⟩
  · cases hz
/-- a part's bound -/
def oN : Rho → Option (Option Int) := fun _ => some none
def intOf : D → Option Int
  | .int i => some i
  | _ => none
theorem intOf_some {d : D} {i : Int} (h : intOf d = some i) : d = .int i := by
  cases d <;> simp [intOf] at h
  rw [h]
def oI (f : Rho → Option D) : Rho → Option (Option Int) := fun ρ => (f ρ).bind fun d => (intOf d).map some
structure OG (X : Cx) (e : Option Expr) (f : Rho → Option (Option Int)) : Prop where
  ex : ∃ t : TO, PO X e t ∧ ∀ (F : Fx) (σ : L2.St) (H : Hp) (ρ : Rho) (o : Option Int) (Q : Option Int → Hp → Prop), Rl X.K F σ H ρ → f ρ = some o →
    (∀ H', Rl X.K F σ H' ρ → Same H H' → Q o H') → t σ H Q
theorem og_none : OG X none oN := ⟨_, po_none, fun F σ H ρ o Q R hf k => by cases hf; exact k H R (.refl _)⟩
theorem og_some {e : Expr} {kd : Kd} {f : Rho → Option D} (h : EP X kd e f) : OG X (some e) (oI f) := by
  obtain ⟨t, h1, h2⟩ := h.ex
  refine ⟨_, po_some h1, fun F σ H ρ o Q R hf k => ?_⟩
  obtain ⟨d, e1, e2⟩ := Option.bind_eq_some_iff.mp hf
  obtain ⟨i, e3, e4⟩ := Option.map_eq_some_iff.mp e2
  have e5 := intOf_some e3
  subst e5 e4
  refine h2 F σ H ρ _ ρ _ R (lift_some.mpr ⟨e1, rfl⟩) fun v H' p r => ?_
  exact ⟨i, r.bw.int, k H' p.rl (p.pu rfl).2⟩
def puS (g : D → Option Int → Option Int → Option D) (fa : Rho → Option D) (fl fh : Rho → Option (Option Int)) : Rho → Option D := fun ρ => (fa ρ).bind fun a => (fl ρ).bind fun l => (fh ρ).bind fun h => g a l h
theorem ep_sl {kd k1 : Kd} {g : D → Option Int → Option Int → Option D} {a : Expr} {lo hi : Option Expr} {fa : Rho → Option D} {fl fh : Rho → Option (Option Int)} {p2 pos : Pos} (hg : SlD X kd g) (ha : EP X k1 a fa) (hl : OG X lo fl) (hh : OG X hi fh) : EP X kd (.Subscript a (.Slice lo hi none p2) pos) (puS g fa fl fh) := by
  obtain ⟨ta, ha1, ha2⟩ := ha.ex
  obtain ⟨tl, hl1, hl2⟩ := hl.ex
  obtain ⟨th, hh1, hh2⟩ := hh.ex
  refine ⟨_, pe_slice hg ha1 hl1 hh1, fun F σ H ρ d ρ' Q R hf k => ?_⟩
  obtain ⟨hf, rfl⟩ := lift_some.mp hf
  obtain ⟨x, e1, hf⟩ := Option.bind_eq_some_iff.mp hf
  obtain ⟨l, e2, hf⟩ := Option.bind_eq_some_iff.mp hf
  obtain ⟨h, e3, hf⟩ := Option.bind_eq_some_iff.mp hf
  refine ha2 F σ H ρ' x ρ' _ R (lift_some.mpr ⟨e1, rfl⟩) fun v H1 p1 r1 => ?_
  refine hl2 F σ H1 ρ' l _ p1.rl e2 fun H2 R2 s2 => ?_
  refine hh2 F σ H2 ρ' h _ R2 e3 fun H3 R3 s3 => ?_
  have s := s2.trans s3
  refine ⟨Ow F σ ρ', x, d, R3.domL, r1.bw.mono (hide_same s) s, hf, fun z H4 s4 r4 => ?_⟩
  have sA := (p1.pu rfl).2.trans s
  exact k z H4 (.grow R (sA.trans s4)) (.of R3 s4 r4 fun a h => sameDom sA h)
end
end DL
namespace DL
open L2 PyProof.Rows PySem PySem.Spec
/-! ## built-ins -/
section
variable {X : Cx}
theorem BwL.one {K : Fg} {O : Ad} {H : Hp} {vs : List V} {d : D} (h : BwL K O H vs [d]) : ∃ v, vs = [v] ∧ Bw K O H v d := by
  cases h with
  | cons h t => cases t; exact ⟨_, rfl, h⟩
theorem BwL.two {K : Fg} {O : Ad} {H : Hp} {vs : List V} {d e : D} (h : BwL K O H vs [d, e]) : ∃ v u, vs = [v, u] ∧ Bw K O H v d ∧ Bw K O H u e := by
  cases h with
  | cons h t =>
    obtain ⟨u, rfl, hu⟩ := t.one
    exact ⟨_, u, rfl, h, hu⟩
/-- one argument -/
theorem cd_one {f : Value} {kd : Kd} {g : List D → Option D} {g1 : D → Option D} (hg : ∀ ds z, g ds = some z → ∃ d, ds = [d] ∧ g1 d = some z)
    (h : ∀ (pins : List (Addr × Obj)) (s : Shared) (σ : L2.St) (H : Hp) (O : Ad) (x : V) (v : Value) (d z : D) (Q : VK), Inv X pins σ H s → RelV x v → (∀ a, O a → Live H a) → Bw X.K O H x d → g1 d = some z →
      (∀ v H', Same H H' → Vr X.K kd O H H' v z → Q v H') → wpAny (model X.prog X.w) X.A (call f [v]) (L2.EP X pins σ Q) X.xe s) : CallD X kd f g := by
  intro pins s σ H xs us Q I rs ⟨O, ds, z, dom, bs, hz, k⟩
  obtain ⟨d, rfl, h1⟩ := hg _ _ hz
  obtain ⟨x, rfl, bx⟩ := bs.one
  obtain ⟨u, rfl, rx⟩ := vals1 rs
  exact h pins s σ H O x u d z Q I rx dom bx h1 k
def on1 (g : D → Option D) : List D → Option D
  | [d] => g d
  | _ => none
theorem on1_some {g : D → Option D} {ds : List D} {z : D} (h : on1 g ds = some z) : ∃ d, ds = [d] ∧ g d = some z := by
  unfold on1 at h
  split at h
  · exact ⟨_, rfl, h⟩
  · cases h
def lenD : D → Option D
  | .list xs => some (.int xs.length)
  | .tuple xs => some (.int xs.length)
  | .str z => if Nat.ble z.length lim = true then some (.int z.length) else none
  | _ => none
theorem cd_len : CallD X .k (.builtin "len") (on1 lenD) := cd_one (fun _ _ h => on1_some h) fun pins s σ H O x v d z Q I rx dom bx hz k => by
  have r1 : Vals [x] [v] := .cons rx .nil
  unfold lenD at hz
  split at hz
  · cases hz
    obtain ⟨l, xs, rfl, h1, t1⟩ := bx.list
    exact call_len_seq pins s σ H _ _ Q I r1 ⟨l, xs, rfl, .inl h1, by rw [t1.length]; exact k _ H (.refl _) (.int _)⟩
  · cases hz
    obtain ⟨l, xs, rfl, h1, t1⟩ := bx.tuple
    exact call_len_seq pins s σ H _ _ Q I r1 ⟨l, xs, rfl, .inr (.of (hide_sub _ _ h1)), by rw [t1.length]; exact k _ H (.refl _) (.int _)⟩
  · obtain ⟨hl, rfl⟩ := ite_some hz
    exact call_len_str pins s σ H _ _ Q I r1 ⟨_, by rw [bx.str], lim_ble hl, k _ H (.refl _) (.int _)⟩
  · cases hz
def absD : D → Option D
  | .int i => some (.int (if i < 0 then -i else i))
  | _ => none
theorem cd_abs : CallD X .k (.builtin "abs") (on1 absD) := cd_one (fun _ _ h => on1_some h) fun pins s σ H O x v d z Q I rx dom bx hz k => by
  unfold absD at hz
  split at hz
  · cases hz
    exact call_abs pins s σ H _ _ Q I (.cons rx .nil) ⟨_, by rw [bx.int], k _ H (.refl _) (.int _)⟩
  · cases hz
def intD : D → Option D
  | .int i => some (.int i)
  | .bool b => some (.int (if b then 1 else 0))
  | .str x => if Nat.ble x.length 640 = true then (PySem.intText? x).map .int else none
  | _ => none
theorem cd_int : CallD X .k (.type "int") (on1 intD) := cd_one (fun _ _ h => on1_some h) fun pins s σ H O x v d z Q I rx dom bx hz k => by
  unfold intD at hz
  split at hz
  · cases hz
    exact call_int1 pins s σ H _ _ Q I (.cons rx .nil) (.inl ⟨_, by rw [bx.int], k _ H (.refl _) (.int _)⟩)
  · cases hz
    exact call_int1 pins s σ H _ _ Q I (.cons rx .nil) (.inr ⟨_, by rw [bx.bool], k _ H (.refl _) (.int _)⟩)
  · obtain ⟨hl, hz⟩ := (show Nat.ble _ 640 = true ∧ _ from by
      split at hz
      · rename_i h; exact ⟨h, hz⟩
      · cases hz)
    obtain ⟨n, hn, rfl⟩ := Option.map_eq_some_iff.mp hz
    exact call_int_str pins s σ H _ _ Q I (.cons rx .nil) ⟨_, n, by rw [bx.str], hn, Nat.le_of_ble_eq_true hl, k _ H (.refl _) (.int _)⟩
  · cases hz
def strD : D → Option D
  | .int i => if Nat.blt i.natAbs.log2 1920 = true then some (.str (toString i)) else none
  | _ => none
theorem cd_str : CallD X .k (.type "str") (on1 strD) := cd_one (fun _ _ h => on1_some h) fun pins s σ H O x v d z Q I rx dom bx hz k => by
  unfold strD at hz
  split at hz
  · obtain ⟨hl, rfl⟩ := ite_some hz
    exact call_str_int pins s σ H _ _ Q I (.cons rx .nil) ⟨_, by rw [bx.int], by rw [Nat.blt_eq] at hl; exact hl, k _ H (.refl _) (.str _)⟩
  · cases hz
/-! tuple(x), list(x) -/
def tupD : D → Option D
  | .list xs => some (.tuple xs)
  | .tuple xs => some (.tuple xs)
  | _ => none
theorem cd_tup : CallD X .k (.type "tuple") (on1 tupD) := cd_one (fun _ _ h => on1_some h) fun pins s σ H O x v d z Q I rx dom bx hz k => by
  unfold tupD at hz
  split at hz
  · cases hz
    obtain ⟨l, xs, rfl, h1, t1⟩ := bx.list
    exact call_tuple_of pins s σ H _ _ Q I (.cons rx .nil) ⟨l, xs, rfl, .inl ⟨h1, fun p hp => k _ _ (sameNew hp) (newT hp dom t1)⟩⟩
  · cases hz
    obtain ⟨l, xs, rfl, h1, t1⟩ := bx.tuple
    exact call_tuple_of pins s σ H _ _ Q I (.cons rx .nil) ⟨l, xs, rfl, .inr ⟨.of (hide_sub _ _ h1), k _ H (.refl _) (.tup h1 t1)⟩⟩
  · cases hz
def lstD : D → Option D
  | .list xs => some (.list xs)
  | .tuple xs => some (.list xs)
  | _ => none
theorem cd_lst {kd : Kd} (hk : isF kd) : CallD X kd (.type "list") (on1 lstD) := cd_one (fun _ _ h => on1_some h) fun pins s σ H O x v d z Q I rx dom bx hz k => by
  unfold lstD at hz
  split at hz
  · cases hz
    obtain ⟨l, xs, rfl, h1, t1⟩ := bx.list
    exact call_list_of pins s σ H _ _ Q I (.cons rx .nil) ⟨l, xs, rfl, .inl h1, fun p hp => k _ _ (sameNew hp) (newL hk hp dom t1)⟩
  · cases hz
    obtain ⟨l, xs, rfl, h1, t1⟩ := bx.tuple
    exact call_list_of pins s σ H _ _ Q I (.cons rx .nil) ⟨l, xs, rfl, .inr (.of (hide_sub _ _ h1)), fun p hp => k _ _ (sameNew hp) (newL hk hp dom t1)⟩
  · cases hz
/-! a walked list or tuple -/
theorem bw_seq {pins : List (Addr × Obj)} {σ : L2.St} {H : Hp} {s : Shared} {O : Ad} {x : V} {v : Value} {d : D} {ds : List D} (I : Inv X pins σ H s) (rx : RelV x v) (bx : Bw X.K O H x d) (hd : d = .list ds ∨ d = .tuple ds) :
    ∃ a xs its, v = .ref a ∧ DnL X.K (hide H O) xs ds ∧ Vals xs its ∧ xs.length ≤ sizeLine ∧ ((d = .list ds ∧ s.heap.IsList a its.toArray) ∨ (d = .tuple ds ∧ s.heap.IsTuple a its.toArray)) := by
  rcases hd with rfl | rfl
  · obtain ⟨l, xs, rfl, h1, t1⟩ := bx.list
    cases rx
    obtain ⟨its, rv, hl, hz⟩ := I.list h1
    exact ⟨l, xs, its, rfl, t1, rv, hz, .inl ⟨rfl, hl.isList⟩⟩
  · obtain ⟨l, xs, rfl, h1, t1⟩ := bx.tuple
    cases rx
    obtain ⟨its, rv, hl, hz⟩ := I.tuple (.of (hide_sub _ _ h1))
    exact ⟨l, xs, its, rfl, t1, rv, hz, .inr ⟨rfl, hl⟩⟩
def allAlike (ds : List D) : Bool := ds.all fun a => ds.all fun b => PySem.W.alike a b
theorem allAlike_iff {ds : List D} (h : allAlike ds = true) : PySem.W.AllAlike ds := by
  unfold allAlike at h
  intro a ha b hb
  exact List.all_eq_true.mp (List.all_eq_true.mp h a ha) b hb
def plOk (ds : List D) : Bool := PyData.plainAll ds && Nat.ble (PyData.depthAll ds) 40
theorem plOk_iff {ds : List D} : plOk ds = true ↔ PyData.plainAll ds = true ∧ PyData.depthAll ds ≤ 40 := by unfold plOk; rw [Bool.and_eq_true, Nat.ble_eq]
end
end DL
namespace DL
open L2 PyProof.Rows PySem PySem.Spec
/-! ## min, max, sum, sorted, any, all of a list or tuple -/
theorem valsGet : ∀ {xs : List V} {us : List Value} {i : Nat} {u : Value}, Vals xs us → us[i]? = some u → ∃ x, xs[i]? = some x ∧ RelV x u
  | _, _, _, _, .nil, e => by simp at e
  | _, _, 0, _, .cons r _, e => by simp at e; subst e; exact ⟨_, rfl, r⟩
  | _, _, i + 1, _, .cons _ t, e => by
    obtain ⟨x, h1, h2⟩ := valsGet (i := i) t (by simpa using e)
    exact ⟨x, by simpa using h1, h2⟩
section
variable {X : Cx}
def listOf : D → Option (List D)
  | .list xs => some xs
  | .tuple xs => some xs
  | _ => none
theorem listOf_some {d : D} {ds : List D} (h : listOf d = some ds) : d = .list ds ∨ d = .tuple ds := by
  unfold listOf at h
  split at h
  · cases h; exact .inl rfl
  · cases h; exact .inr rfl
  · cases h
def bestOk (ds : List D) : Bool := allAlike ds && ds.all notN && plOk ds
theorem bestOk_iff {ds : List D} (h : bestOk ds = true) : PySem.W.AlikeAll ds ∧ PyData.plainAll ds = true ∧ PyData.depthAll ds ≤ 40 := by
  unfold bestOk at h
  rw [Bool.and_eq_true, Bool.and_eq_true, plOk_iff] at h
  exact ⟨⟨allAlike_iff h.1.1, fun x hx => notN_ne (List.all_eq_true.mp h.1.2 x hx)⟩, h.2⟩
/-- the item at i of a walked sequence is the datum that it reads as -/
theorem best_end {pins : List (Addr × Obj)} {σ : L2.St} {H : Hp} {s : Shared} {O : Ad} {xs : List V} {its : List Value} {ds : List D} {z : D} {Q : VK} {i : Nat} {v : Value} {h' : Heap} {tk : Nat} {bs : List Addr} (I : Inv X pins σ H s) (t : DnL X.K (hide H O) xs ds) (rv : Vals xs its) (hp : PyData.plainAll ds = true)
    (hv : its.toArray[i]? = some v) (r : Reads h' v z bs) (kp : ∀ b o, s.heap.get? b = some o → h'.get? b = some o) (k : ∀ v H', Same H H' → Vr X.K .k O H H' v z → Q v H') : L2.EP X pins σ Q v { s with heap := h', toks := tk } := by
  have hv' : its[i]? = some v := by simpa using hv
  obtain ⟨x, e1, rx⟩ := valsGet rv hv'
  obtain ⟨d, e2, dn⟩ := t.getV e1
  obtain ⟨as, rd⟩ := Dn.reads I hide_sub dn (PySem.W.plain_mem hp (List.mem_of_getElem? e2)) rx
  obtain ⟨e3, _⟩ := PyProof.Rows.reads_det (fun b o q _ => kp b o q) rd r
  subst e3
  exact ⟨x, H, I.kept (t' := tk) kp, rx, k x H (.refl _) dn⟩
def minL : D → Option D := fun d => match listOf d with
  | some (x :: xs) => if bestOk (x :: xs) = true then some (PySem.W.minD x xs) else none
  | _ => none
def maxL : D → Option D := fun d => match listOf d with
  | some (x :: xs) => if bestOk (x :: xs) = true then some (PySem.W.maxD x xs) else none
  | _ => none
theorem cd_minL (hc : X.calm = true) (hu : X.A.units + 64 < cLine) : CallD X .k (.builtin "min") (on1 minL) := cd_one (fun _ _ h => on1_some h) fun pins s σ H O x v d z Q I rx dom bx hz k => by
  unfold minL at hz
  split at hz
  · rename_i y ys he
    obtain ⟨hb, rfl⟩ := ite_some hz
    obtain ⟨al, hp, hd⟩ := bestOk_iff hb
    obtain ⟨a, xs, its, rfl, t, rv, _, hl⟩ := bw_seq I rx bx (listOf_some he)
    obtain ⟨as, hr⟩ := DnL.reads I hide_sub t hp rv
    rcases hl with ⟨_, hl⟩ | ⟨_, hl⟩
    · exact PySem.W.min_list_data (I.ok.hd hc) hl hr al (by omega) fun i w h' tk bs hv r kp => best_end I t rv hp hv r kp k
    · exact PySem.W.min_tuple_data (I.ok.hd hc) hl hr al (by omega) fun i w h' tk bs hv r kp => best_end I t rv hp hv r kp k
  · cases hz
theorem cd_maxL (hc : X.calm = true) (hu : X.A.units + 64 < cLine) : CallD X .k (.builtin "max") (on1 maxL) := cd_one (fun _ _ h => on1_some h) fun pins s σ H O x v d z Q I rx dom bx hz k => by
  unfold maxL at hz
  split at hz
  · rename_i y ys he
    obtain ⟨hb, rfl⟩ := ite_some hz
    obtain ⟨al, hp, hd⟩ := bestOk_iff hb
    obtain ⟨a, xs, its, rfl, t, rv, _, hl⟩ := bw_seq I rx bx (listOf_some he)
    obtain ⟨as, hr⟩ := DnL.reads I hide_sub t hp rv
    rcases hl with ⟨_, hl⟩ | ⟨_, hl⟩
    · exact PySem.W.max_list_data (I.ok.hd hc) hl hr al (by omega) fun i w h' tk bs hv r kp => best_end I t rv hp hv r kp k
    · exact PySem.W.max_tuple_data (I.ok.hd hc) hl hr al (by omega) fun i w h' tk bs hv r kp => best_end I t rv hp hv r kp k
  · cases hz
def min2D : List D → Option D
  | [.int i, .int j] => some (.int (if j < i then j else i))
  | _ => none
def max2D : List D → Option D
  | [.int i, .int j] => some (.int (if j > i then j else i))
  | _ => none
theorem cd_min2 (hc : X.calm = true) : CallD X .k (.builtin "min") min2D := by
  intro pins s σ H xs us Q I rs ⟨O, ds, z, dom, bs, hz, k⟩
  unfold min2D at hz
  split at hz
  · cases hz
    obtain ⟨v, u, rfl, b1, b2⟩ := bs.two
    exact call_min2 hc pins s σ H _ us Q I rs ⟨_, _, by rw [b1.int, b2.int], k _ H (.refl _) (.int _)⟩
  · cases hz
theorem cd_max2 (hc : X.calm = true) : CallD X .k (.builtin "max") max2D := by
  intro pins s σ H xs us Q I rs ⟨O, ds, z, dom, bs, hz, k⟩
  unfold max2D at hz
  split at hz
  · cases hz
    obtain ⟨v, u, rfl, b1, b2⟩ := bs.two
    exact call_max2 hc pins s σ H _ us Q I rs ⟨_, _, by rw [b1.int, b2.int], k _ H (.refl _) (.int _)⟩
  · cases hz
def intsOf : List D → Option (List Int)
  | [] => some []
  | .int i :: ds => (intsOf ds).map (i :: ·)
  | _ :: _ => none
theorem intsOf_some : ∀ {ds : List D} {ns : List Int}, intsOf ds = some ns → ds = ns.map .int
  | [], _, h => by cases h; rfl
  | .int i :: ds, _, h => by
    obtain ⟨ns, h1, rfl⟩ := Option.map_eq_some_iff.mp h
    rw [intsOf_some h1]
    rfl
  | .none :: _, _, h => by cases h
  | .bool _ :: _, _, h => by cases h
  | .str _ :: _, _, h => by cases h
  | .list _ :: _, _, h => by cases h
  | .tuple _ :: _, _, h => by cases h
  | .dict _ :: _, _, h => by cases h
theorem intsOf_map : ∀ ns : List Int, intsOf (ns.map .int) = some ns
  | [] => rfl
  | n :: ns => by
    show (intsOf (ns.map .int)).map (n :: ·) = _
    rw [intsOf_map ns]
    rfl
def sumI (ns : List Int) : Int := ns.foldr (· + ·) 0
def sumD : D → Option D := fun d => (listOf d).bind fun ds => (intsOf ds).map fun ns => .int (sumI ns)
theorem preSum_cons (n : Int) (ns : List Int) : ∀ k, preSum (fun i => (n :: ns).getD i 0) (k + 1) = n + preSum (fun i => ns.getD i 0) k
  | 0 => by simp [preSum]
  | k + 1 => by
    have h := preSum_cons n ns k
    have e : (n :: ns).getD (k + 1) 0 = ns.getD k 0 := by simp
    show preSum (fun i => (n :: ns).getD i 0) (k + 1) + (n :: ns).getD (k + 1) 0 = n + (preSum (fun i => ns.getD i 0) k + ns.getD k 0)
    rw [h, e, Int.add_assoc]
theorem preSum_all : ∀ ns : List Int, preSum (fun i => ns.getD i 0) ns.length = sumI ns
  | [] => rfl
  | n :: ns => by
    rw [List.length_cons, preSum_cons, preSum_all ns]
    rfl
theorem cd_sum (hc : X.calm = true) : CallD X .k (.builtin "sum") (on1 sumD) := cd_one (fun _ _ h => on1_some h) fun pins s σ H O x v d z Q I rx dom bx hz k => by
  obtain ⟨ds, he, hz⟩ := Option.bind_eq_some_iff.mp hz
  obtain ⟨ns, hn, rfl⟩ := Option.map_eq_some_iff.mp hz
  have e := intsOf_some hn
  subst e
  obtain ⟨a, xs, its, rfl, t, rv, _, hl⟩ := bw_seq I rx bx (listOf_some he)
  have ex := t.ints
  subst ex
  have hia : IntsAre its.toArray.toList ns := L2.intsAre_of rv
  have hlen : its.toArray.size = ns.length := by rw [List.size_toArray, ← rv.length, List.length_map]
  have hP : ∀ (i : Nat) (w : Value), its.toArray[i]? = some w → ∃ t, w = .int (ns.getD i 0) t := fun i w hw => by
    have hw' : its[i]? = some w := by simpa using hw
    obtain ⟨x, e1, rx⟩ := valsGet rv hw'
    rw [List.getElem?_map] at e1
    obtain ⟨n, e2, rfl⟩ := Option.map_eq_some_iff.mp e1
    obtain ⟨tk, rfl⟩ := rx
    refine ⟨tk, ?_⟩
    rw [List.getD_eq_getElem?_getD, e2]
    rfl
  have fin : ∀ (s2 s' : Shared) (o : Obj) (t' : Tok), s2 = { s with heap := s.heap.push o } → Moved [s.heap.objs.size] (fun a b => b = a) s2 s' → L2.EP X pins σ Q (.int (preSum (fun i => ns.getD i 0) its.toArray.size) t') s' := fun s2 s' o t' e m => by
    obtain ⟨h', tk, rfl, kp⟩ := PySem.W.moved_old e rfl m
    rw [hlen, preSum_all]
    exact ⟨.int _, H, I.kept (t' := tk) kp, ⟨t', rfl⟩, k _ H (.refl _) (.int _)⟩
  rcases hl with ⟨_, hl⟩ | ⟨_, hl⟩
  · exact call_sum_walkAnyS (PySem.W.iter_listW (A := X.A.in1) (I.ok.hd hc) hl fun s₂ e W st hfp hw hk => ⟨_, _, _, _, _, _, _, _, rfl, W, st, hfp, hP, fun s' t' m => fin s₂ s' _ t' e m⟩)
  · exact call_sum_walkAnyS (PySem.W.iter_tupleW (A := X.A.in1) (I.ok.hd hc) hl fun s₂ e W st hfp hw hk => ⟨_, _, _, _, _, _, _, _, rfl, W, st, hfp, hP, fun s' t' m => fin s₂ s' _ t' e m⟩)
/-! any, all: of bools -/
def blsOf : List D → Option (List Bool)
  | [] => some []
  | .bool i :: ds => (blsOf ds).map (i :: ·)
  | _ :: _ => none
theorem blsOf_some : ∀ {ds : List D} {ns : List Bool}, blsOf ds = some ns → ds = ns.map .bool
  | [], _, h => by cases h; rfl
  | .bool i :: ds, _, h => by
    obtain ⟨ns, h1, rfl⟩ := Option.map_eq_some_iff.mp h
    rw [blsOf_some h1]
    rfl
  | .none :: _, _, h => by cases h
  | .int _ :: _, _, h => by cases h
  | .str _ :: _, _, h => by cases h
  | .list _ :: _, _, h => by cases h
  | .tuple _ :: _, _, h => by cases h
  | .dict _ :: _, _, h => by cases h
theorem blsOf_map : ∀ ns : List Bool, blsOf (ns.map .bool) = some ns
  | [] => rfl
  | n :: ns => by
    show (blsOf (ns.map .bool)).map (n :: ·) = _
    rw [blsOf_map ns]
    rfl
theorem bls_plain : ∀ ns : List Bool, PyData.plainAll (ns.map .bool) = true
  | [] => by simp [PyData.plainAll]
  | n :: ns => by
    show PyData.plainAll (.bool n :: ns.map .bool) = true
    rw [PyData.plainAll, bls_plain ns]
    simp [PyData.plain]
theorem bls_any (ns : List Bool) : (ns.map PyData.bool).any PyData.truthy = ns.any id := by
  rw [List.any_map]
  rfl
theorem bls_all (ns : List Bool) : (ns.map PyData.bool).all PyData.truthy = ns.all id := by
  rw [List.all_map]
  rfl
def anyD : D → Option D := fun d => (listOf d).bind fun ds => (blsOf ds).map fun ns => .bool (ns.any id)
def allD : D → Option D := fun d => (listOf d).bind fun ds => (blsOf ds).map fun ns => .bool (ns.all id)
theorem cd_any (hc : X.calm = true) : CallD X .k (.builtin "any") (on1 anyD) := cd_one (fun _ _ h => on1_some h) fun pins s σ H O x v d z Q I rx dom bx hz k => by
  obtain ⟨ds, he, hz⟩ := Option.bind_eq_some_iff.mp hz
  obtain ⟨ns, hn, rfl⟩ := Option.map_eq_some_iff.mp hz
  have e := blsOf_some hn
  subst e
  obtain ⟨a, xs, its, rfl, t, rv, _, hl⟩ := bw_seq I rx bx (listOf_some he)
  obtain ⟨as, hr⟩ := DnL.reads I hide_sub t (bls_plain ns) rv
  have hf : ∀ x ∈ ns.map PyData.bool, x.fits63 := fun x hx => by
    obtain ⟨b, _, rfl⟩ := List.mem_map.mp hx
    simp [PyData.fits63]
  have fin : ∀ (h' : Heap) (tk : Nat), (∀ b o, s.heap.get? b = some o → h'.get? b = some o) → L2.EP X pins σ Q (.bool ((ns.map PyData.bool).any PyData.truthy)) { s with heap := h', toks := tk } := fun h' tk kp => by
    rw [bls_any]
    exact ⟨.bl _, H, I.kept (t' := tk) kp, rfl, k _ H (.refl _) (.bl _)⟩
  rcases hl with ⟨_, hl⟩ | ⟨_, hl⟩
  · exact PySem.W.any_list_data (I.ok.hd hc) hl hr (bls_plain ns) hf fin
  · exact PySem.W.any_tuple_data (I.ok.hd hc) hl hr (bls_plain ns) hf fin
theorem cd_all (hc : X.calm = true) : CallD X .k (.builtin "all") (on1 allD) := cd_one (fun _ _ h => on1_some h) fun pins s σ H O x v d z Q I rx dom bx hz k => by
  obtain ⟨ds, he, hz⟩ := Option.bind_eq_some_iff.mp hz
  obtain ⟨ns, hn, rfl⟩ := Option.map_eq_some_iff.mp hz
  have e := blsOf_some hn
  subst e
  obtain ⟨a, xs, its, rfl, t, rv, _, hl⟩ := bw_seq I rx bx (listOf_some he)
  obtain ⟨as, hr⟩ := DnL.reads I hide_sub t (bls_plain ns) rv
  have hf : ∀ x ∈ ns.map PyData.bool, x.fits63 := fun x hx => by
    obtain ⟨b, _, rfl⟩ := List.mem_map.mp hx
    simp [PyData.fits63]
  have fin : ∀ (h' : Heap) (tk : Nat), (∀ b o, s.heap.get? b = some o → h'.get? b = some o) → L2.EP X pins σ Q (.bool ((ns.map PyData.bool).all PyData.truthy)) { s with heap := h', toks := tk } := fun h' tk kp => by
    rw [bls_all]
    exact ⟨.bl _, H, I.kept (t' := tk) kp, rfl, k _ H (.refl _) (.bl _)⟩
  rcases hl with ⟨_, hl⟩ | ⟨_, hl⟩
  · exact PySem.W.all_list_data (I.ok.hd hc) hl hr (bls_plain ns) hf fin
  · exact PySem.W.all_tuple_data (I.ok.hd hc) hl hr (bls_plain ns) hf fin
/-! isinstance(x, bool), .. -/
inductive Ty4 where
  | bo
  | it
  | st
  | tu
def Ty4.name : Ty4 → String
  | .bo => "bool"
  | .it => "int"
  | .st => "str"
  | .tu => "tuple"
def isiD (T : Ty4) : D → Option D
  | .none => some (.bool false)
  | .bool _ => some (.bool (match T with
    | .bo => true
    | .it => true
    | _ => false))
  | .int _ => some (.bool (match T with
    | .it => true
    | _ => false))
  | .str _ => some (.bool (match T with
    | .st => true
    | _ => false))
  | .tuple _ => some (.bool (match T with
    | .tu => true
    | _ => false))
  | .list _ => some (.bool false)
  | .dict _ => none
theorem kitN (T : Ty4) : kitB "NoneType" T.name = some false := by cases T <;> decide +kernel
theorem kitBo (T : Ty4) : kitB "bool" T.name = some (match T with
    | .bo => true
    | .it => true
    | _ => false) := by cases T <;> decide +kernel
theorem kitI (T : Ty4) : kitB "int" T.name = some (match T with
    | .it => true
    | _ => false) := by cases T <;> decide +kernel
theorem kitS (T : Ty4) : kitB "str" T.name = some (match T with
    | .st => true
    | _ => false) := by cases T <;> decide +kernel
theorem kitT (T : Ty4) : kitB "tuple" T.name = some (match T with
    | .tu => true
    | _ => false) := by cases T <;> decide +kernel
theorem kitL (T : Ty4) : kitB "list" T.name = some false := by cases T <;> decide +kernel
theorem ep_isi {kd : Kd} {T : Ty4} {e : Expr} {f : Rho → Option D} {x y : Str} {p q pos : Pos} (hg : Gl X x) (hm : X.mg x = none) (hx : x = Str.ofString "isinstance") (h : EP X kd e f) (hgy : Gl X y) (hmy : X.mg y = none) (hy : bootBuiltins y = some (.type T.name)) (hny : y ≠ "__name__" := by decide) (hdy : (y == ("__debug__" : Str)) = false := by decide)
    (he : starEach [e, .Name y q] X.env = (false, eval e X.env) :: starEach [.Name y q] X.env := by rfl) (he2 : starEach [.Name y q] X.env = (false, eval (.Name y q) X.env) :: starEach [] X.env := by rfl) (hpl : (backTo pos (starEach [.Name y q] X.env)).any (·.1) = false := by rfl) :
    EP X .k (.Call (.Name x p) [e, .Name y q] [] pos) (pu1 (isiD T) f) := by
  subst hx
  obtain ⟨t, h1, h2⟩ := h.ex
  refine ⟨_, pe_callB (X := X) call_isi hg hm (by decide +kernel) (pa_cons h1 (pa_cons (pe_bltn (v := .ty T.name) hgy hmy hy rfl hny hdy) pa_nil he2) he) (by decide) (by decide) he hpl, fun F σ H ρ d ρ' Q R hf k => ?_⟩
  obtain ⟨hf, rfl⟩ := lift_some.mp hf
  obtain ⟨a, e1, e2⟩ := Option.bind_eq_some_iff.mp hf
  refine h2 F σ H ρ' a ρ' _ R (lift_some.mpr ⟨e1, rfl⟩) fun v H1 p1 r1 => ?_
  have fin : ∀ b : Bool, d = .bool b → Q (.bl b) H1 := fun b hb => by
    subst hb
    exact k _ H1 p1 (.k (.bl b))
  have bw := r1.bw
  cases a with
  | none => cases e2; exact ⟨v, _, _, _, _, rfl, .ty _, .base (by rw [bw.none_]; exact .non), kit_ty (kitN T), fin _ rfl⟩
  | bool b => cases e2; exact ⟨v, _, _, _, _, rfl, .ty _, .base (by rw [bw.bool]; exact .bl b), kit_ty (kitBo T), fin _ rfl⟩
  | int b => cases e2; exact ⟨v, _, _, _, _, rfl, .ty _, .base (by rw [bw.int]; exact .int b), kit_ty (kitI T), fin _ rfl⟩
  | str b => cases e2; exact ⟨v, _, _, _, _, rfl, .ty _, .base (by rw [bw.str]; exact .str b), kit_ty (kitS T), fin _ rfl⟩
  | list b =>
    cases e2
    obtain ⟨l, xs, rfl, g1, _⟩ := bw.list
    refine ⟨_, _, _, _, _, rfl, .ty _, ?_, kit_ty (kitL T), fin _ rfl⟩
    rcases g1 with (g1 | ⟨o, g1⟩) | ⟨o, its, n, g1, g2, _⟩
    · exact .base (.lst g1)
    · exact .base (.frz g1)
    · exact .kList g1 g2
  | tuple b =>
    cases e2
    obtain ⟨l, xs, rfl, g1, _⟩ := bw.tuple
    exact ⟨_, _, _, _, _, rfl, .ty _, .base (.tup (hide_sub _ _ g1)), kit_ty (kitT T), fin _ rfl⟩
  | dict b => cases e2
end
end DL
set_option maxHeartbeats 4000000
namespace DL
open L2 PyProof.Rows PySem PySem.Spec
/-! ## tuple * int, text * int -/
theorem mul_same (l : Addr) (items : Array Value) (n : Nat) (dd : Option Addr) (sl : Array (Option Value)) (x : Int) (u : Tok) (c0 : (decide (x < -(2 ^ 63)) || decide (x ≥ 2 ^ 63)) = false) (c1 : (items.isEmpty || x == 1) = true) :
    Meets (Builtin.«tuple.__mul__» ⟨[.ref l, .int x u], []⟩) (fun _ R s => s.heap.get? l = some { cls := .type "tuple", dict := dd, data := .seq items n, slots := sl } ∧ R (.ok (.ret (Value.ref l))) s) :=
  .of_wp fun prog w A R s h => by
    obtain ⟨hp, g, d, tk, os⟩ := s
    obtain ⟨hl, h⟩ := h
    have f1 := AutoSeq1.idx_int
    wp_walk using wpAny_loadPart' hl
    repeat (first
      | (refine wpAny_ite_false (decide_eq_false (by rw [c0]; exact Bool.false_ne_true)) ?_; wp_walk using wpAny_loadPart' hl)
      | (refine wpAny_ite_true (decide_eq_true (by rw [c1])) ?_; wp_walk using wpAny_loadPart' hl))
    exact ⟨_, rfl, h⟩
theorem mul_nil (l : Addr) (items : Array Value) (n : Nat) (dd : Option Addr) (sl : Array (Option Value)) (x : Int) (u : Tok) (c0 : (decide (x < -(2 ^ 63)) || decide (x ≥ 2 ^ 63)) = false) (c1 : (items.isEmpty || x == 1) = false) (c2 : (decide (x ≤ 0) || items.isEmpty) = true) :
    Meets (Builtin.«tuple.__mul__» ⟨[.ref l, .int x u], []⟩) (fun _ R s => s.heap.get? l = some { cls := .type "tuple", dict := dd, data := .seq items n, slots := sl } ∧
      R (.ok (.ret (Value.ref s.heap.objs.size))) { s with heap := s.heap.push { cls := Value.type "tuple", data := Data.seq #[] }, toks := s.toks }) :=
  .of_wp fun prog w A R s h => by
    obtain ⟨hp, g, d, tk, os⟩ := s
    obtain ⟨hl, h⟩ := h
    have f1 := AutoSeq1.idx_int
    wp_walk using wpAny_loadPart' hl
    repeat (first
      | (refine wpAny_ite_false (decide_eq_false (by rw [c0]; exact Bool.false_ne_true)) ?_; wp_walk using wpAny_loadPart' hl)
      | (refine wpAny_ite_false (decide_eq_false (by rw [c1]; exact Bool.false_ne_true)) ?_; wp_walk using wpAny_loadPart' hl)
      | (refine wpAny_ite_true (decide_eq_true (by rw [c2])) ?_; wp_walk using wpAny_loadPart' hl))
    exact ⟨_, rfl, h⟩
def repT : D → D → Option D
  | .tuple xs, .int k => if repOk xs.length k = true then some (.tuple (rep k xs)) else none
  | _, _ => none
section
variable {X : Cx}
theorem rep_one {α : Type} (xs : List α) : rep 1 xs = xs := by simp [rep]
theorem rep_nil {α : Type} (k : Int) : rep k ([] : List α) = [] := by simp [rep]
theorem rep_neg {α : Type} {k : Int} (h : k ≤ 0) (xs : List α) : rep k xs = [] := by
  unfold rep
  rw [show k.toNat = 0 from by omega]
  rfl
theorem od_repT : OpD X .k (binaryOp .Mult) repT := by
  intro pins s σ H x y v u Q I rx ry ⟨O, d, e, z, dom, bx, by', hz, k⟩
  unfold repT at hz
  split at hz
  · rename_i ds n
    obtain ⟨hc, rfl⟩ := ite_some hz
    unfold repOk at hc
    rw [Bool.and_eq_true, Nat.ble_eq] at hc
    obtain ⟨l, xs, rfl, h1, t1⟩ := bx.tuple
    have e2 := by'.int
    subst e2
    cases rx
    obtain ⟨t, rfl⟩ := ry
    obtain ⟨its, r, ⟨⟨cls, dd, data, sl⟩, ho, hc', n', hd⟩, hs⟩ := I.tuple (.of (hide_sub _ _ h1))
    simp only at hc' hd
    subst hc' hd
    have hle : its.length = xs.length := r.length.symm
    have hlen := t1.length
    have c0 : (decide (n < -(2 ^ 63)) || decide (n ≥ 2 ^ 63)) = false := by
      rw [decide_eq_false (by omega), decide_eq_false (by omega)] <;> rfl
    have road : ∀ {Q' : VK}, wpAny (model X.prog X.w) X.A.in1.in1 (pure ()) (fun _ _ => True) X.xe s → True := fun _ => trivial
    by_cases c1 : (its.toArray.isEmpty || n == 1) = true
    · refine wpAny_binaryOp_repeat_ref (T := "tuple") (U := "int") (by decide) ⟨_, ho, rfl⟩ (fun s' => typeIs_int s' n t) noFill_tuple_mul F.fills_int_mul F.slot_int_rmul repeat_tuple F.slot_int_index.lookup
        (call_meets F.slot_int_rmul (typeIs_int s n t) F.entry_int_rmul (F.args_int_rmul_2 _ _) (int_rmul_tuple n t l its.toArray n' dd sl)
          ⟨ho, rfl, ⟨_, ho, rfl⟩, call_meets F.slot_tuple_mul ⟨_, ho, rfl⟩ F.entry_tuple_mul (F.args_tuple_mul_2 _ _) (mul_same l its.toArray n' dd sl n t c0 c1) ⟨ho, ?_⟩⟩)
      refine ⟨.ref l, H, I, rfl, k _ H (.refl _) (.tup h1 ?_)⟩
      rw [Bool.or_eq_true] at c1
      rcases c1 with c1 | c1
      · have e0 : ds = [] := by
          have : its = [] := by simpa using c1
          rw [this] at hle
          exact List.eq_nil_of_length_eq_zero (by rw [← hlen, ← hle]; rfl)
        subst e0
        rw [rep_nil]
        exact t1
      · have e1 : n = 1 := by simpa using c1
        subst e1
        rw [rep_one]
        exact t1
    · have c1 : (its.toArray.isEmpty || n == 1) = false := by simpa using c1
      by_cases c2 : (decide (n ≤ 0) || its.toArray.isEmpty) = true
      · refine wpAny_binaryOp_repeat_ref (T := "tuple") (U := "int") (by decide) ⟨_, ho, rfl⟩ (fun s' => typeIs_int s' n t) noFill_tuple_mul F.fills_int_mul F.slot_int_rmul repeat_tuple F.slot_int_index.lookup
          (call_meets F.slot_int_rmul (typeIs_int s n t) F.entry_int_rmul (F.args_int_rmul_2 _ _) (int_rmul_tuple n t l its.toArray n' dd sl)
            ⟨ho, rfl, ⟨_, ho, rfl⟩, call_meets F.slot_tuple_mul ⟨_, ho, rfl⟩ F.entry_tuple_mul (F.args_tuple_mul_2 _ _) (mul_nil l its.toArray n' dd sl n t c0 c1 c2) ⟨ho, ?_⟩⟩)
        have hn : n ≤ 0 := by
          rw [Bool.or_eq_true] at c2
          rcases c2 with c2 | c2
          · exact of_decide_eq_true c2
          · rw [c2] at c1; cases c1
        rw [rep_neg hn] at k
        have hp := I.hok.fresh (Nat.le_refl _)
        exact ⟨.ref s.heap.objs.size, _, I.laid (t' := s.toks) (o := .tup []) (fun b ob q => Heap.get?_push_of_some _ q) (Nat.le_refl _) ⟨Nat.zero_le _, _, .nil, IsTup.new _ _⟩, rfl, k _ _ (sameNew hp) (newT hp dom .nil)⟩
      · have c2 : (decide (n ≤ 0) || its.toArray.isEmpty) = false := by simpa using c2
        have hpos : ¬ n ≤ 0 := fun z => by rw [decide_eq_true z] at c2; cases c2
        have hmul : its.toArray.size * n.toNat ≤ sizeLine := by
          rw [List.size_toArray, hle, hlen]
          exact lim_ble hc.2
        have hm : ((its.toArray.size : Nat) : Int) * n ≤ 16777216 := by
          have e1 : n = (n.toNat : Int) := by omega
          have : sizeLine = 16777216 := sizeLine_eq
          rw [e1, ← Int.natCast_mul]
          omega
        have flen : (List.replicate n.toNat its).flatten.length ≤ sizeLine := by
          rw [PyProof.Rows.lm_len_rep_flat, Nat.mul_comm]
          simpa using hmul
        have c4 : Builtin.Tuple.tupleTooMany (((its.toArray.size : Nat) : Int) * n) = false := by
          unfold Builtin.Tuple.tupleTooMany
          rw [sizeLine_eq]
          exact decide_eq_false (by omega)
        refine wpAny_binaryOp_repeat_ref (T := "tuple") (U := "int") (by decide) ⟨_, ho, rfl⟩ (fun s' => typeIs_int s' n t) noFill_tuple_mul F.fills_int_mul F.slot_int_rmul repeat_tuple F.slot_int_index.lookup
          (call_meets F.slot_int_rmul (typeIs_int s n t) F.entry_int_rmul (F.args_int_rmul_2 _ _) (int_rmul_tuple n t l its.toArray n' dd sl)
            ⟨ho, rfl, ⟨_, ho, rfl⟩, call_meets F.slot_tuple_mul ⟨_, ho, rfl⟩ F.entry_tuple_mul (F.args_tuple_mul_2 _ _) (tuple_mulW l its.toArray n' dd sl n t c0 c1 c2 (by omega) c4 (by rw [size_rep, List.size_toArray]; exact flen)) ⟨ho, ?_⟩⟩)
        rw [size_rep]
        have hp := I.hok.fresh (Nat.le_refl _)
        refine ⟨.ref s.heap.objs.size, _, I.laid (t' := s.toks) (o := .tup (List.replicate n.toNat xs).flatten) (fun b ob q => Heap.get?_push_of_some _ q) (Nat.le_refl _) ?_, rfl, k _ _ (sameNew hp) (newT hp dom (t1.rep _))⟩
        refine ⟨?_, _, r.rep n.toNat, IsTup.new _ _⟩
        rw [PyProof.Rows.lm_len_rep_flat, ← hle, Nat.mul_comm]
        simpa using hmul
  · cases hz
end
end DL
namespace DL
open L2 PyProof.Rows PySem PySem.Spec
/-! ## what stands at the top -/
/-- the def x of the text, its promise -/
def Ent (P : Program) (w : World) (K : Fg) (mg : Str → Option Value) (base : Heap) (k : Nat) (x : Str) (ps : List Str) (sp : Sp) : Prop :=
  ∃ (f : Addr) (fd : FuncData), FnOk P w K mg base CX0 k f fd ps sp ∧ mg x = some (.ref f) ∧ PySem.W.keepIn K (.ref f) = true ∧ Binds K fd ps [] ∧ ∃ oc od sl, K.lookup f = some ⟨oc, od, .func fd, sl⟩
def Def (K : Fg) (mg : Str → Option Value) (x : Str) (st : Stmt) (ps : List Str) : Prop :=
  ∃ (f : Addr) (fd : FuncData), Fun K x x st f fd ∧ mg x = some (.ref f) ∧ Binds K fd ps []
section
variable {P : Program} {w : World} {K : Fg} {mg : Str → Option Value} {base : Heap} {x : Str} {st : Stmt} {N ps : List Str} {k j : Nat} {kr : Kd}
theorem Ent.mono {sp : Sp} (h : Ent P w K mg base j x ps sp) (hk : j ≤ k) : Ent P w K mg base k x ps sp := by
  obtain ⟨f, fd, F, r⟩ := h
  exact ⟨f, fd, F.mono hk, r⟩
theorem fun_at {f : Addr} {fd : FuncData} (F : Fun K x x st f fd) : ∃ oc od sl, K.lookup f = some ⟨oc, od, .func fd, sl⟩ := by
  obtain ⟨oc, od, kV, doc, pm, an, cdv, ct, osl, rfl, lk, _⟩ := F.ex
  exact ⟨oc, od, osl, lk⟩
theorem ent_fn {f : Addr} {fd : FuncData} {oc : Value} {od : Option Addr} {sl : Array (Option Value)} {sp : Sp} (l : K.lookup f = some ⟨oc, od, .func fd, sl⟩) (hm : mg x = some (.ref f)) (h : Ent P w K mg base k x ps sp) : FnOk P w K mg base CX0 k f fd ps sp := by
  obtain ⟨f', fd', F, hm', _, _, oc', od', sl', l'⟩ := h
  rw [hm] at hm'
  cases hm'
  rw [l] at l'
  cases l'
  exact F
/-- the law's promise at the script -/
theorem sp_top {H : Hp} {a : Addr} {ns : List Int} {g : List D → Option D} {E : XK} (hS : SqL K H a (ns.map V.int)) (h : g [.list (ns.map .int)] = some (.bool true)) : spP K 1 .k g [.ref a] H (fun v _ => v = .bl true) E := by
  have e : Same H (hide H fun _ => False) := fun b o q => hide_some.mpr ⟨fun z => z, q⟩
  refine ⟨fun _ => False, [.list (ns.map .int)], .bool true, rfl, fun _ z => z.elim, .one (.lst (e.seq hS) (.ofInts ns)), h, fun v H' _ r => ?_⟩
  exact Bw.bool (.inl r)
theorem ent_pure (T : Def K mg x st ps) {b : Sf} (S : FnScope N ps (defScope st))
    (hbody : ∀ (f : Addr) (cdv : Value) (A : Around) (outer : List Env) (s : Shared) (H : Hp) (E : XK), Room k (A.deeper (envOfC x (defScope st) s.heap.objs.size f cdv)) → SB (cxOf CX0 P w K mg base N x (defScope st) f cdv A outer s H E).nox .k (defBody st) b) :
    Ent P w K mg base (k + 1) x ps (spP K ps.length .k (fnP N.length b)) := by
  obtain ⟨f, fd, F, hm, hb⟩ := T
  exact ⟨f, fd, fn_pure (.inl rfl) F S (hbody f) (fun h => by cases h), hm, F.kp, hb, fun_at F⟩
def NoNx (b : Sf) : Prop := ∀ ρ ρ', b ρ ≠ some (.nx ρ')
theorem ent_fresh (T : Def K mg x st ps) {b : Sf} (S : FnScope N ps (defScope st)) (hn : NoNx b)
    (hbody : ∀ (f : Addr) (cdv : Value) (A : Around) (outer : List Env) (s : Shared) (H : Hp) (E : XK), Room k (A.deeper (envOfC x (defScope st) s.heap.objs.size f cdv)) → SB (cxOf CX0 P w K mg base N x (defScope st) f cdv A outer s H E).nox .f (defBody st) b) :
    Ent P w K mg base (k + 1) x ps (spP K ps.length .f (fnP N.length b)) := by
  obtain ⟨f, fd, F, hm, hb⟩ := T
  exact ⟨f, fd, fn_pure (.inr rfl) F S (hbody f) (fun _ => hn), hm, F.kp, hb, fun_at F⟩
theorem ent_mut (T : Def K mg x st ps) {b : Sf} (S : FnScope N ps (defScope st))
    (hbody : ∀ (f : Addr) (cdv : Value) (A : Around) (outer : List Env) (s : Shared) (H : Hp) (E : XK), Room k (A.deeper (envOfC x (defScope st) s.heap.objs.size f cdv)) → SB (cxOf CX0 P w K mg base N x (defScope st) f cdv A outer s H E).nox .k (defBody st) b) :
    Ent P w K mg base (k + 1) x ps (spM K ps.length j (fnM N.length j b)) := by
  obtain ⟨f, fd, F, hm, hb⟩ := T
  exact ⟨f, fd, fn_mut F S (hbody f), hm, F.kp, hb, fun_at F⟩
/-- a promise of nothing -/
theorem ent_none (T : Def K mg x st ps) : Ent P w K mg base 0 x ps (spP K ps.length .k fun _ => none) := by
  obtain ⟨f, fd, F, hm, hb⟩ := T
  exact ⟨f, fd, ⟨fun vs H Q E h => (by obtain ⟨_, _, _, _, _, _, e, _⟩ := h; cases e), fun A outer s H args us vs Q E _ _ _ _ h => (by obtain ⟨_, _, _, _, _, _, e, _⟩ := h; cases e)⟩, hm, F.kp, hb, fun_at F⟩
theorem nn_seq {f g : Sf} (h : NoNx g) : NoNx (sSeq f g) := fun ρ ρ' e => by
  obtain ⟨o, e1, e2⟩ := Option.bind_eq_some_iff.mp e
  cases o with
  | nx ρ1 => exact h _ _ e2
  | _ => cases e2
theorem nn_rt {f : Ef} : NoNx (sRt f) := fun ρ ρ' e => by
  obtain ⟨a, _, e2⟩ := Option.map_eq_some_iff.mp e
  cases e2
theorem nn_rtO {i : Nat} : NoNx (sRtO i) := fun ρ ρ' e => by
  unfold sRtO at e
  split at e <;> cases e
theorem nn_if {t : Tf} {f g : Sf} (h1 : NoNx f) (h2 : NoNx g) : NoNx (sIf t f g) := fun ρ ρ' e => by
  obtain ⟨c, _, e2⟩ := Option.bind_eq_some_iff.mp e
  by_cases hc : c.1 = true
  · rw [if_pos hc] at e2; exact h1 _ _ e2
  · rw [if_neg hc] at e2; exact h2 _ _ e2
end
section
variable {X : Cx} {m : Bool} {kr kd : Kd} {k n j i : Nat} {ps : List Str} {x : Str} {p pos : Pos} {e tg : Expr} {es : List Expr}
theorem gcall {g : List D → Option D} {fa : Af} (F : Ent X.prog X.w X.K X.mg X.base k x ps (spP X.K n kr g)) (hr : Room k X.A) (hg : Gl X x)
    (ha : AG X m (e :: es) fa) (hn : Nat.beq (e :: es).length n = true := by rfl) (hdb : (x == ("__debug__" : Str)) = false := by decide) (he : starEach (e :: es) X.env = (false, eval e X.env) :: starEach es X.env := by rfl) (hpl : (backTo pos (starEach es X.env)).any (·.1) = false := by rfl) :
    EG X m kr (.Call (.Name x p) (e :: es) [] pos) (seqA g fa) := by
  obtain ⟨f, fd, F, hm, hk, hb, _⟩ := F
  exact eg_call F hr hg hm hk hb ha hn hdb he hpl
theorem pcall {g : List D → Option D} {fa : Rho → Option (List D)} (F : Ent X.prog X.w X.K X.mg X.base k x ps (spP X.K n kr g)) (hr : Room k X.A) (hg : Gl X x)
    (ha : AP X (e :: es) fa) (hn : Nat.beq (e :: es).length n = true := by rfl) (hdb : (x == ("__debug__" : Str)) = false := by decide) (he : starEach (e :: es) X.env = (false, eval e X.env) :: starEach es X.env := by rfl) (hpl : (backTo pos (starEach es X.env)).any (·.1) = false := by rfl) :
    EP X kr (.Call (.Name x p) (e :: es) [] pos) (puA g fa) := by
  obtain ⟨f, fd, F, hm, hk, hb, _⟩ := F
  exact ep_call F hr hg hm hk hb ha hn hdb he hpl
theorem pcall0 {g : List D → Option D} (F : Ent X.prog X.w X.K X.mg X.base k x ps (spP X.K n kr g)) (hr : Room k X.A) (hg : Gl X x)
    (hn : Nat.beq 0 n = true := by rfl) (hdb : (x == ("__debug__" : Str)) = false := by decide) : EP X kr (.Call (.Name x p) [] [] pos) (pu0 g) := by
  obtain ⟨f, fd, F, hm, hk, hb, _⟩ := F
  exact ep_call0 F hr hg hm hk hb hn hdb
theorem mcall {g : D → List D → Option (D × D)} {fa : Af} (F : Ent X.prog X.w X.K X.mg X.base k x ps (spM X.K n j g)) (hr : Room k X.A) (hg : Gl X x)
    (ha : AM X j i (e :: es) fa) (hn : Nat.beq (e :: es).length n = true := by rfl) (hdb : (x == ("__debug__" : Str)) = false := by decide) (he : starEach (e :: es) X.env = (false, eval e X.env) :: starEach es X.env := by rfl) (hpl : (backTo pos (starEach es X.env)).any (·.1) = false := by rfl) :
    EG X false .k (.Call (.Name x p) (e :: es) [] pos) (callM i g fa) := by
  obtain ⟨f, fd, F, hm, hk, hb, _⟩ := F
  exact eg_callM F hr hg hm hk hb ha hn hdb he hpl
/-! ranges without a change -/
theorem ip_range1 {a : Expr} {f : Rho → Option (List D)} (hg : Gl X "range") (hm : X.mg "range" = none) (h : AP X [a] f) (hs : starEach [a] X.env = [(false, eval a X.env)] := by rfl) : IG X true false tg (.Call (.Name "range" p) [a] [] pos) (liftA (puR f)) := (ig_range1 hg hm h hs).cong (seqR_lift f).symm
theorem ip_range2 {a b : Expr} {f : Rho → Option (List D)} (hg : Gl X "range") (hm : X.mg "range" = none) (h : AP X [a, b] f) (hs : starEach [a, b] X.env = [(false, eval a X.env), (false, eval b X.env)] := by rfl) (hs2 : starEach [b] X.env = [(false, eval b X.env)] := by rfl) : IG X true false tg (.Call (.Name "range" p) [a, b] [] pos) (liftA (puR f)) := (ig_range2 hg hm h hs hs2).cong (seqR_lift f).symm
theorem ip_range3 {a b c : Expr} {f : Rho → Option (List D)} (hg : Gl X "range") (hm : X.mg "range" = none) (h : AP X [a, b, c] f) (hs : starEach [a, b, c] X.env = (false, eval a X.env) :: starEach [b, c] X.env := by rfl) (hpl : (backTo pos (starEach [b, c] X.env)).any (·.1) = false := by rfl) : IG X true false tg (.Call (.Name "range" p) [a, b, c] [] pos) (liftA (puR f)) := (ig_range3 hg hm h hs hpl).cong (seqR_lift f).symm
/-! name += int -/
def augI : D → D → Option D
  | .int i, .int j => some (.int (i + j))
  | _, _ => none
theorem ia_add : IpD X .k .Add augI := by
  intro pins s σ H x y v u Q I rx ry ⟨O, d, e, z, dom, bx, by', hz, k⟩
  unfold augI at hz
  split at hz
  · cases hz
    have e1 := bx.int
    have e2 := by'.int
    subst e1 e2
    exact ip_add pins s σ H _ _ v u Q I rx ry ⟨_, _, rfl, rfl, k _ H (.refl _) (.int _)⟩
  · cases hz
/-! a < b < c -/
theorem tw_tg {f : Tf} (h : TW X m e f) : TG X m e f := h.tg
def chP (g g' : D → D → Option D) (fa fb fc : Rho → Option D) : Rho → Option D := fun ρ => (fa ρ).bind fun a => (fb ρ).bind fun b => (g a b).bind fun z => (blOf z).bind fun t => if t = true then (fc ρ).bind fun c => g' b c else some (.bool false)
theorem ep_chain {op op' : CmpOp} {g g' : D → D → Option D} {a b c : Expr} {k1 k2 k3 : Kd} {fa fb fc : Rho → Option D} (ho : OpD X .k (compareOp op) g) (ho' : OpD X .k (compareOp op') g') (ha : EP X k1 a fa) (hb : EP X k2 b fb) (hc : EP X k3 c fc)
    (hm : lastMarks [op, op'] [b, c] = false := by with_unfolding_all rfl) : EP X .k (.Compare a [op, op'] [b, c] pos) (chP g g' fa fb fc) := by
  obtain ⟨ta, ha1, ha2⟩ := ha.ex
  obtain ⟨tb, hb1, hb2⟩ := hb.ex
  obtain ⟨tc, hc1, hc2⟩ := hc.ex
  refine ⟨_, pe_chain ho ho' ha1 hb1 hc1 hm, fun F σ H ρ d ρ' Q R hf k => ?_⟩
  obtain ⟨hf, rfl⟩ := lift_some.mp hf
  obtain ⟨x, e1, hf⟩ := Option.bind_eq_some_iff.mp hf
  obtain ⟨y, e2, hf⟩ := Option.bind_eq_some_iff.mp hf
  obtain ⟨z, e3, hf⟩ := Option.bind_eq_some_iff.mp hf
  obtain ⟨t, e4, hg⟩ := Option.bind_eq_some_iff.mp hf
  have e4 := blOf_some e4
  subst e4
  refine ha2 F σ H ρ' x ρ' _ R (lift_some.mpr ⟨e1, rfl⟩) fun v H1 p1 r1 => ?_
  refine hb2 F σ H1 ρ' y ρ' _ p1.rl (lift_some.mpr ⟨e2, rfl⟩) fun u H2 p2 r2 => ?_
  have s2 := (p2.pu rfl).2
  refine ⟨Ow F σ ρ', x, y, _, p2.rl.domL, r1.bw.mono (hide_same s2) s2, r2.bw, e3, fun z H3 s3 r3 => ?_⟩
  have rz : z = .bl t := (Bw.bool (.inl r3))
  subst rz
  refine ⟨t, rfl, ?_⟩
  have p3 : Po X.K F true σ H ρ' H3 ρ' := (p1.trans p2).more s3
  cases t with
  | false =>
    rw [if_neg Bool.false_ne_true] at hg ⊢
    cases hg
    exact k _ H3 p3 (.k (.bl false))
  | true =>
    rw [if_pos rfl] at hg ⊢
    obtain ⟨c', e5, hg⟩ := Option.bind_eq_some_iff.mp hg
    refine hc2 F σ H3 ρ' c' ρ' _ p3.rl (lift_some.mpr ⟨e5, rfl⟩) fun q H4 p4 r4 => ?_
    have s4 := s3.trans (p4.pu rfl).2
    exact ⟨Ow F σ ρ', y, c', d, p4.rl.domL, r2.bw.mono (hide_same s4) s4, r4.bw, hg, fun z H5 s5 r5 => k z H5 ((p3.trans p4).more s5) (.of p4.rl s5 r5 (p3.trans p4).ev.dom)⟩
theorem tp_chain {op op' : CmpOp} {g g' : D → D → Option D} {a b c : Expr} {k1 k2 k3 : Kd} {fa fb fc : Rho → Option D} (ho : OpD X .k (compareOp op) g) (ho' : OpD X .k (compareOp op') g') (ha : EP X k1 a fa) (hb : EP X k2 b fb) (hc : EP X k3 c fc)
    (hm : lastMarks [op, op'] [b, c] = false := by with_unfolding_all rfl) : TP X (.Compare a [op, op'] [b, c] pos) (tstP (chP g g' fa fb fc)) := by
  obtain ⟨ta, ha1, ha2⟩ := ha.ex
  obtain ⟨tb, hb1, hb2⟩ := hb.ex
  obtain ⟨tc, hc1, hc2⟩ := hc.ex
  refine ⟨_, pt_chain ho ho' ha1 hb1 hc1 hm, fun F σ H ρ bb ρ' Q R hf k => ?_⟩
  obtain ⟨hf, rfl⟩ := liftT_some.mp hf
  obtain ⟨d, hf, e0⟩ := Option.bind_eq_some_iff.mp hf
  have e0 := blOf_some e0
  subst e0
  obtain ⟨x, e1, hf⟩ := Option.bind_eq_some_iff.mp hf
  obtain ⟨y, e2, hf⟩ := Option.bind_eq_some_iff.mp hf
  obtain ⟨z, e3, hf⟩ := Option.bind_eq_some_iff.mp hf
  obtain ⟨t, e4, hg⟩ := Option.bind_eq_some_iff.mp hf
  have e4 := blOf_some e4
  subst e4
  refine ha2 F σ H ρ' x ρ' _ R (lift_some.mpr ⟨e1, rfl⟩) fun v H1 p1 r1 => ?_
  refine hb2 F σ H1 ρ' y ρ' _ p1.rl (lift_some.mpr ⟨e2, rfl⟩) fun u H2 p2 r2 => ?_
  have s2 := (p2.pu rfl).2
  refine ⟨Ow F σ ρ', x, y, _, p2.rl.domL, r1.bw.mono (hide_same s2) s2, r2.bw, e3, fun z H3 s3 r3 => ?_⟩
  have rz : z = .bl t := (Bw.bool (.inl r3))
  subst rz
  refine ⟨t, rfl, ?_⟩
  have p3 : Po X.K F true σ H ρ' H3 ρ' := (p1.trans p2).more s3
  cases t with
  | false =>
    rw [if_neg Bool.false_ne_true] at hg ⊢
    cases hg
    exact ⟨false, rfl, k H3 p3⟩
  | true =>
    rw [if_pos rfl] at hg ⊢
    obtain ⟨c', e5, hg⟩ := Option.bind_eq_some_iff.mp hg
    refine hc2 F σ H3 ρ' c' ρ' _ p3.rl (lift_some.mpr ⟨e5, rfl⟩) fun q H4 p4 r4 => ?_
    have s4 := s3.trans (p4.pu rfl).2
    refine ⟨Ow F σ ρ', y, c', _, p4.rl.domL, r2.bw.mono (hide_same s4) s4, r4.bw, hg, fun z H5 s5 r5 => ?_⟩
    have rz : z = .bl bb := (Bw.bool (.inl r5))
    subst rz
    exact ⟨bb, rfl, k H5 ((p3.trans p4).more s5)⟩
end
end DL
namespace DL
open L2 PyProof.Rows PySem PySem.Spec
/-! ## [e for x in a for y in b], nothing changed -/
def compPs2 (g : Gf) (p : Rho → Option Bool) (it1 : Rho → Option (List D)) (g1 : Gf) (p1 : Rho → Option Bool) (e : Rho → Option D) (vs1 : List Nat) (ρ : Rho) : List D → Option (List D)
  | [] => some []
  | d :: ds => (g d ρ).bind fun ρ1 => (p ρ1).bind fun c => if c = true then (it1 ρ1).bind fun es => (compPs g1 p1 e (unw ρ1 vs1) es).bind fun a => (compPs2 g p it1 g1 p1 e vs1 ρ ds).map fun r => a ++ r
    else compPs2 g p it1 g1 p1 e vs1 ρ ds
def compPE2 (it : Rho → Option (List D)) (g : Gf) (p : Rho → Option Bool) (it1 : Rho → Option (List D)) (g1 : Gf) (p1 : Rho → Option Bool) (e : Rho → Option D) (vs vs1 : List Nat) : Rho → Option D := fun ρ => (it ρ).bind fun ds => (unwO vs ρ).bind fun ρw => (compPs2 g p it1 g1 p1 e vs1 ρw ds).bind fun r =>
  if r.length ≤ lim then some (.list r) else none
def canI (K : Fg) (m bw : Bool) (f : Af) : TI := fun σ H R => ∃ F ρ ds ρ', Rl K F σ H ρ ∧ f ρ = some (ds, ρ') ∧ ∀ J H', Po K F m σ H ρ H' ρ' → ItOk K bw (hide H' (Ow F σ ρ')) H' J ds → R J H'
theorem IG.can {X : Cx} {m bw : Bool} {tg e : Expr} {f : Af} (h : IG X m bw tg e f) : PI X tg e (canI X.K m bw f) := by
  obtain ⟨t, h1, h2⟩ := h.ex
  exact ⟨fun pins s σ H R I ⟨F, ρ, d, ρ', Rl, hf, k⟩ => h1.run pins s σ H R I (h2 F σ H ρ d ρ' R Rl hf k)⟩
structure LcV (K : Fg) (F : Fx) (Dd : Addr) (σ : L2.St) (H1 : Hp) (ρ : Rho) (σc : L2.St) (ρc : Rho) (H2 : Hp) (out : List D) : Prop where
  rl : Rl K (F.add Dd) σc H2 ρc
  kept : Same (hide H1 (Ow F σ ρ)) (hide H2 (Ow (F.add Dd) σc ρc))
  acc : ∃ acc, H2 Dd = some (.lst acc) ∧ DnL K (hide H2 (Ow (F.add Dd) σc ρc)) acc out
  same : Same H1 H2
section
variable {K : Fg} {F : Fx} {Dd : Addr} {σ : L2.St} {H1 : Hp} {ρ : Rho} {σc : L2.St} {ρc : Rho} {H2 : Hp} {out : List D}
theorem LcV.grow (w : LcV K F Dd σ H1 ρ σc ρc H2 out) {H3 : Hp} (s : Same H2 H3) : LcV K F Dd σ H1 ρ σc ρc H3 out := by
  obtain ⟨acc, h1, h2⟩ := w.acc
  exact ⟨w.rl.grow s, w.kept.trans (hide_same s), ⟨acc, s _ _ h1, h2.mono (hide_same s)⟩, w.same.trans s⟩
theorem LcV.step (w : LcV K F Dd σ H1 ρ σc ρc H2 out) {σ' : L2.St} {ρ' : Rho} (R : Rl K (F.add Dd) σ' H2 ρ') (g : Same (hide H2 (Ow (F.add Dd) σc ρc)) (hide H2 (Ow (F.add Dd) σ' ρ'))) : LcV K F Dd σ H1 ρ σ' ρ' H2 out := by
  obtain ⟨acc, h1, h2⟩ := w.acc
  exact ⟨R, w.kept.trans g, ⟨acc, h1, h2.mono g⟩, w.same⟩
theorem LcV.wipe (w : LcV K F Dd σ H1 ρ σc ρc H2 out) {vs : List Nat} (h : ∀ v ∈ vs, ∃ s, ρc[v]? = some s) : LcV K F Dd σ H1 ρ (L2.wipe σc vs) (unw ρc vs) H2 out := by
  obtain ⟨R, e⟩ := w.rl.wiped h
  exact w.step R e.kept
theorem LcV.app (w : LcV K F Dd σ H1 ρ σc ρc H2 out) (hD : H1 Dd = none) {y : V} {d : D} (h : Dn K (hide H2 (Ow (F.add Dd) σc ρc)) y d) {acc : List V} (ha : H2 Dd = some (.lst acc)) : LcV K F Dd σ H1 ρ σc ρc (upd H2 Dd (.lst (acc ++ [y]))) (out ++ [d]) := by
  obtain ⟨acc', h1, h2⟩ := w.acc
  rw [ha] at h1
  cases h1
  obtain ⟨R, g⟩ := w.rl.outer (a := Dd) (o := .lst (acc ++ [y])) (.inr rfl)
  refine ⟨R, w.kept.trans g, ⟨_, upd_same, (h2.append (.one h)).mono g⟩, fun b o hb => ?_⟩
  rw [upd_ne (ne_of_none hb hD)]
  exact w.same _ _ hb
end
section
variable {X : Cx} {bw : Bool} {kr : Kd}
theorem lc2_pure {elt tg iter tg1 iter1 : Expr} {ifs ifs1 : List Expr} {scope : Scope} {own : List (Str × Nat)} {vs0 vs1 : List Nat} {pos : Pos} {it it1 : Rho → Option (List D)} {g g1 : Gf} {p p1 : Rho → Option Bool} {e : Rho → Option D} (hc : X.calm = true) (hN : X.N.Nodup) (hi : IG X true bw tg iter (liftA it)) (ok : BlkOk X.N X.env.scope scope own)
    (hg : ∀ (s : Shared) (H : Hp) (C : Addr) (cl : List (Str × Addr)) (fp : List Addr), GG (X.blk s H scope (compEnvC scope cl C X.env) fp) vs0 tg g)
    (ht : ∀ (s : Shared) (H : Hp) (C : Addr) (cl : List (Str × Addr)) (fp : List Addr), TsG (X.blk s H scope (compEnvC scope cl C X.env) fp) true ifs (liftT p))
    (hi1 : ∀ (s : Shared) (H : Hp) (C : Addr) (cl : List (Str × Addr)) (fp : List Addr), IG (X.blk s H scope (compEnvC scope cl C X.env) fp) true false tg1 iter1 (liftA it1))
    (hg1 : ∀ (s : Shared) (H : Hp) (C : Addr) (cl : List (Str × Addr)) (fp : List Addr), GG (X.blk s H scope (compEnvC scope cl C X.env) fp) vs1 tg1 g1)
    (ht1 : ∀ (s : Shared) (H : Hp) (C : Addr) (cl : List (Str × Addr)) (fp : List Addr), TsG (X.blk s H scope (compEnvC scope cl C X.env) fp) true ifs1 (liftT p1))
    (he : ∀ (s : Shared) (H : Hp) (C : Addr) (cl : List (Str × Addr)) (fp : List Addr), EP (X.blk s H scope (compEnvC scope cl C X.env) fp) .k elt e)
    (gout : OutOk vs0 g) (gout1 : OutOk vs1 g1) (hv0 : ∀ i ∈ vs0, i ∈ own.map (·.2)) (hv : ∀ i ∈ vs1, i ∈ own.map (·.2)) (hs : ∀ x, foldedSetIterable iter X.env x = pure x := by intro _; rfl) (hs1 : ∀ env x, foldedSetIterable iter1 env x = pure x := by intro _ _; rfl) :
    ∃ t, PE X (.ListComp elt [⟨tg, iter, ifs, 0⟩, ⟨tg1, iter1, ifs1, 0⟩] scope pos) t ∧ (∀ {i : Nat} {y : Str} {py spos : Pos}, X.N[i]? = some y → X.env.scope.names.lookup y = some .local → swapsWith (.ListComp elt [⟨tg, iter, ifs, 0⟩, ⟨tg1, iter1, ifs1, 0⟩] scope pos) (some (.Name y py)) spos.line X.env = pure true →
        PS X (.Assign [.Name y py] (.ListComp elt [⟨tg, iter, ifs, 0⟩, ⟨tg1, iter1, ifs1, 0⟩] scope pos) spos) (tAsg t (gName i))) ∧
      ∀ (F : Fx) (σ : L2.St) (H : Hp) (ρ : Rho) (d : D) (ρ' : Rho) (Q : VK), Rl X.K F σ H ρ → lift (compPE2 it g p it1 g1 p1 e (own.map (·.2)) vs1) ρ = some (d, ρ') →
        (∀ v H', Po X.K F true σ H ρ H' ρ' → Er X.K F σ ρ' .f H H' v d → Q v H') → t σ H Q := by
  obtain ⟨wi, hi1', hi2⟩ := hi.ex
  refine ⟨tLc2 wi (canG X.K vs0 g) (canT X.K true (liftT p)) (canI X.K true false (liftA it1)) (canG X.K vs1 g1) (canT X.K true (liftT p1)) (canE X.K true .k (lift e)) (own.map (·.2)) vs1,
    pe_lc2 hc hN hi1' ok hv (fun s H C cl fp => (hg s H C cl fp).can) (fun s H C cl fp => (ht s H C cl fp).can) (fun s H C cl fp => (hi1 s H C cl fp).can) (fun s H C cl fp => (hg1 s H C cl fp).can) (fun s H C cl fp => (ht1 s H C cl fp).can) (fun s H C cl fp => (he s H C cl fp).can) hs hs1,
    fun hy hyl hsw => ps_setLc2 hc hN hy hyl hsw hi1' ok hv (fun s H C cl fp => (hg s H C cl fp).can) (fun s H C cl fp => (ht s H C cl fp).can) (fun s H C cl fp => (hi1 s H C cl fp).can) (fun s H C cl fp => (hg1 s H C cl fp).can) (fun s H C cl fp => (ht1 s H C cl fp).can) (fun s H C cl fp => (he s H C cl fp).can) hs hs1, fun F σ H ρ d ρ' Q R hf k => ?_⟩
  generalize hvs : own.map (·.2) = vs at *
  obtain ⟨hf, rfl⟩ := lift_some.mp hf
  obtain ⟨ds, e1, e2⟩ := Option.bind_eq_some_iff.mp hf
  obtain ⟨ρw, e3, e4⟩ := Option.bind_eq_some_iff.mp e2
  obtain ⟨total, e5, e6⟩ := Option.bind_eq_some_iff.mp e4
  obtain ⟨hfree, rfl⟩ := unwO_some e3
  by_cases hlim : total.length ≤ lim
  case neg => rw [if_neg hlim] at e6; cases e6
  rw [if_pos hlim] at e6
  cases e6
  have hthere : ∀ v ∈ vs, ∃ s, ρ'[v]? = some s := fun v hv => let ⟨s, h1, _⟩ := free_at hfree hv; ⟨s, h1⟩
  refine hi2 F σ H ρ' ds ρ' _ R (liftA_some.mpr ⟨e1, rfl⟩) fun J H1 p1' iok => fun Dd hD => ?_
  have noD : ¬ Ow F σ ρ' Dd := notOwned p1'.rl hD
  have start : LcV X.K F Dd σ H1 ρ' (L2.wipe σ vs) (unw ρ' vs) (upd H1 Dd (.lst [])) [] := by
    have Ra : Rl X.K (F.add Dd) σ (upd H1 Dd (.lst [])) ρ' := p1'.rl.addNew (sameNew hD) hD ⟨_, upd_same, fun _ z => by cases z⟩
    have w0 : LcV X.K F Dd σ H1 ρ' σ ρ' (upd H1 Dd (.lst [])) [] := ⟨Ra, hide_both fun b o nb hb => ⟨fun z => (ow_add.mp z).elim nb (ne_of_none hb hD), sameNew hD _ _ hb⟩, ⟨[], upd_same, .nil⟩, sameNew hD⟩
    exact w0.wipe hthere
  refine ⟨fun i n H2 => n = ds.length - i ∧ i ≤ ds.length ∧ ∃ out rest, LcV X.K F Dd σ H1 ρ' (L2.wipe σ vs) (unw ρ' vs) H2 out ∧ compPs2 g p it1 g1 p1 e vs1 (unw ρ' vs) (ds.drop i) = some rest ∧ out ++ rest = total, ⟨_, rfl, Nat.zero_le _, [], total, start, e5, rfl⟩, fun i n H2 w => ?_⟩
  obtain ⟨hn, hle, out, rest, w, hcomp, happ⟩ := w
  have nb : bw = true → Same H1 H2 := fun _ => w.same
  by_cases hlt : i < ds.length
  · refine .inr ⟨iok.go i H2 _ w.kept nb hlt, fun H' => i + 1 ≤ ds.length ∧ ∃ out rest, LcV X.K F Dd σ H1 ρ' (L2.wipe σ vs) (unw ρ' vs) H' out ∧ compPs2 g p it1 g1 p1 e vs1 (unw ρ' vs) (ds.drop (i + 1)) = some rest ∧ out ++ rest = total, fun H' w' => ⟨ds.length - (i + 1), by omega, rfl, w'⟩, fun x H3 y => ?_⟩
    obtain ⟨s3, d, ed, dn⟩ := iok.yld i H2 _ x H3 w.kept nb w.rl.domL hlt y
    rw [List.getElem?_eq_getElem hlt] at ed
    cases ed
    rw [List.drop_eq_getElem_cons hlt] at hcomp
    obtain ⟨ρ2, c1, c2⟩ := Option.bind_eq_some_iff.mp hcomp
    obtain ⟨c, c3, c4⟩ := Option.bind_eq_some_iff.mp c2
    have w3 := w.grow s3
    refine ⟨F.add Dd, unw ρ' vs, ds[i], ρ2, w3.rl, dn, c1, fun σ2 R4 ev4 o4 => ?_⟩
    have l2 : σ2.length = (L2.wipe σ vs).length := by rw [R4.len, w3.rl.len]; exact (gout _ _ _ c1).1
    have hw : L2.wipe σ2 vs = L2.wipe σ vs := by
      have := wipe_eq (vs := vs) l2 fun j hj => o4 j fun z => hj (hv0 j z)
      rw [this, wipe_wipe]
    have w4 := w3.step R4 ev4.kept
    refine ⟨hw, F.add Dd, ρ2, c, ρ2, R4, liftT_some.mpr ⟨c3, rfl⟩, fun H4 p4 => ?_⟩
    have w5 := w4.grow (p4.pu rfl).2
    have l3 : ρ2.length = (unw ρ' vs).length := (gout _ _ _ c1).1
    have e2' : unw ρ2 vs = unw ρ' vs := by
      have := unw_eq (vs := vs) l3 fun j hj => (gout _ _ _ c1).2.1 j fun z => hj (hv0 j z)
      rw [this, unw_unw]
    have at2 : ∀ v ∈ vs, ∃ s, ρ2[v]? = some s := fun v hv' => by
      obtain ⟨s, hs'⟩ := hthere v hv'
      have hl : v < ρ2.length := by rw [l3, unw_length]; exact lt_of_some hs'
      exact ⟨_, List.getElem?_eq_getElem hl⟩
    -- back to the outer walk, from the state behind a target
    have back : ∀ {σc : L2.St} {ρc : Rho} {H5 : Hp} {o : List D}, LcV X.K F Dd σ H1 ρ' σc ρc H5 o → σc.length = σ2.length → (∀ j, j ∉ vs → σc[j]? = σ2[j]?) → ρc.length = ρ2.length → (∀ j, j ∉ vs → ρc[j]? = ρ2[j]?) → LcV X.K F Dd σ H1 ρ' (L2.wipe σ vs) (unw ρ' vs) H5 o := fun {σc ρc H5 o} w' la oa lb ob => by
      have h1 := w'.wipe (vs := vs) fun v hv' => by
        obtain ⟨s, hs'⟩ := at2 v hv'
        have hl : v < ρc.length := by rw [lb]; exact lt_of_some hs'
        exact ⟨_, List.getElem?_eq_getElem hl⟩
      rw [wipe_eq la oa, hw, unw_eq lb ob, e2'] at h1
      exact h1
    cases c with
    | false =>
      refine L2.iteF ?_
      rw [if_neg Bool.false_ne_true] at c4
      exact ⟨hlt, out, rest, back w5 rfl (fun _ _ => rfl) rfl (fun _ _ => rfl), c4, happ⟩
    | true =>
      refine L2.iteT ?_
      rw [if_pos rfl] at c4
      obtain ⟨es, c5, c6⟩ := Option.bind_eq_some_iff.mp c4
      obtain ⟨as, c7, c8⟩ := Option.bind_eq_some_iff.mp c6
      obtain ⟨r, c9, c10⟩ := Option.map_eq_some_iff.mp c8
      subst c10
      refine ⟨F.add Dd, ρ2, es, ρ2, w5.rl, liftA_some.mpr ⟨c5, rfl⟩, fun J1 H6 p6 iok1 => ?_⟩
      have w6 := w5.grow (p6.pu rfl).2
      have G0 : Same (hide H6 (Ow (F.add Dd) σ2 ρ2)) (hide H6 (Ow (F.add Dd) (L2.wipe σ2 vs1) (unw ρ2 vs1))) := (w6.rl.wiped (vs := vs1) fun v hv' => at2 v (hv v hv')).2.kept
      refine ⟨fun j n H7 => n = es.length - j ∧ j ≤ es.length ∧ ∃ o1 r1, LcV X.K F Dd σ H1 ρ' (L2.wipe σ2 vs1) (unw ρ2 vs1) H7 (out ++ o1) ∧ Same (hide H6 (Ow (F.add Dd) σ2 ρ2)) (hide H7 (Ow (F.add Dd) (L2.wipe σ2 vs1) (unw ρ2 vs1))) ∧ compPs g1 p1 e (unw ρ2 vs1) (es.drop j) = some r1 ∧ o1 ++ r1 = as,
        ⟨_, rfl, Nat.zero_le _, [], as, by rw [List.append_nil]; exact w6.wipe fun v hv' => at2 v (hv v hv'), G0, c7, rfl⟩, fun j n H7 u => ?_⟩
      obtain ⟨hn7, hle7, o1, r1, u, gk, ucomp, uapp⟩ := u
      by_cases hlt7 : j < es.length
      · refine .inr ⟨iok1.go j H7 _ gk (fun z => nomatch z) hlt7, fun H' => j + 1 ≤ es.length ∧ ∃ o1 r1, LcV X.K F Dd σ H1 ρ' (L2.wipe σ2 vs1) (unw ρ2 vs1) H' (out ++ o1) ∧ Same (hide H6 (Ow (F.add Dd) σ2 ρ2)) (hide H' (Ow (F.add Dd) (L2.wipe σ2 vs1) (unw ρ2 vs1))) ∧ compPs g1 p1 e (unw ρ2 vs1) (es.drop (j + 1)) = some r1 ∧ o1 ++ r1 = as,
          fun H' w' => ⟨es.length - (j + 1), by omega, rfl, w'⟩, fun x1 H8 y1 => ?_⟩
        obtain ⟨s8, d1, ed1, dn1⟩ := iok1.yld j H7 _ x1 H8 gk (fun z => nomatch z) u.rl.domL hlt7 y1
        rw [List.getElem?_eq_getElem hlt7] at ed1
        cases ed1
        rw [List.drop_eq_getElem_cons hlt7] at ucomp
        obtain ⟨ρ3, b1, b2⟩ := Option.bind_eq_some_iff.mp ucomp
        obtain ⟨c', b3, b4⟩ := Option.bind_eq_some_iff.mp b2
        have u8 := u.grow s8
        refine ⟨F.add Dd, unw ρ2 vs1, es[j], ρ3, u8.rl, dn1, b1, fun σ3 R9 ev9 o9 => ?_⟩
        have l9 : σ3.length = (L2.wipe σ2 vs1).length := by rw [R9.len, u8.rl.len]; exact (gout1 _ _ _ b1).1
        have hw1 : L2.wipe σ3 vs1 = L2.wipe σ2 vs1 := by
          have := wipe_eq (vs := vs1) l9 o9
          rw [this, wipe_wipe]
        have u9 := u8.step R9 ev9.kept
        refine ⟨hw1, F.add Dd, ρ3, c', ρ3, R9, liftT_some.mpr ⟨b3, rfl⟩, fun H9 p9 => ?_⟩
        have uA := u9.grow (p9.pu rfl).2
        obtain ⟨l10, o10, a10⟩ := gout1 _ _ _ b1
        have e10 : unw ρ3 vs1 = unw ρ2 vs1 := by
          have := unw_eq (vs := vs1) l10 o10
          rw [this, unw_unw]
        have gA : Same (hide H6 (Ow (F.add Dd) σ2 ρ2)) (hide H9 (Ow (F.add Dd) σ3 ρ3)) := ((gk.trans (hide_same s8)).trans ev9.kept).trans (hide_same (p9.pu rfl).2)
        have back1 : ∀ {H5 : Hp} {o : List D}, LcV X.K F Dd σ H1 ρ' σ3 ρ3 H5 o → Same (hide H6 (Ow (F.add Dd) σ2 ρ2)) (hide H5 (Ow (F.add Dd) σ3 ρ3)) → LcV X.K F Dd σ H1 ρ' (L2.wipe σ2 vs1) (unw ρ2 vs1) H5 o ∧ Same (hide H6 (Ow (F.add Dd) σ2 ρ2)) (hide H5 (Ow (F.add Dd) (L2.wipe σ2 vs1) (unw ρ2 vs1))) := fun {H5 o} w' gw => by
          have there : ∀ v ∈ vs1, ∃ s, ρ3[v]? = some s := fun v hv' => let ⟨z, hz⟩ := a10 v hv'; ⟨_, hz⟩
          have h1 := w'.wipe (vs := vs1) there
          have h2 := (w'.rl.wiped (vs := vs1) there).2.kept
          rw [hw1, e10] at h1 h2
          exact ⟨h1, gw.trans h2⟩
        cases c' with
        | false =>
          refine L2.iteF ?_
          rw [if_neg Bool.false_ne_true] at b4
          obtain ⟨q1, q2⟩ := back1 uA gA
          exact ⟨hlt7, o1, r1, q1, q2, b4, uapp⟩
        | true =>
          refine L2.iteT ?_
          rw [if_pos rfl] at b4
          obtain ⟨a, b5, b6⟩ := Option.bind_eq_some_iff.mp b4
          obtain ⟨r2, b7, b8⟩ := Option.map_eq_some_iff.mp b6
          subst b8
          refine ⟨F.add Dd, ρ3, a, ρ3, uA.rl, lift_some.mpr ⟨b5, rfl⟩, fun yv HB pB rB => ?_⟩
          have uB := uA.grow (pB.pu rfl).2
          have gB := gA.trans (hide_same (pB.pu rfl).2)
          obtain ⟨acc, ha, hd⟩ := uB.acc
          have hlen : acc.length < lim := by
            have h1 := hd.length
            have h2 := congrArg List.length uapp
            have h3 := congrArg List.length happ
            rw [List.length_append] at h1 h2 h3
            rw [List.length_append] at h3
            rw [List.length_cons] at h2
            omega
          refine ⟨acc, ha, by rw [sizeLine_eq]; exact hlen, hlt7, o1 ++ [a], r2, ?_⟩
          have uC := uB.app hD rB.vr ha
          have gC : Same (hide H6 (Ow (F.add Dd) σ2 ρ2)) (hide (upd HB Dd (.lst (acc ++ [yv]))) (Ow (F.add Dd) σ3 ρ3)) := gB.trans (uB.rl.outer (a := Dd) (o := .lst (acc ++ [yv])) (.inr rfl)).2
          obtain ⟨q1, q2⟩ := back1 uC gC
          exact ⟨by rw [← List.append_assoc]; exact q1, q2, b7, by rw [List.append_assoc]; exact uapp⟩
      · have ei : j = es.length := by omega
        subst ei
        rw [List.drop_length] at ucomp
        cases ucomp
        rw [List.append_nil] at uapp
        subst uapp
        refine .inl ⟨iok1.stop _ H7 _ gk (fun z => nomatch z) (Nat.le_refl _), hlt, out ++ o1, r, back u (by rw [wipe_length]) (fun j hj => wipe_out fun z => hj (hv j z)) (unw_length _ _) (fun j hj => unw_out fun z => hj (hv j z)), c9, by rw [List.append_assoc]; exact happ⟩
  · have ei : i = ds.length := by omega
    subst ei
    rw [List.drop_length] at hcomp
    cases hcomp
    rw [List.append_nil] at happ
    subst happ
    refine .inl ⟨iok.stop _ H2 _ w.kept nb (Nat.le_refl _), ?_⟩
    obtain ⟨acc, hacc, hdn⟩ := w.acc
    obtain ⟨Rr, owE⟩ := p1'.rl.restore hfree w.rl w.kept
    rw [rst_unw] at Rr owE
    have Rf : Rl X.K F σ H2 ρ' := Rr.drop
    have hDn : H Dd = none := by
      cases q : H Dd with
      | none => rfl
      | some o => exact absurd hD (p1'.ev.dom Dd (by rw [q]; simp))
    refine k _ H2 (p1'.more w.same) ⟨⟨Dd, rfl, hDn, noD, acc, hacc, DnL.mono (hide_less fun b hb => (owE b).mp (ow_add.mpr hb)) hdn⟩, fun _ b hb => ?_⟩
    cases hb
    exact Rr
section
variable {elt tg iter tg1 iter1 : Expr} {ifs ifs1 : List Expr} {scope : Scope} {own : List (Str × Nat)} {vs0 vs1 : List Nat} {pos : Pos} {it it1 : Rho → Option (List D)} {g g1 : Gf} {p p1 : Rho → Option Bool} {e : Rho → Option D} (hc : X.calm = true) (hN : X.N.Nodup) (hi : IG X true bw tg iter (liftA it)) (ok : BlkOk X.N X.env.scope scope own)
    (hg : ∀ (s : Shared) (H : Hp) (C : Addr) (cl : List (Str × Addr)) (fp : List Addr), GG (X.blk s H scope (compEnvC scope cl C X.env) fp) vs0 tg g)
    (ht : ∀ (s : Shared) (H : Hp) (C : Addr) (cl : List (Str × Addr)) (fp : List Addr), TsG (X.blk s H scope (compEnvC scope cl C X.env) fp) true ifs (liftT p))
    (hi1 : ∀ (s : Shared) (H : Hp) (C : Addr) (cl : List (Str × Addr)) (fp : List Addr), IG (X.blk s H scope (compEnvC scope cl C X.env) fp) true false tg1 iter1 (liftA it1))
    (hg1 : ∀ (s : Shared) (H : Hp) (C : Addr) (cl : List (Str × Addr)) (fp : List Addr), GG (X.blk s H scope (compEnvC scope cl C X.env) fp) vs1 tg1 g1)
    (ht1 : ∀ (s : Shared) (H : Hp) (C : Addr) (cl : List (Str × Addr)) (fp : List Addr), TsG (X.blk s H scope (compEnvC scope cl C X.env) fp) true ifs1 (liftT p1))
    (he : ∀ (s : Shared) (H : Hp) (C : Addr) (cl : List (Str × Addr)) (fp : List Addr), EP (X.blk s H scope (compEnvC scope cl C X.env) fp) .k elt e)
    (gout : OutOk vs0 g) (gout1 : OutOk vs1 g1) (hv0 : ∀ i ∈ vs0, i ∈ own.map (·.2)) (hv : ∀ i ∈ vs1, i ∈ own.map (·.2))
include hc hN hi ok hg ht hi1 hg1 ht1 he gout gout1 hv0 hv
theorem ep_comp2 (hs : ∀ x, foldedSetIterable iter X.env x = pure x := by intro _; rfl) (hs1 : ∀ env x, foldedSetIterable iter1 env x = pure x := by intro _ _; rfl) :
    EP X .f (.ListComp elt [⟨tg, iter, ifs, 0⟩, ⟨tg1, iter1, ifs1, 0⟩] scope pos) (compPE2 it g p it1 g1 p1 e (own.map (·.2)) vs1) := by
  obtain ⟨t, h1, _, h3⟩ := lc2_pure (pos := pos) hc hN hi ok hg ht hi1 hg1 ht1 he gout gout1 hv0 hv hs hs1
  exact ⟨t, h1, h3⟩
theorem sp_comp2 {i : Nat} {y : Str} {py spos : Pos} (hy : X.N[i]? = some y) (hyl : X.env.scope.names.lookup y = some .local) (hsw : swapsWith (.ListComp elt [⟨tg, iter, ifs, 0⟩, ⟨tg1, iter1, ifs1, 0⟩] scope pos) (some (.Name y py)) spos.line X.env = pure true)
    (hs : ∀ x, foldedSetIterable iter X.env x = pure x := by intro _; rfl) (hs1 : ∀ env x, foldedSetIterable iter1 env x = pure x := by intro _ _; rfl) :
    SG X kr (.Assign [.Name y py] (.ListComp elt [⟨tg, iter, ifs, 0⟩, ⟨tg1, iter1, ifs1, 0⟩] scope pos) spos) (sSetP i (lift (compPE2 it g p it1 g1 p1 e (own.map (·.2)) vs1))) := by
  obtain ⟨t, h1, h2, h3⟩ := lc2_pure (pos := pos) hc hN hi ok hg ht hi1 hg1 ht1 he gout gout1 hv0 hv hs hs1
  exact ⟨_, h2 hy hyl hsw, set_pure (m := true) fun F σ H ρ d ρ' Q R hf k => h3 F σ H ρ d ρ' Q R hf fun v H' p r => k v H' p (.k (Vr.weak r.vr))⟩
end
end
end DL
namespace DL
open L2 PyProof.Rows PySem PySem.Spec
/-! ## methods of values -/
def tyIs : String → D → Bool
  | "str", .str _ => true
  | "list", .list _ => true
  | _, _ => false
theorem tyIs_v {K : Fg} {O : Ad} {H : Hp} {T : String} {x : V} {d : D} (h : tyIs T d = true) (b : Bw K O H x d) : tyV K T x H := by
  unfold tyIs at h
  split at h
  · rw [b.str]; rfl
  · obtain ⟨l, xs, rfl, h1, _⟩ := b.list
    exact .inl ⟨rfl, xs, h1⟩
  · cases h
def MdD (X : Cx) (kd : Kd) (id : String) (g : D → List D → Option D) : Prop :=
  MtR X id fun x xs H Q => ∃ (O : Ad) (d : D) (ds : List D) (z : D), (∀ a, O a → Live H a) ∧ Bw X.K O H x d ∧ BwL X.K O H xs ds ∧ g d ds = some z ∧ ∀ v H', Same H H' → Vr X.K kd O H H' v z → Q v H'
def puM (T : String) (g : D → List D → Option D) (f : Rho → Option D) (fa : Rho → Option (List D)) : Rho → Option D := fun ρ => (f ρ).bind fun a => if tyIs T a = true then (fa ρ).bind (g a) else none
def seqM (T : String) (g : D → List D → Option D) (f : Rho → Option D) (fa : Af) : Ef := fun ρ => (f ρ).bind fun a => if tyIs T a = true then (fa ρ).bind fun r => (g a r.1).map fun z => (z, r.2) else none
section
variable {X : Cx} {m : Bool} {kd k1 : Kd} {o e : Expr} {es : List Expr} {name : Str} {apos cpos : Pos} {T id : String} {g : D → List D → Option D} {f : Rho → Option D}
theorem eg_meth {fa : Af} (pa : PlainAttrs T) (slot : Slot T name id) (hty : typeOf (.builtin id) = pure (.type "method_descriptor")) (hm : MdD X kd id g) (ho : EP X k1 o f) (ha : AG X m (e :: es) fa) (w : wait k1 m = true := by rfl)
    (hbase : attributeBase o name X.env (eval o X.env) = eval o X.env := by rfl)
    (hfew : ((backTo cpos (starEach (e :: es) X.env)).all (fun x => !x.1) && (backToKw cpos (keywordEach [] X.env)).all (fun x => x.1.isSome) && decide ((e :: es).length + ([] : List Keyword).length + (if ([] : List Keyword).isEmpty then 0 else 1) < 30)) = true := by rfl)
    (hline : (apos.endLine == cpos.line) = true := by rfl) (hs : starEach (e :: es) X.env = (false, eval e X.env) :: starEach es X.env := by rfl) (hplain : (backTo cpos (starEach es X.env)).any (·.1) = false := by rfl) :
    EG X m kd (.Call (.Attribute o name apos) (e :: es) [] cpos) (seqM T g f fa) := by
  obtain ⟨to, ho1, ho2⟩ := ho.ex
  obtain ⟨t, h1, h2⟩ := ha.ex
  refine ⟨_, pe_bm pa slot hty hm ho1 h1 hbase hfew hline hs hplain, fun F σ H ρ d ρ' Q R hf k => ?_⟩
  obtain ⟨a, e1, hf⟩ := Option.bind_eq_some_iff.mp hf
  by_cases ht : tyIs T a = true
  case neg => rw [if_neg ht] at hf; cases hf
  rw [if_pos ht] at hf
  obtain ⟨⟨ds, ρ1⟩, e2, hf⟩ := Option.bind_eq_some_iff.mp hf
  obtain ⟨z, e3, hf⟩ := Option.map_eq_some_iff.mp hf
  cases hf
  refine ho2 F σ H ρ a ρ _ R (lift_some.mpr ⟨e1, rfl⟩) fun v H1 p1 r1 => ⟨tyIs_v ht r1.bw, ?_⟩
  refine h2 F σ H1 ρ ds _ _ p1.rl e2 fun vs H2 p2 r2 => ?_
  have p := (p1.trans p2).weak (n := m) (by simp)
  exact ⟨Ow F σ _, a, ds, d, p2.rl.domL, Vr.later r1.vr w p2, r2.bw, e3, fun z H3 s3 r3 => k z H3 (p.more s3) (.of p2.rl s3 r3 p.ev.dom)⟩
theorem ep_meth {fa : Rho → Option (List D)} (pa : PlainAttrs T) (slot : Slot T name id) (hty : typeOf (.builtin id) = pure (.type "method_descriptor")) (hm : MdD X kd id g) (ho : EP X k1 o f) (ha : AB X (e :: es) fa)
    (hbase : attributeBase o name X.env (eval o X.env) = eval o X.env := by rfl)
    (hfew : ((backTo cpos (starEach (e :: es) X.env)).all (fun x => !x.1) && (backToKw cpos (keywordEach [] X.env)).all (fun x => x.1.isSome) && decide ((e :: es).length + ([] : List Keyword).length + (if ([] : List Keyword).isEmpty then 0 else 1) < 30)) = true := by rfl)
    (hline : (apos.endLine == cpos.line) = true := by rfl) (hs : starEach (e :: es) X.env = (false, eval e X.env) :: starEach es X.env := by rfl) (hplain : (backTo cpos (starEach es X.env)).any (·.1) = false := by rfl) :
    EP X kd (.Call (.Attribute o name apos) (e :: es) [] cpos) (puM T g f fa) := by
  obtain ⟨to, ho1, ho2⟩ := ho.ex
  obtain ⟨t, h1, h2⟩ := ha.ex
  refine ⟨_, pe_bm pa slot hty hm ho1 h1 hbase hfew hline hs hplain, fun F σ H ρ d ρ' Q R hf k => ?_⟩
  obtain ⟨hf, rfl⟩ := lift_some.mp hf
  obtain ⟨a, e1, hf⟩ := Option.bind_eq_some_iff.mp hf
  by_cases ht : tyIs T a = true
  case neg => rw [if_neg ht] at hf; cases hf
  rw [if_pos ht] at hf
  obtain ⟨ds, e2, e3⟩ := Option.bind_eq_some_iff.mp hf
  refine ho2 F σ H ρ' a ρ' _ R (lift_some.mpr ⟨e1, rfl⟩) fun v H1 p1 r1 => ⟨tyIs_v ht r1.bw, ?_⟩
  refine h2 F σ H1 ρ' ds _ p1.rl e2 fun vs H2 R2 s2 r2 => ?_
  have s := (p1.pu rfl).2.trans s2
  exact ⟨Ow F σ ρ', a, ds, d, R2.domL, r1.bw.mono (hide_same s2) s2, r2, e3, fun z H3 s3 r3 => k z H3 (.grow R (s.trans s3)) (.of R2 s3 r3 fun a h => sameDom s h)⟩
theorem ep_meth0 (pa : PlainAttrs T) (slot : Slot T name id) (hty : typeOf (.builtin id) = pure (.type "method_descriptor")) (hm : MdD X kd id g) (ho : EP X k1 o f)
    (hbase : attributeBase o name X.env (eval o X.env) = eval o X.env := by rfl) (hline : (apos.endLine == cpos.line) = true := by rfl) :
    EP X kd (.Call (.Attribute o name apos) [] [] cpos) (puM T g f aN) := by
  obtain ⟨to, ho1, ho2⟩ := ho.ex
  refine ⟨_, pe_bm0 pa slot hty hm ho1 hbase hline, fun F σ H ρ d ρ' Q R hf k => ?_⟩
  obtain ⟨hf, rfl⟩ := lift_some.mp hf
  obtain ⟨a, e1, hf⟩ := Option.bind_eq_some_iff.mp hf
  by_cases ht : tyIs T a = true
  case neg => rw [if_neg ht] at hf; cases hf
  rw [if_pos ht] at hf
  refine ho2 F σ H ρ' a ρ' _ R (lift_some.mpr ⟨e1, rfl⟩) fun v H1 p1 r1 => ⟨tyIs_v ht r1.bw, ?_⟩
  exact ⟨Ow F σ ρ', a, [], d, p1.rl.domL, r1.bw, .nil, hf, fun z H3 s3 r3 => k z H3 (p1.more s3) (.of p1.rl s3 r3 p1.ev.dom)⟩
/-! texts -/
def upperD : D → List D → Option D
  | .str a, [] => if Nat.ble a.length 5592405 = true then some (.str (Txt.upper a)) else none
  | _, _ => none
def lowerD : D → List D → Option D
  | .str a, [] => if Nat.ble a.length 5592405 = true then some (.str (Txt.lower a)) else none
  | _, _ => none
theorem md_upper : MdD X .k "str.upper" upperD := by
  intro pins s σ H x xs v us Q I rx rs ⟨O, d, ds, z, dom, bx, bs, hz, k⟩
  unfold upperD at hz
  split at hz
  · obtain ⟨hl, rfl⟩ := ite_some hz
    cases bs
    exact mt_upper pins s σ H x _ v us Q I rx rs ⟨_, bx.str, rfl, Nat.le_of_ble_eq_true hl, k _ H (.refl _) (.str _)⟩
  · cases hz
theorem md_lower : MdD X .k "str.lower" lowerD := by
  intro pins s σ H x xs v us Q I rx rs ⟨O, d, ds, z, dom, bx, bs, hz, k⟩
  unfold lowerD at hz
  split at hz
  · obtain ⟨hl, rfl⟩ := ite_some hz
    cases bs
    exact mt_lower pins s σ H x _ v us Q I rx rs ⟨_, bx.str, rfl, Nat.le_of_ble_eq_true hl, k _ H (.refl _) (.str _)⟩
  · cases hz
def strsOf : List D → Option (List Str)
  | [] => some []
  | .str i :: ds => (strsOf ds).map (i :: ·)
  | _ :: _ => none
theorem strsOf_some : ∀ {ds : List D} {ns : List Str}, strsOf ds = some ns → ds = ns.map .str
  | [], _, h => by cases h; rfl
  | .str i :: ds, _, h => by
    obtain ⟨ns, h1, rfl⟩ := Option.map_eq_some_iff.mp h
    rw [strsOf_some h1]
    rfl
  | .none :: _, _, h => by cases h
  | .bool _ :: _, _, h => by cases h
  | .int _ :: _, _, h => by cases h
  | .list _ :: _, _, h => by cases h
  | .tuple _ :: _, _, h => by cases h
  | .dict _ :: _, _, h => by cases h
theorem strsOf_map : ∀ ns : List Str, strsOf (ns.map .str) = some ns
  | [] => rfl
  | n :: ns => by
    show (strsOf (ns.map .str)).map (n :: ·) = _
    rw [strsOf_map ns]
    rfl
def joinD : D → List D → Option D
  | .str a, [d] => (listOf d).bind fun ds => (strsOf ds).bind fun ys => if Nat.ble ((ys.map (·.length)).sum + ys.length * a.length) 16777216 = true then some (.str (Txt.join a ys)) else none
  | _, _ => none
theorem md_join : MdD X .k "str.join" joinD := by
  intro pins s σ H x xs v us Q I rx rs ⟨O, d, ds, z, dom, bx, bs, hz, k⟩
  unfold joinD at hz
  split at hz
  · obtain ⟨l, e1, hz⟩ := Option.bind_eq_some_iff.mp hz
    obtain ⟨ys, e2, hz⟩ := Option.bind_eq_some_iff.mp hz
    obtain ⟨hl, rfl⟩ := ite_some hz
    have e2 := strsOf_some e2
    subst e2
    obtain ⟨u, rfl, bu⟩ := bs.one
    rcases listOf_some e1 with rfl | rfl
    · obtain ⟨p, ws, rfl, h1, t1⟩ := bu.list
      have := t1.strs
      subst this
      exact mt_join pins s σ H x _ v us Q I rx rs ⟨_, p, ys, bx.str, rfl, .inl h1, Nat.le_of_ble_eq_true hl, k _ H (.refl _) (.str _)⟩
    · obtain ⟨p, ws, rfl, h1, t1⟩ := bu.tuple
      have := t1.strs
      subst this
      exact mt_join pins s σ H x _ v us Q I rx rs ⟨_, p, ys, bx.str, rfl, .inr (.of (hide_sub _ _ h1)), Nat.le_of_ble_eq_true hl, k _ H (.refl _) (.str _)⟩
  · cases hz
/-! list.count(x), list.index(x) -/
def countD : D → List D → Option D
  | .list ds, [d] => if (plOk ds && dOk d) = true then some (.int ((ds.countP fun y => PyData.eqv y d : Nat) : Int)) else none
  | _, _ => none
theorem md_count (hu : X.A.units + 64 < cLine) : MdD X .k "list.count" countD := by
  intro pins s σ H x xs v us Q I rx rs ⟨O, d, ds, z, dom, bx, bs, hz, k⟩
  unfold countD at hz
  split at hz
  · obtain ⟨hc, rfl⟩ := ite_some hz
    rw [Bool.and_eq_true, plOk_iff, dOk_iff] at hc
    obtain ⟨u, rfl, bu⟩ := bs.one
    obtain ⟨w, rfl, rw'⟩ := vals1 rs
    obtain ⟨a, ws, its, rfl, t, rv, _, hl⟩ := bw_seq I rx bx (.inl rfl)
    obtain ⟨as, hr⟩ := DnL.reads I hide_sub t hc.1.1 rv
    obtain ⟨bs', hr2⟩ := bu.reads I hc.2.1 rw'
    rcases hl with ⟨_, hl⟩ | ⟨h, _⟩
    · exact PySem.SeqAt.count_list_data hl hr hr2 hc.1.1 hc.2.1 (by omega) ⟨.int _, H, I.tok _, ⟨_, rfl⟩, k _ H (.refl _) (.int _)⟩
    · cases h
  · cases hz
/-! list(range(..)), tuple(range(..)) are told by DLu; sorted(a list) -/
def sortLe (a b : D) : Bool := !PySem.W.dataLt b a
def tup1 : D → Bool
  | .tuple (_ :: _) => true
  | _ => false
def noTup : D → Bool
  | .none => false
  | .tuple _ => false
  | _ => true
def sortOk (ds : List D) : Bool := allAlike ds && plOk ds && (ds.all tup1 || ds.all noTup)
def sortD : D → Option D
  | .list ds => if sortOk ds = true then some (.list (ds.mergeSort sortLe)) else none
  | _ => none
theorem depth_mem : ∀ {ds : List D} {b : D}, b ∈ ds → b.depth ≤ PyData.depthAll ds
  | y :: ys, b, h => by
    rw [PyData.depthAll]
    rcases List.mem_cons.mp h with rfl | h
    · omega
    · have := depth_mem h
      omega
theorem eachV {K : Fg} {G : Hp} : ∀ {vs : List V} {us : List Value} {ds : List D}, DnL K G vs ds → Vals vs us → PySem.W.EachIs (fun u d => ∃ v, RelV v u ∧ Dn K G v d) us ds
  | _, _, _, .nil, .nil => .nil
  | _, _, _, .cons h t, .cons r rs => .cons ⟨_, r, h⟩ (eachV t rs)
theorem eachV_out {K : Fg} {G : Hp} : ∀ {us : List Value} {ds : List D}, PySem.W.EachIs (fun u d => ∃ v, RelV v u ∧ Dn K G v d) us ds → ∃ vs, Vals vs us ∧ DnL K G vs ds
  | _, _, .nil => ⟨[], .nil, .nil⟩
  | _, _, .cons ⟨v, r, h⟩ t => by
    obtain ⟨vs, h1, h2⟩ := eachV_out t
    exact ⟨v :: vs, .cons r h1, .cons h h2⟩
theorem cd_sorted {kd : Kd} (hk : isF kd) (hu : X.A.units + 64 < cLine) : CallD X kd (.builtin "sorted") (on1 sortD) := cd_one (fun _ _ h => on1_some h) fun pins s σ H O x v d z Q I rx dom bx hz k => by
  unfold sortD at hz
  split at hz
  · rename_i ds
    obtain ⟨hc, rfl⟩ := ite_some hz
    unfold sortOk at hc
    rw [Bool.and_eq_true, Bool.and_eq_true, plOk_iff, Bool.or_eq_true] at hc
    obtain ⟨⟨hal, hp, hd⟩, hk'⟩ := hc
    obtain ⟨a, xs, its, rfl, t, rv, hz', hl⟩ := bw_seq I rx bx (.inl rfl)
    rcases hl with ⟨_, hl⟩ | ⟨h, _⟩
    case inr => cases h
    obtain ⟨as, hr⟩ := DnL.reads I hide_sub t hp rv
    have er := PySem.W.readsAll_each (fun d : D => d) (bs := ds) (by rw [List.map_id']; exact hr)
    have len := t.length
    have hdep : ∀ b ∈ ds, b.depth ≤ PyData.depthAll ds := fun b hb => by
      exact depth_mem hb
    refine PySem.W.sorted_data (enc := fun d : D => d) hl (eachV t rv) er (by rw [List.map_id']; exact allAlike_iff hal) (by
      rw [List.map_id']
      rcases hk' with h | h
      · refine .inl fun d hd => ?_
        have := List.all_eq_true.mp h d hd
        unfold tup1 at this
        split at this
        · exact ⟨_, _, rfl⟩
        · cases this
      · refine .inr fun d hd => ?_
        have := List.all_eq_true.mp h d hd
        exact ⟨fun e => (by subst e; cases this), fun xs e => (by subst e; cases this)⟩) (by omega) (fun b hb => by have := hdep b hb; omega) fun out ho he => ?_
    have es : ds.mergeSort (PySem.W.dataLe false fun d : D => d) = ds.mergeSort sortLe := by
      rw [PySem.W.dataLe_eq]
      rfl
    rw [es] at he
    obtain ⟨ys, r1, r2⟩ := eachV_out he
    obtain ⟨e, hx⟩ := PyProof.Rows.sortedAll_at s.heap its out.toArray
    have hp' : s.heap.objs.size ≤ s.heap.objs.size + 1 := Nat.le_succ _
    have hf := I.hok.fresh hp'
    refine ⟨.ref _, upd H (s.heap.objs.size + 1) (.lst ys), I.laid (t' := s.toks) (fun b u q => PyProof.Rows.sortedAll_old q) hp' ⟨?_, out, e, r1, hx⟩, rfl, k _ _ (sameNew hf) (newL hk hf dom r2)⟩
    rw [r1.length, ho]
    omega
  · cases hz
end
end DL
namespace DL
open L2 PyProof.Rows PySem PySem.Spec
/-! ## list(range(..)), tuple(range(..)) -/
def rgOk (i j : Int) : Bool := bnd i && bnd j && Nat.ble (j - i).toNat lim
theorem rgOk_iff {i j : Int} (h : rgOk i j = true) : RgOk i j := by
  unfold rgOk at h
  rw [Bool.and_eq_true, Bool.and_eq_true, Nat.ble_eq] at h
  obtain ⟨b1, b2⟩ := bnd_of h.1.1
  obtain ⟨b3, b4⟩ := bnd_of h.1.2
  exact ⟨b1, b2, b3, b4, h.2⟩
def rgL1 : D → Option D
  | .int j => if rgOk 0 j = true then some (.list (rgI 0 j.toNat)) else none
  | _ => none
def rgL2 : D → D → Option D
  | .int i, .int j => if rgOk i j = true then some (.list (rgI i (j - i).toNat)) else none
  | _, _ => none
def rgT1 : D → Option D
  | .int j => if rgOk 0 j = true then some (.tuple (rgI 0 j.toNat)) else none
  | _ => none
def rgT2 : D → D → Option D
  | .int i, .int j => if rgOk i j = true then some (.tuple (rgI i (j - i).toNat)) else none
  | _, _ => none
theorem dn_rg {K : Fg} {G : Hp} (a b : Int) : DnL K G (rgV a b) (rgI a (b - a).toNat) := by
  unfold rgV rgI
  induction (List.range (b - a).toNat) with
  | nil => exact .nil
  | cons x l ih => exact .cons (.int _) ih
section
variable {X : Cx} {p q pos : Pos} {a b : Expr} {k1 k2 : Kd} {fa fb : Rho → Option D} {pr : Pos}
theorem ep_listrange1 (hc : X.calm = true) (hg : Gl X "list") (hm : X.mg "list" = none) (hgr : Gl X "range") (hmr : X.mg "range" = none) (ha : EP X k1 a fa) (na : starEach [a] X.env = (false, eval a X.env) :: starEach [] X.env := by rfl)
    (ne : starEach [.Call (.Name "range" q) [a] [] pr] X.env = (false, eval (.Call (.Name "range" q) [a] [] pr) X.env) :: starEach [] X.env := by rfl) : EP X .f (.Call (.Name "list" p) [.Call (.Name "range" q) [a] [] pr] [] pos) (pu1 rgL1 fa) := by
  obtain ⟨t, h1, h2⟩ := ha.ex
  refine ⟨_, pe_listRg hc hg hm (prg_1 hgr hmr h1 na) ne, fun F σ H ρ d ρ' Q R hf k => ?_⟩
  obtain ⟨hf, rfl⟩ := lift_some.mp hf
  obtain ⟨x, e1, e2⟩ := Option.bind_eq_some_iff.mp hf
  refine h2 F σ H ρ' x ρ' _ R (lift_some.mpr ⟨e1, rfl⟩) fun v H1 p1 r1 => ?_
  cases x with
  | int j =>
    obtain ⟨ok, rfl⟩ := ite_some e2
    refine ⟨j, r1.bw.int, rgOk_iff ok, fun q hq => ?_⟩
    refine k _ _ (p1.more (sameNew hq)) (.of p1.rl (sameNew hq) (newL (kd := .f) trivial hq p1.rl.domL ?_) p1.ev.dom)
    have := dn_rg (K := X.K) (G := hide H1 (Ow F σ ρ')) 0 j
    rw [Int.sub_zero] at this
    exact this
  | _ => cases e2
theorem ep_tuplerange1 (hc : X.calm = true) (hg : Gl X "tuple") (hm : X.mg "tuple" = none) (hgr : Gl X "range") (hmr : X.mg "range" = none) (ha : EP X k1 a fa) (na : starEach [a] X.env = (false, eval a X.env) :: starEach [] X.env := by rfl)
    (ne : starEach [.Call (.Name "range" q) [a] [] pr] X.env = (false, eval (.Call (.Name "range" q) [a] [] pr) X.env) :: starEach [] X.env := by rfl) : EP X .k (.Call (.Name "tuple" p) [.Call (.Name "range" q) [a] [] pr] [] pos) (pu1 rgT1 fa) := by
  obtain ⟨t, h1, h2⟩ := ha.ex
  refine ⟨_, pe_tupRg hc hg hm (prg_1 hgr hmr h1 na) ne, fun F σ H ρ d ρ' Q R hf k => ?_⟩
  obtain ⟨hf, rfl⟩ := lift_some.mp hf
  obtain ⟨x, e1, e2⟩ := Option.bind_eq_some_iff.mp hf
  refine h2 F σ H ρ' x ρ' _ R (lift_some.mpr ⟨e1, rfl⟩) fun v H1 p1 r1 => ?_
  cases x with
  | int j =>
    obtain ⟨ok, rfl⟩ := ite_some e2
    refine ⟨j, r1.bw.int, rgOk_iff ok, fun q hq => ?_⟩
    refine k _ _ (p1.more (sameNew hq)) (.of p1.rl (sameNew hq) (newT (H0 := H1) hq p1.rl.domL ?_) p1.ev.dom)
    have := dn_rg (K := X.K) (G := hide H1 (Ow F σ ρ')) 0 j
    rw [Int.sub_zero] at this
    exact this
  | _ => cases e2
theorem ep_listrange2 (hc : X.calm = true) (hg : Gl X "list") (hm : X.mg "list" = none) (hgr : Gl X "range") (hmr : X.mg "range" = none) (ha : EP X k1 a fa) (hb : EP X k2 b fb) (na : starEach [a, b] X.env = (false, eval a X.env) :: starEach [b] X.env := by rfl) (nb : starEach [b] X.env = (false, eval b X.env) :: starEach [] X.env := by rfl)
    (hp : (backTo pr (starEach [b] X.env)).any (·.1) = false := by rfl) (ne : starEach [.Call (.Name "range" q) [a, b] [] pr] X.env = (false, eval (.Call (.Name "range" q) [a, b] [] pr) X.env) :: starEach [] X.env := by rfl) : EP X .f (.Call (.Name "list" p) [.Call (.Name "range" q) [a, b] [] pr] [] pos) (pu2 rgL2 fa fb) := by
  obtain ⟨t, h1, h2⟩ := ha.ex
  obtain ⟨t', g1, g2⟩ := hb.ex
  refine ⟨_, pe_listRg hc hg hm (prg_2 hgr hmr h1 g1 na nb hp) ne, fun F σ H ρ d ρ' Q R hf k => ?_⟩
  obtain ⟨hf, rfl⟩ := lift_some.mp hf
  obtain ⟨x, e1, e2⟩ := Option.bind_eq_some_iff.mp hf
  obtain ⟨y, e3, e4⟩ := Option.bind_eq_some_iff.mp e2
  refine h2 F σ H ρ' x ρ' _ R (lift_some.mpr ⟨e1, rfl⟩) fun v H1 p1 r1 => ?_
  refine g2 F σ H1 ρ' y ρ' _ p1.rl (lift_some.mpr ⟨e3, rfl⟩) fun u H2 p2 r2 => ?_
  unfold rgL2 at e4
  split at e4
  · obtain ⟨ok, rfl⟩ := ite_some e4
    have p := p1.trans p2
    exact ⟨_, _, r1.bw.int, r2.bw.int, rgOk_iff ok, fun q hq => k _ _ (p.more (sameNew hq)) (.of p2.rl (sameNew hq) (newL (kd := .f) trivial hq p2.rl.domL (dn_rg _ _)) p.ev.dom)⟩
  · cases e4
theorem ep_tuplerange2 (hc : X.calm = true) (hg : Gl X "tuple") (hm : X.mg "tuple" = none) (hgr : Gl X "range") (hmr : X.mg "range" = none) (ha : EP X k1 a fa) (hb : EP X k2 b fb) (na : starEach [a, b] X.env = (false, eval a X.env) :: starEach [b] X.env := by rfl) (nb : starEach [b] X.env = (false, eval b X.env) :: starEach [] X.env := by rfl)
    (hp : (backTo pr (starEach [b] X.env)).any (·.1) = false := by rfl) (ne : starEach [.Call (.Name "range" q) [a, b] [] pr] X.env = (false, eval (.Call (.Name "range" q) [a, b] [] pr) X.env) :: starEach [] X.env := by rfl) : EP X .k (.Call (.Name "tuple" p) [.Call (.Name "range" q) [a, b] [] pr] [] pos) (pu2 rgT2 fa fb) := by
  obtain ⟨t, h1, h2⟩ := ha.ex
  obtain ⟨t', g1, g2⟩ := hb.ex
  refine ⟨_, pe_tupRg hc hg hm (prg_2 hgr hmr h1 g1 na nb hp) ne, fun F σ H ρ d ρ' Q R hf k => ?_⟩
  obtain ⟨hf, rfl⟩ := lift_some.mp hf
  obtain ⟨x, e1, e2⟩ := Option.bind_eq_some_iff.mp hf
  obtain ⟨y, e3, e4⟩ := Option.bind_eq_some_iff.mp e2
  refine h2 F σ H ρ' x ρ' _ R (lift_some.mpr ⟨e1, rfl⟩) fun v H1 p1 r1 => ?_
  refine g2 F σ H1 ρ' y ρ' _ p1.rl (lift_some.mpr ⟨e3, rfl⟩) fun u H2 p2 r2 => ?_
  unfold rgT2 at e4
  split at e4
  · obtain ⟨ok, rfl⟩ := ite_some e4
    have p := p1.trans p2
    exact ⟨_, _, r1.bw.int, r2.bw.int, rgOk_iff ok, fun q hq => k _ _ (p.more (sameNew hq)) (.of p2.rl (sameNew hq) (newT (H0 := H2) hq p2.rl.domL (dn_rg _ _)) p.ev.dom)⟩
  · cases e4
end
/-! ## slices whose bounds change the state -/
def oE (f : Ef) : Rho → Option (Option Int × Rho) := fun ρ => (f ρ).bind fun d => (intOf d.1).map fun i => (some i, d.2)
def oL (f : Rho → Option (Option Int)) : Rho → Option (Option Int × Rho) := fun ρ => (f ρ).map fun o => (o, ρ)
structure OE (X : Cx) (m : Bool) (e : Option Expr) (f : Rho → Option (Option Int × Rho)) : Prop where
  ex : ∃ t : TO, PO X e t ∧ ∀ (F : Fx) (σ : L2.St) (H : Hp) (ρ : Rho) (o : Option Int) (ρ' : Rho) (Q : Option Int → Hp → Prop), Rl X.K F σ H ρ → f ρ = some (o, ρ') →
    (∀ H', Po X.K F m σ H ρ H' ρ' → Q o H') → t σ H Q
theorem oe_of {X : Cx} {e : Option Expr} {f : Rho → Option (Option Int)} (h : OG X e f) : OE X true e (oL f) := by
  obtain ⟨t, h1, h2⟩ := h.ex
  refine ⟨t, h1, fun F σ H ρ o ρ' Q R hf k => ?_⟩
  obtain ⟨o', e1, e2⟩ := Option.map_eq_some_iff.mp hf
  cases e2
  exact h2 F σ H ρ o Q R e1 fun H' R' s => k H' (.grow R s)
theorem oe_some {X : Cx} {m : Bool} {e : Expr} {kd : Kd} {f : Ef} (h : EG X m kd e f) : OE X m (some e) (oE f) := by
  obtain ⟨t, h1, h2⟩ := h.ex
  refine ⟨_, po_some h1, fun F σ H ρ o ρ' Q R hf k => ?_⟩
  obtain ⟨⟨d, ρ1⟩, e1, e2⟩ := Option.bind_eq_some_iff.mp hf
  obtain ⟨i, e3, e4⟩ := Option.map_eq_some_iff.mp e2
  cases e4
  have e5 := intOf_some e3
  subst e5
  exact h2 F σ H ρ _ ρ1 _ R e1 fun v H' p r => ⟨i, r.bw.int, k H' p⟩
def seqS (g : D → Option Int → Option Int → Option D) (fa : Ef) (fl fh : Rho → Option (Option Int × Rho)) : Ef := fun ρ => (fa ρ).bind fun a => (fl a.2).bind fun l => (fh l.2).bind fun h => (g a.1 l.1 h.1).map fun z => (z, h.2)
theorem eg_sl {X : Cx} {m m1 m2 : Bool} {kd k1 : Kd} {g : D → Option Int → Option Int → Option D} {a : Expr} {lo hi : Option Expr} {fa : Ef} {fl fh : Rho → Option (Option Int × Rho)} {p2 pos : Pos} (hg : SlD X kd g) (ha : EG X m k1 a fa) (hl : OE X m1 lo fl) (hh : OE X m2 hi fh) (w : wait k1 (m1 && m2) = true := by rfl) : EG X (m && (m1 && m2)) kd (.Subscript a (.Slice lo hi none p2) pos) (seqS g fa fl fh) := by
  obtain ⟨ta, ha1, ha2⟩ := ha.ex
  obtain ⟨tl, hl1, hl2⟩ := hl.ex
  obtain ⟨th, hh1, hh2⟩ := hh.ex
  refine ⟨_, pe_slice hg ha1 hl1 hh1, fun F σ H ρ d ρ' Q R hf k => ?_⟩
  obtain ⟨⟨x, ρ1⟩, e1, hf⟩ := Option.bind_eq_some_iff.mp hf
  obtain ⟨⟨l, ρ2⟩, e2, hf⟩ := Option.bind_eq_some_iff.mp hf
  obtain ⟨⟨h, ρ3⟩, e3, hf⟩ := Option.bind_eq_some_iff.mp hf
  obtain ⟨z, e4, hf⟩ := Option.map_eq_some_iff.mp hf
  cases hf
  refine ha2 F σ H ρ x ρ1 _ R e1 fun v H1 p1 r1 => ?_
  refine hl2 F σ H1 ρ1 l ρ2 _ p1.rl e2 fun H2 p2 => ?_
  refine hh2 F σ H2 ρ2 h ρ3 _ p2.rl e3 fun H3 p3 => ?_
  have p := p1.trans (p2.trans p3)
  exact ⟨Ow F σ ρ3, x, d, p3.rl.domL, Vr.later r1.vr w (p2.trans p3), e4, fun z H4 s4 r4 => k z H4 (p.more s4) (.of p3.rl s4 r4 p.ev.dom)⟩
end DL
namespace DL
open L2 PyProof.Rows PySem PySem.Spec
/-! ## own += list -/
theorem iadd_meets (l : Addr) (items : Array Value) (n : Nat) (b : Addr) (items2 : Array Value) (n2 : Nat) (dd : Option Addr) (sl : Array (Option Value)) (hs0 : ¬(!items.isEmpty && Builtin.List.listTooLong (items.size + items2.size)) = true) (hs1 : items.size ≤ sizeLine) (hs2 : items.size + items2.size ≤ sizeLine + 1) :
    Meets (Builtin.«list.__iadd__» ⟨[.ref l, .ref b], []⟩) (fun _ R s => s.heap.get? l = some { cls := .type "list", dict := none, data := .seq items n, slots := #[] } ∧ s.heap.get? b = some { cls := .type "list", dict := dd, data := .seq items2 n2, slots := sl } ∧ R (.ok (.ret (Value.ref l))) { s with heap := s.heap.update l (Obj.mapSeq fun x => x ++ items2), toks := s.toks }) :=
  .of_wp fun prog w A R s h => by
    obtain ⟨hp, g, d, tk, os⟩ := s
    obtain ⟨hl, hb, h⟩ := h
    have f1 := AutoSeq1.idx_int
    have f2 := AutoSeq1.sub_tuple_tuple
    have f3 := AutoSeq1.sub_list_list
    have f4 := AutoSeq1.sub_tuple_list
    have f5 := AutoSeq1.sub_list_tuple
    have hz' : (items ++ items2).size ≤ sizeLine + 1 := by rw [Array.size_append]; exact hs2
    wp_walk using (wpAny_updateSeq hl rfl (hz := hs1) (_hz' := hz')), AutoSeq1.wpAny_loadPart' hl, AutoSeq1.wpAny_loadPart' hb
    exact ⟨_, rfl, h⟩
def rExtL (K : Fg) : TIp := fun x y H Q => ∃ l b xs zs, x = .ref l ∧ y = .ref b ∧ H l = some (.lst xs) ∧ SqL K H b zs ∧ xs.length + zs.length ≤ sizeLine ∧ Q (.ref l) (upd H l (.lst (xs ++ zs)))
section
variable {X : Cx} {m : Bool} {kr kd : Kd} {i : Nat} {x : Str} {p pos : Pos} {e : Expr}
theorem ip_ext : PIp X .Add (rExtL X.K) := by
  intro pins s σ H x y v u Q I rx ry h
  obtain ⟨l, b, xs, zs, rfl, rfl, hH, hB, hz, q⟩ := h
  cases rx
  cases ry
  obtain ⟨z, its, n, r, hl, e⟩ := I.lstM hH
  obtain ⟨its2, r2, ⟨⟨c2, dd2, d2, sl2⟩, n2, e2, k3, _, k4⟩, z2⟩ := I.list hB
  simp only at k3 k4
  subst k3 k4
  have l2 := r2.length
  have hsz : its.toArray.size + its2.toArray.size ≤ sizeLine := by rw [List.size_toArray, List.size_toArray]; omega
  have hlong : ¬ (!its.toArray.isEmpty && Builtin.List.listTooLong (its.toArray.size + its2.toArray.size)) = true := by
    rw [notLongL hsz, Bool.and_false]
    exact Bool.false_ne_true
  refine iadd_road ⟨_, e, rfl⟩ ⟨_, e2, rfl⟩ (call_meets PySem.F.slot_list_iadd ⟨_, e, rfl⟩ PySem.F.entry_list_iadd (PySem.F.args_list_iadd_2 _ _)
    (iadd_meets l its.toArray n b its2.toArray n2 dd2 sl2 hlong (by rw [List.size_toArray]; omega) (by omega)) ⟨e, e2, ?_⟩)
  refine ⟨.ref l, _, I.lset (its' := its ++ its2) (t' := s.toks) hH e (by simp) (r.append r2) ?_, rfl, q⟩
  rw [List.length_append]
  omega
def sAugL (i : Nat) (fe : Ef) : Sf := fun ρ => (ownd i ρ).bind fun c0 => (lstOf c0).bind fun _ => (fe ρ).bind fun b => (ownd i b.2).bind fun c => (lstOf c).bind fun ds => (lstOf b.1).bind fun es =>
  if Nat.ble (ds.length + es.length) lim = true then some (.nx (wr i (.list (ds ++ es)) b.2)) else none
theorem sg_augL {fe : Ef} (hN : X.N.Nodup) (hi : X.N[i]? = some x) (hx : Loc X.env.scope x) (he : EG X m .k e fe) (hf : X.fn x = true ∨ X.env.scope.names.lookup x = some .local := by first | exact .inl rfl | exact .inr rfl | assumption) :
    SG X kr (.AugAssign (.Name x p) .Add e pos) (sAugL i fe) := by
  obtain ⟨te, he1, he2⟩ := he.ex
  refine ⟨_, ps_aug hN hi hx he1 ip_ext hf, fun F σ H ρ o E R hf k => ?_⟩
  obtain ⟨c0, e0, hf⟩ := Option.bind_eq_some_iff.mp hf
  obtain ⟨d0, e0', hf⟩ := Option.bind_eq_some_iff.mp hf
  obtain ⟨⟨b, ρ1⟩, e1, hf⟩ := Option.bind_eq_some_iff.mp hf
  obtain ⟨c, e2, hf⟩ := Option.bind_eq_some_iff.mp hf
  obtain ⟨ds, e3, hf⟩ := Option.bind_eq_some_iff.mp hf
  obtain ⟨es, e4, hf⟩ := Option.bind_eq_some_iff.mp hf
  obtain ⟨hl, rfl⟩ := ite_some hf
  have e3 := lstOf_some e3
  have e4 := lstOf_some e4
  have e5 : b = .list es := e4
  subst e3 e5
  obtain ⟨a, s0, q1, q2, q3, t0⟩ := ownd_some R e0
  refine ⟨.ref a, q3, he2 F σ H ρ _ ρ1 _ R e1 fun v H1 p1 r1 => ?_⟩
  obtain ⟨a', s, g1, g2, g3, t1⟩ := ownd_some p1.rl e2
  rw [q3] at g3
  cases g3
  obtain ⟨xs, hx', hd⟩ := top_list t1
  obtain ⟨bb, zs, rfl, hb, hdz⟩ := (Bw.list (.inl r1.vr) : ∃ a xs, v = .ref a ∧ SqL X.K H1 a xs ∧ DnL X.K (hide H1 (Ow F σ ρ1)) xs es)
  refine ⟨a, bb, xs, zs, rfl, rfl, hx', hb, by rw [hd.length, hdz.length]; exact lim_ble hl, ?_⟩
  obtain ⟨R2, ev2⟩ := p1.rl.write (o := .lst (xs ++ zs)) (d := .list (ds ++ es)) g1 g2 q3 ⟨_, upd_same, hd.append hdz⟩
  have same : σ.set i (some (.ref a)) = σ := by
    apply List.ext_getElem?
    intro j
    by_cases hj : i = j
    · subst hj
      rw [List.getElem?_set_self (lt_of_some q3), q3]
    · rw [List.getElem?_set_ne hj]
  show E.nx (σ.set i (some (.ref a))) _
  rw [same]
  exact k _ _ R2 (p1.ev.trans ev2)
/-! list.insert, list.index -/
def gInsert (ds : List D) : List D → Option (D × List D)
  | [.int i, d] => if (Nat.blt ds.length lim && decide (0 ≤ i) && Nat.blt i.toNat 4611686018427387904) = true then some (.none, ds.take i.toNat ++ [d] ++ ds.drop i.toNat) else none
  | _ => none
theorem mu_insert : MutL X "list.insert" gInsert := by
  intro pins s σ H x vs v us Q I rx rv h
  obtain ⟨a, xs, G, ds, es, r, ds', rfl, hx, hd, he, hg, k⟩ := h
  unfold gInsert at hg
  split at hg
  · rename_i j d
    obtain ⟨hc, e⟩ := ite_some hg
    cases e
    rw [Bool.and_eq_true, Bool.and_eq_true, Nat.blt_eq, Nat.blt_eq, decide_eq_true_iff] at hc
    cases he with
    | cons h1 h2 =>
      cases h2 with
      | cons h2 h3 =>
        cases h3
        cases h1
        exact mt_insert pins s σ H _ _ v us Q I rx rv ⟨a, xs, j, _, rfl, rfl, hx, by rw [hd.length, sizeLine_eq]; exact hc.1.1, hc.1.2, by omega, k _ _ .non (((hd.take _).append (.one h2)).append (hd.drop _))⟩
  · cases hg
def indexD : D → List D → Option D
  | .list ds, [d] => if (plOk ds && dOk d) = true then (ds.findIdx? fun y => PyData.eqv y d).map fun j => .int (j : Nat) else none
  | _, _ => none
theorem md_index (hu : X.A.units + 64 < cLine) : MdD X .k "list.index" indexD := by
  intro pins s σ H x xs v us Q I rx rs ⟨O, d, ds, z, dom, bx, bs, hz, k⟩
  unfold indexD at hz
  split at hz
  · rename_i es d
    obtain ⟨hc, hz⟩ := (show (plOk es && dOk d) = true ∧ _ from by
      split at hz
      · rename_i h; exact ⟨h, hz⟩
      · cases hz)
    obtain ⟨j, hj, rfl⟩ := Option.map_eq_some_iff.mp hz
    rw [Bool.and_eq_true, plOk_iff, dOk_iff] at hc
    obtain ⟨u, rfl, bu⟩ := bs.one
    obtain ⟨w, rfl, rw'⟩ := vals1 rs
    obtain ⟨a, ws, its, rfl, t, rv, hlen, hl⟩ := bw_seq I rx bx (.inl rfl)
    obtain ⟨as, hr⟩ := DnL.reads I hide_sub t hc.1.1 rv
    obtain ⟨bs', hr2⟩ := bu.reads I hc.2.1 rw'
    rcases hl with ⟨_, hl⟩ | ⟨h, _⟩
    case inr => cases h
    obtain ⟨⟨cls, dd, data, sls⟩, ho, hcc, n, hdt⟩ := hl
    simp only at hcc hdt
    subst hcc hdt
    have hmap : its.map (SeqAt.readOf s.heap) = es := SeqAt.readsAll_map_plain es its as hc.1.1 hr
    have hn : its.length = es.length := by rw [← hmap, List.length_map]
    obtain ⟨hje, hjt, hjn⟩ := List.findIdx?_eq_some_iff_getElem.mp hj
    have hj' : j < its.toArray.size := by simpa [hn] using hje
    have at_ : ∀ (m : Nat) (hm : m < its.toArray.size), ∃ h2 : m < es.length, SeqAt.readOf s.heap its.toArray[m] = es[m] := fun m hm => by
      have hml : m < its.length := by simpa using hm
      refine ⟨by omega, ?_⟩
      subst hmap
      simp
    have hvl := rv.length
    have hsl := sizeLine_eq
    refine call_meets PySem.F.slot_list_index ⟨_, ho, rfl⟩ PySem.F.entry_list_index (PySem.F.args_list_index_2 _ _)
      (SeqAt.list_indexAt a its.toArray n dd sls w (fun u => PyData.eqv (SeqAt.readOf s.heap u) d) j hj' (by omega) ?_ ?_) ⟨ho, SeqAt.items_plain (vs := its.toArray) (show ReadsAll s.heap its.toArray.toList es as from hr) hr2 hc.1.1 hc.2.1 (by omega), ?_⟩
    · obtain ⟨_, e⟩ := at_ j hj'
      show PyData.eqv (SeqAt.readOf s.heap its.toArray[j]) d = true
      rw [e]
      exact hjt
    · intro m hm hmj
      obtain ⟨h2, e⟩ := at_ m hm
      show PyData.eqv (SeqAt.readOf s.heap its.toArray[m]) d = false
      rw [e]
      simpa using hjn m hmj
    · exact ⟨.int (j : Nat), H, I.tok _, ⟨_, rfl⟩, k _ H (.refl _) (.int _)⟩
  · cases hz
end
end DL
namespace DL
open L2 PyProof.Rows PySem PySem.Spec
/-! ## sorted of a list or a tuple -/
mutual
theorem reads_old {h : Heap} : ∀ {v : Value} {d : D} {as : List Addr}, Reads h v d as → ∀ b ∈ as, ∃ o, h.get? b = some o
  | _, _, _, .none, b, hb => by cases hb
  | _, _, _, .bool _, b, hb => by cases hb
  | _, _, _, .int _ _, b, hb => by cases hb
  | _, _, _, .str _ _, b, hb => by cases hb
  | _, _, _, .list h1 _ _ r, b, hb => by
    rcases List.mem_cons.mp hb with rfl | hb
    · exact ⟨_, h1⟩
    · exact readsAll_old r b hb
  | _, _, _, .tuple _ _ _ r, b, hb => readsAll_old r b hb
  | _, _, _, .dict h1 _ _ r1 r2, b, hb => by
    rcases List.mem_append.mp hb with hb | hb
    · rcases List.mem_cons.mp hb with rfl | hb
      · exact ⟨_, h1⟩
      · exact readsAll_old r1 b hb
    · exact readsAll_old r2 b hb
theorem readsAll_old {h : Heap} : ∀ {v : List Value} {d : List D} {as : List Addr}, ReadsAll h v d as → ∀ b ∈ as, ∃ o, h.get? b = some o
  | _, _, _, .nil, b, hb => by cases hb
  | _, _, _, .cons r1 r2, b, hb => by
    rcases List.mem_append.mp hb with hb | hb
    · exact reads_old r1 b hb
    · exact readsAll_old r2 b hb
end
theorem each_old {h h' : Heap} (k : ∀ b o, h.get? b = some o → h'.get? b = some o) {a : Addr} (ha : h.get? a = none) : ∀ {vs : List Value} {ds : List D} {as : List Addr}, ReadsAll h vs ds as → PySem.W.EachIs (fun v d => ∃ as, Reads h' v d as ∧ a ∉ as) vs ds
  | _, _, _, .nil => .nil
  | _, _, _, .cons r1 r2 => .cons ⟨_, PyProof.Rows.Reads.keeps k r1, fun hm => by
      obtain ⟨o, q⟩ := reads_old r1 a hm
      rw [ha] at q
      cases q⟩ (each_old k ha r2)
def sortA : D → Option D := fun d => (listOf d).bind fun ds => if sortOk ds = true then some (.list (ds.mergeSort sortLe)) else none
section
variable {X : Cx}
theorem cd_sort {kd : Kd} (hk : isF kd) (hu : X.A.units + 64 < cLine) : CallD X kd (.builtin "sorted") (on1 sortA) := cd_one (fun _ _ h => on1_some h) fun pins s σ H O x v d z Q I rx dom bx hz k => by
  obtain ⟨ds, hd0, hz⟩ := Option.bind_eq_some_iff.mp hz
  obtain ⟨hc, rfl⟩ := ite_some hz
  have hc0 := hc
  unfold sortOk at hc
  rw [Bool.and_eq_true, Bool.and_eq_true, plOk_iff, Bool.or_eq_true] at hc
  obtain ⟨⟨hal, hp, hd⟩, hk'⟩ := hc
  obtain ⟨a, xs, its, rfl, t, rv, hz', hl⟩ := bw_seq I rx bx (listOf_some hd0)
  obtain ⟨as, hr⟩ := DnL.reads I hide_sub t hp rv
  have len := t.length
  have hvl := rv.length
  have hsl := sizeLine_eq
  have hobj : ∃ (T : String) (o : Obj) (n : Nat), (T = "list" ∨ T = "tuple") ∧ s.heap.get? a = some o ∧ o.cls = .type T ∧ o.data = .seq its.toArray n := by
    rcases hl with ⟨_, o, h1, h2, n, h3⟩ | ⟨_, o, h1, h2, n, h3⟩
    · exact ⟨"list", o, n, .inl rfl, h1, h2, h3⟩
    · exact ⟨"tuple", o, n, .inr rfl, h1, h2, h3⟩
  obtain ⟨T, o, n, hT, ho, hcl, hdt⟩ := hobj
  refine Calls.call_function_entry kind_sorted plain_sorted entry_sorted (args_sorted1 _) ?_
  unfold Builtin.«sorted»
  refine wpAny_bind (m := PySem.checkCount "sorted" 1 1 _) (wpAny_pure ?_)
  refine wpAny_bind (wpAny_collect_seq a hT ho hcl hdt (fun h' kp => ?_) (by rw [List.size_toArray]; omega))
  refine wpAny_bind (wpAny_newList ?_ (by simp; omega))
  have I1 : Inv X pins σ H { s with heap := h' } := I.kept (t' := s.toks) kp
  have hnew : (h'.push { cls := .type "list", data := .seq its.toArray.toList.toArray }).get? h'.objs.size = some (seqObj "list" its.toArray 0) := by
    rw [Heap.get?_push_size _ rfl]
  have kp2 : ∀ b o, s.heap.get? b = some o → (h'.push { cls := .type "list", data := .seq its.toArray.toList.toArray }).get? b = some o := fun b o q => Heap.get?_push_of_some _ (kp b o q)
  have hfresh : s.heap.get? h'.objs.size = none := by
    cases q : s.heap.get? h'.objs.size with
    | none => rfl
    | some o => exact absurd (Heap.lt_size (kp _ _ q)) (Nat.lt_irrefl _)
  refine wpAny_bind (wpAny_holding ?_)
  refine PySem.W.list_sort_data (enc := fun d : D => d) (vs := its) hnew (eachV t rv) (each_old kp2 hfresh hr) (by rw [List.map_id']; exact allAlike_iff hal) (by
      rw [List.map_id']
      rcases hk' with h | h
      · refine .inl fun d hd => ?_
        have := List.all_eq_true.mp h d hd
        unfold tup1 at this
        split at this
        · exact ⟨_, _, rfl⟩
        · cases this
      · refine .inr fun d hd => ?_
        have := List.all_eq_true.mp h d hd
        exact ⟨fun e => (by subst e; cases this), fun xs e => (by subst e; cases this)⟩) (by omega) (fun b hb => by have := depth_mem hb; show X.A.units + 1 + 1 + _ < _; omega) fun out ho' he => ?_
  have es : ds.mergeSort (PySem.W.dataLe false fun d : D => d) = ds.mergeSort sortLe := by
    rw [PySem.W.dataLe_eq]
    rfl
  rw [es] at he
  obtain ⟨ys, r1, r2⟩ := eachV_out he
  obtain ⟨e, hx⟩ := PyProof.Rows.sortedHeap_at (out := out.toArray) hnew
  have kp3 : ∀ b u, h'.get? b = some u → (sortedHeap (h'.push { cls := .type "list", data := .seq its.toArray.toList.toArray }) h'.objs.size its out.toArray).get? b = some u := fun b u q1 => by
    have hlt := Heap.lt_size q1
    have h2 : b < (h'.push { cls := .type "list", data := .seq its.toArray.toList.toArray }).objs.size := by
      rw [Heap.size_push]
      exact Nat.lt_succ_of_lt hlt
    rw [PyProof.Rows.sortedHeap_old (Nat.ne_of_lt hlt) h2]
    exact Heap.get?_push_of_some _ q1
  have hf := I1.hok.fresh (Nat.le_refl _)
  refine wpAny_pure ⟨_, rfl, .ref _, upd H h'.objs.size (.lst ys), I1.laid (t' := s.toks) kp3 (Nat.le_refl _) ⟨?_, out, e, r1, hx⟩, rfl, k _ _ (sameNew hf) (newL hk hf dom r2)⟩
  have := r1.length
  omega
end
end DL
namespace DL
open L2 PyProof.Rows PySem PySem.Spec
/-! ## own[i] op= e -/
section
variable {X : Cx} {m m2 : Bool} {kr kd k1 k2 : Kd} {i : Nat} {x : Str} {p p1 pos : Pos} {e i' : Expr}
theorem get_list : PGet X (rIxL X.K) := by
  intro pins s σ H o j ov iv Q I ro ri h
  obtain ⟨q, xs, i, z, rfl, rfl, hq, he, q'⟩ := h
  cases ro
  obtain ⟨t, rfl⟩ := ri
  obtain ⟨its, r, pl, hz⟩ := I.list hq
  obtain ⟨j, h1, h2, h3, h4, h5⟩ := atI_get he
  obtain ⟨w, ew, rw'⟩ := r.get h2
  have hl := r.length
  have hn := line63
  have fin : L2.EP X pins σ Q w s := ⟨z, H, I, rw', q'⟩
  by_cases h0 : 0 ≤ i
  · have hj : i.toNat = j := by
      rw [seqIndex_of h0 h5] at h1
      exact Option.some.inj h1
    exact wpAny_getItem_list pl.isList h0 (by omega) (by rw [hj]; simpa using ew) fin
  · have hj : (i + (its.toArray.size : Int)).toNat = j := by
      rw [seqIndex_neg (by omega) h4] at h1
      rw [List.size_toArray, ← hl]
      exact Option.some.inj h1
    exact wpAny_getItem_list_neg pl.isList (by omega) (by rw [List.size_toArray] <;> omega) (by omega) (by rw [hj]; simpa using ew) fin
def augSt (i : Nat) (fi : Rho → Option D) (g : D → D → Option D) (fe : Ef) : Sf := fun ρ => (ownd i ρ).bind fun c0 => (lstOf c0).bind fun ds0 => (fi ρ).bind fun ix => (intOf ix).bind fun n => (atI ds0 n).bind fun old => (fe ρ).bind fun b => (g old b.1).bind fun z => (ownd i b.2).bind fun c => (lstOf c).bind fun ds => (ixN ds.length n).map fun j => .nx (wr i (.list (ds.set j z)) b.2)
theorem sg_augS {fi : Rho → Option D} {g : D → D → Option D} {fe : Ef} (ho : PE X (.Name x p) (tVar i)) (hi : EP X k1 i' fi) (he : EG X m k2 e fe) (hg : IpD X .k .Add g)
    (ha : ∀ ov iv new, augStore i' ov iv new = (do holding [new, ov, iv] (setItem ov iv new); release [new, ov, iv] []; pure .next) := by intros; rfl) : SG X kr (.AugAssign (.Subscript (.Name x p) i' p1) .Add e pos) (augSt i fi g fe) := by
  obtain ⟨ti, hi1, hi2⟩ := hi.ex
  obtain ⟨te, he1, he2⟩ := he.ex
  refine ⟨_, ps_augS ho hi1 get_list he1 hg set_list ha, fun F σ H ρ o E R hf k => ?_⟩
  obtain ⟨c0, e0, hf⟩ := Option.bind_eq_some_iff.mp hf
  obtain ⟨ds0, e1, hf⟩ := Option.bind_eq_some_iff.mp hf
  obtain ⟨ix, e2, hf⟩ := Option.bind_eq_some_iff.mp hf
  obtain ⟨n, e3, hf⟩ := Option.bind_eq_some_iff.mp hf
  obtain ⟨old, e4, hf⟩ := Option.bind_eq_some_iff.mp hf
  obtain ⟨⟨b, ρ1⟩, e5, hf⟩ := Option.bind_eq_some_iff.mp hf
  obtain ⟨z, e6, hf⟩ := Option.bind_eq_some_iff.mp hf
  obtain ⟨c, e7, hf⟩ := Option.bind_eq_some_iff.mp hf
  obtain ⟨ds, e8, hf⟩ := Option.bind_eq_some_iff.mp hf
  obtain ⟨j, e9, hf⟩ := Option.map_eq_some_iff.mp hf
  cases hf
  have e1 := lstOf_some e1
  have e3 := intOf_some e3
  have e8 := lstOf_some e8
  subst e1 e3 e8
  obtain ⟨a, s0, q1, q2, q3, t0⟩ := ownd_some R e0
  refine ⟨.ref a, q3, hi2 F σ H ρ _ ρ _ R (lift_some.mpr ⟨e2, rfl⟩) fun iv H1 p1 r1 => ?_⟩
  have s1 := (p1.pu rfl).2
  obtain ⟨a1, s2, q4, q5, q6, t1⟩ := ownd_some p1.rl e0
  rw [q3] at q6
  cases q6
  obtain ⟨xs, hx, hd⟩ := top_list t1
  obtain ⟨w, ew, dw⟩ := hd.atI e4
  have ei := r1.bw.int
  subst ei
  refine ⟨a, xs, n, w, rfl, rfl, .of hx, ew, ?_⟩
  refine he2 F σ H1 ρ b ρ1 _ p1.rl e5 fun u H2 p2 r2 => ?_
  refine ⟨Ow F σ ρ1, old, b, z, p2.rl.domL, .inl (Dn.mono p2.ev.kept dw), r2.bw, e6, fun zv H3 s3 r3 => ?_⟩
  have p3 := p2.more s3
  obtain ⟨a3, s4, g1, g2, g3, t3⟩ := ownd_some p3.rl e7
  rw [q3] at g3
  cases g3
  obtain ⟨ys, hy, hdy⟩ := top_list t3
  obtain ⟨R4, ev4⟩ := p3.rl.write (o := .lst (ys.set j zv)) (d := .list (ds.set j z)) g1 g2 q3 ⟨_, upd_same, hdy.set j r3⟩
  exact ⟨a, ys, n, j, rfl, rfl, hy, by rw [hdy.length]; exact e9, k σ _ R4 ((p1.ev.trans p3.ev).trans ev4)⟩
/-! x[::-1] -/
def revD : D → Option D
  | .list ds => some (.list ds.reverse)
  | _ => none
theorem ep_revL {a : Expr} {f : Rho → Option D} {k : Nat} {q1 q2 q3 : Pos} (h : EP X k1 a f) : EP X .f (.Subscript a (.Slice none none (some (.UnaryOp .USub (.Constant (.int 1) k q1) q2)) q3) pos) (pu1 revD f) := by
  obtain ⟨t, h1, h2⟩ := h.ex
  refine ⟨_, pe_revL h1, fun F σ H ρ d ρ' Q R hf kk => ?_⟩
  obtain ⟨hf, rfl⟩ := lift_some.mp hf
  obtain ⟨y, e1, e2⟩ := Option.bind_eq_some_iff.mp hf
  refine h2 F σ H ρ' y ρ' _ R (lift_some.mpr ⟨e1, rfl⟩) fun v H1 p1 r1 => ?_
  cases y with
  | list ds =>
    cases e2
    obtain ⟨l, xs, rfl, g1, t1⟩ := r1.bw.list
    exact ⟨l, xs, rfl, g1, fun p hp => kk _ _ (p1.more (sameNew hp)) (.of p1.rl (sameNew hp) (newL (kd := .f) trivial hp p1.rl.domL t1.reverse) p1.ev.dom)⟩
  | _ => cases e2
end
/-! text * int -/
section
variable {X : Cx}
def repS : D → D → Option D
  | .str x, .int n => if (Nat.ble n.natAbs 1000000 && Nat.ble (x.length * n.toNat) lim) = true then some (.str ⟨((List.replicate n.toNat x.cps.toList).flatten).toArray⟩) else none
  | _, _ => none
/-! split -/
def splitD : D → List D → Option D
  | .str a, [.str b] => if (!(b.length == 0) && Nat.ble (a.length + 2) lim) = true then some (.list ((Txt.split a b).map .str)) else none
  | _, _ => none
theorem md_split {kd : Kd} (hk : isF kd) : MdD X kd "str.split" splitD := by
  intro pins s σ H x xs v us Q I rx rs ⟨O, d, ds, z, dom, bx, bs, hz, k⟩
  unfold splitD at hz
  split at hz
  · obtain ⟨hc, rfl⟩ := ite_some hz
    rw [Bool.and_eq_true, Bool.not_eq_true', Nat.ble_eq] at hc
    obtain ⟨u, rfl, bu⟩ := bs.one
    refine mt_split pins s σ H x _ v us Q I rx rs ⟨_, _, bx.str, by rw [bu.str], hc.1, lim_line hc.2, fun p hp => k _ _ (sameNew hp) (newL hk hp dom ?_)⟩
    exact DnL.ofStrs _
  · cases hz
end
end DL
namespace DL
open L2 PyProof.Rows PySem PySem.Spec
/-! ## len(set(..)) of a list of numbers and texts -/
def stepK (l : List Key) (k : Key) : List Key := if l.any (fun x => decide (x = k)) = true then l else l ++ [k]
def metK (val : Nat → Key) (i : Nat) : List Key := ((List.range i).map val).foldl stepK []
theorem metK_succ (val : Nat → Key) (i : Nat) : metK val (i + 1) = stepK (metK val i) (val i) := by
  unfold metK
  rw [List.range_succ, List.map_append, List.foldl_append]
  rfl
theorem stepK_len_le (l : List Key) (k : Key) : (stepK l k).length ≤ l.length + 1 := by
  unfold stepK
  split
  · omega
  · rw [List.length_append]; exact Nat.le_refl _
theorem metK_le (val : Nat → Key) : ∀ i, (metK val i).length ≤ i
  | 0 => Nat.le_refl _
  | i + 1 => by
    rw [metK_succ]
    exact Nat.le_trans (stepK_len_le _ _) (Nat.succ_le_succ (metK_le val i))
theorem stepK_any (l : List Key) (k x : Key) : (stepK l k).any (fun y => decide (y = x)) = (l.any (fun y => decide (y = x)) || decide (x = k)) := by
  unfold stepK
  split
  · next h =>
    by_cases e : x = k
    · subst e; rw [h]; simp
    · simp [e]
  · rw [List.any_append]
    by_cases e : x = k
    · subst e; simp
    · have e' : ¬ k = x := fun q => e q.symm
      simp [e, e']
theorem stepK_len (l : List Key) (k : Key) : (stepK l k).length = if l.any (fun y => decide (y = k)) = true then l.length else l.length + 1 := by
  unfold stepK
  split <;> simp
theorem setOf_eq {prog : Program} {w : World} {h : Heap} {a : Addr} {S S' : Key → Bool} {n n' : Nat} (hS : h.SetOf (mixKind prog w) a S n) (e : ∀ k, S k = S' k) (en : n = n') : h.SetOf (mixKind prog w) a S' n' := by
  have : S = S' := funext e
  subst this; subst en; exact hS
section
variable {prog : Program} {w : World} {A : Around} {R : Result → Shared → Prop} {I : Addr} {fp wr : List Addr} {G : Array GenState → Array GenState → Prop} {n : Nat} {P : Nat → Value → Prop} {St : Nat → Shared → Prop}
theorem loopK (W : WalksS prog w A.in1 I fp wr G n P St) (S : Addr) (hSf : S ∉ fp) (val : Nat → Key) (hb : n + 1 < scanBound)
    (hval : ∀ i v, P i v → RelV (kV (val i)) v) :
    ∀ (k i : Nat) (s : Shared), n - i = k → i ≤ n → St i s →
      s.heap.SetOf (mixKind prog w) S (fun k' => (metK val i).any (fun y => decide (y = k'))) (metK val i).length →
      (∀ s', Moved (S :: wr) G s s' → s'.heap.SetOf (mixKind prog w) S (fun k' => (metK val n).any (fun y => decide (y = k'))) (metK val n).length → R (.ok (.ret .none)) s') →
      codeAny (model prog w) A (.builtin "set.update.loop" ⟨[.ref S, .ref I], []⟩) R s := by
  have hSw : S ∉ wr := fun h => hSf (W.sub _ h)
  have hsub : ∀ b ∈ wr, b ∈ S :: wr := fun b hb => List.mem_cons_of_mem _ hb
  intro k
  induction k with
  | zero =>
    intro i s hk hi hst hS hR
    have hin : i = n := by omega
    subst hin
    refine codeAny_builtin PyProof.Rows.F.entry_set_update_loop ?_
    rw [Around.under_plainId PyProof.Rows.F.plain_set_update_loop _]
    show wpAny _ A.in1 (pyNext (.ref I) >>= _) _ _ s
    refine wpAny_bind (W.done s _ _ hst fun s' hm => ?_)
    show wpAny _ A.in1 (ret Value.none) _ _ s'
    exact wpAny_pure (hR s' (hm.mono hsub) (by
      obtain ⟨o, es, ep, t, ho, rest⟩ := hS
      exact ⟨o, es, ep, t, hm.heap S _ hSw ho, rest⟩))
  | succ k ih =>
    intro i s hk hi hst hS hR
    have hlt : i < n := by omega
    refine codeAny_builtin PyProof.Rows.F.entry_set_update_loop ?_
    rw [Around.under_plainId PyProof.Rows.F.plain_set_update_loop _]
    show wpAny _ A.in1 (pyNext (.ref I) >>= _) _ _ s
    refine wpAny_bind (W.item i s _ _ hlt hst fun v s' hP hst' hm => ?_)
    have rv := hval i v hP
    have hS' : s'.heap.SetOf (mixKind prog w) S (fun k' => (metK val i).any (fun y => decide (y = k'))) (metK val i).length := by
      obtain ⟨o, es, ep, tb, ho, rest⟩ := hS
      exact ⟨o, es, ep, tb, hm.heap S _ hSw ho, rest⟩
    have hkey : (mixKind prog w).is (val i) v = true := by
      cases e : val i with
      | inl j => rw [e] at rv; obtain ⟨t, rfl⟩ := rv; exact keyIs_int j t
      | inr j => rw [e] at rv; obtain ⟨t, rfl⟩ := rv; exact keyIs_str j t
    show wpAny _ A.in1 (holding [v] (setAdd S v) >>= _) _ _ s'
    refine wpAny_bind (wpAny_holding ?_)
    unfold setAdd
    refine wpAny_holding ?_
    refine wpAny_bind ((mixKind prog w).pyHash (k := val i) hkey ?_)
    have hroom : (metK val i).length + 1 < scanBound := by have := metK_le val i; omega
    refine wpAny_setAddHashed_of (knd := mixKind prog w) (s := { s' with toks := s'.toks + 1 }) hkey (key_scan rv) hS' hroom fun h' hsb hS2 => ?_
    have hSi : h'.SetOf (mixKind prog w) S (fun k' => (metK val (i + 1)).any (fun y => decide (y = k'))) (metK val (i + 1)).length :=
      setOf_eq hS2 (fun k' => by rw [metK_succ, stepK_any]) (by rw [metK_succ, stepK_len])
    refine wpAny_pure ⟨plainId_quiet PyProof.Rows.F.plain_set_update_loop _, ih (i + 1) _ (by omega) hlt (W.frame _ s' _ _ hst' (Nat.le_succ _) fun b hb o e => ?_) hSi fun s'' hm'' hS'' => ?_⟩
    · rw [hsb.2 b (fun h : b = S => hSf (by rw [← h]; exact hb))]; exact e
    · refine hR s'' (Moved.trans W.gtrans ((hm.mono hsub).then_heap (Nat.le_succ _) fun b o hb e => ?_) hm'') hS''
      rw [hsb.2 b (fun h : b = S => hb (by rw [h]; exact List.mem_cons_self))]; exact e
end
section
variable {prog : Program} {w : World} {A : Around} {E : Value → Shared → Prop} {s : Shared}
set_option maxHeartbeats 3200000 in
theorem call_set_keys {l : Addr} {items : Array Value} (val : Nat → Key) {Q : Value → Shared → Prop}
    (hh : A.handled = none) (hl : s.heap.IsList l items) (hval : ∀ (i : Nat) (v : Value), items[i]? = some v → RelV (kV (val i)) v) (hb : items.size + 1 < scanBound)
    (h : ∀ (h' : Heap) (tk : Nat), h'.SetOf (mixKind prog w) s.heap.objs.size (fun k' => (metK val items.size).any (fun y => decide (y = k'))) (metK val items.size).length →
      (∀ b o, b < s.heap.objs.size → s.heap.get? b = some o → h'.get? b = some o) → Q (.ref s.heap.objs.size) { s with heap := h', toks := tk }) :
    wpAny (model prog w) A (call (.type "set") [.ref l]) Q E s := by
  obtain ⟨c, tl, hmro⟩ := PySem.F.called_set.mro
  have hmade := PySem.F.called_set.made
  have hsub := PySem.F.called_set.sub
  refine wpAny_call (codeAny_of_tree ?_)
  show wpAny _ _ (callAny (.type "set") _) _ _ _
  refine wpAny_pure ⟨Code.quiet_builtin _ (by decide +kernel), codeAny_builtin PySem.F.entry_type_call ?_⟩
  rw [Around.under_plain (weight_type_call_type "set" [.ref l] []) rfl]
  have h1 := PySem.F.called_set.notType
  have h2 := PySem.F.called_set.canCreate
  have hct := PySem.F.typeCall_set_1 (.ref l)
  repeat (any_goals (first | assumption | wp_step))
  refine codeAny_mono (code_set_new_1 (.ref l) (E := E) (Q₁ := fun obj s₁ => ∃ led : Bool, obj = .ref s.heap.objs.size ∧ s₁ = { s with heap := s.heap.push { cls := .type "set", dict := none, data := .set #[] 0 (.fresh 0 0 led) } }) fun led => ⟨led, rfl, rfl⟩) fun r s₁ hr => ?_
  cases r with
  | error e => exact hr
  | ok fl =>
    cases fl with
    | ret obj =>
      obtain ⟨led, rfl, rfl⟩ := hr
      have hS : (s.heap.push { cls := .type "set", dict := none, data := .set #[] 0 (.fresh 0 0 led) }).get? s.heap.objs.size = some { cls := .type "set", dict := none, data := .set #[] 0 (.fresh 0 0 led) } := Heap.get?_push_size _ rfl
      have hT : Shared.TypeIs { s with heap := s.heap.push { cls := .type "set", dict := none, data := .set #[] 0 (.fresh 0 0 led) } } (.ref s.heap.objs.size) "set" := ⟨_, hS, rfl⟩
      have hli := PySem.F.called_set.init.lookup
      have hbi := PySem.F.called_set.init.bind (.ref s.heap.objs.size)
      repeat (any_goals (first | assumption | wp_step))
      refine codeAny_mono (codeAny_call_builtin (R := wants (fun r s₂ => r = .none ∧ ∃ h' tk, s₂ = { s with heap := h', toks := tk } ∧
          h'.SetOf (mixKind prog w) s.heap.objs.size (fun k' => (metK val items.size).any (fun y => decide (y = k'))) (metK val items.size).length ∧
          (∀ b o, b < s.heap.objs.size → s.heap.get? b = some o → h'.get? b = some o)) E) PySem.F.called_set.init.plain PySem.F.entry_set_init (check_set_init_1 hT ?_)) fun r₂ s₂ hr₂ => ?_
      · obtain ⟨ol, hol, hcl, nl, hdl⟩ := hl
        obtain ⟨ocls, odict, odata, oslots⟩ := ol
        simp only at hcl hdl
        subst hcl; subst hdl
        have hol' : (s.heap.push { cls := .type "set", dict := none, data := .set #[] 0 (.fresh 0 0 led) }).get? l = some { cls := .type "list", dict := odict, data := .seq items nl, slots := oslots } := Heap.get?_push_of_some _ hol
        have hsls := PySem.F.sub_list_set
        have hslf := PySem.F.sub_list_frozenset
        have hne : (Value.type "list" == Value.type "dict") = false := by decide
        have hl1 : (s.heap.push { cls := .type "set", dict := none, data := .set #[] 0 (.fresh 0 0 led) }).IsList l items := ⟨_, hol', rfl, nl, rfl⟩
        unfold Builtin.«set.__init__» noKeywords Builtin.Frozenset.updateFrom
        generalize hPI : pyIter = PI
        wp_walk
        subst hPI
        refine wpAny_pyIter_list hl1 ?_
        refine wpAny_bind (wpAny_runValue ?_)
        have hlS : l < s.heap.objs.size := Heap.lt_size hol
        have hh3 : A.in1.in1.in1.handled = none := by simp [hh]
        have hneI : l ≠ (s.heap.push { cls := .type "set", dict := none, data := .set #[] 0 (.fresh 0 0 led) }).objs.size := by
          rw [Heap.size_push]; exact Nat.ne_of_lt (Nat.lt_succ_of_lt hlS)
        have hSf : s.heap.objs.size ∉ [(s.heap.push { cls := .type "set", dict := none, data := .set #[] 0 (.fresh 0 0 led) }).objs.size, l] := by
          rw [Heap.size_push]; simp only [List.mem_cons, List.mem_singleton, List.not_mem_nil, or_false, not_or]
          exact ⟨Nat.ne_of_lt (Nat.lt_succ_self _), Nat.ne_of_gt hlS⟩
        refine loopK ((Walks.list hh3 _ l hneI items).toS) s.heap.objs.size
          hSf val hb hval (items.size - 0) 0 _ (by omega) (Nat.zero_le _)
          ⟨⟨_, Heap.get?_push_size _ rfl, rfl, rfl⟩, (hl1.push _)⟩ ?hS0 ?hR
        case hS0 =>
          have hget : ((s.heap.push { cls := .type "set", dict := none, data := .set #[] 0 (.fresh 0 0 led) }).push { cls := .type "list_iterator", data := .fields #[.ref l, .int 0 0] }).get? s.heap.objs.size
              = some { cls := .type "set", dict := none, data := .set #[] 0 (.fresh 0 0 led) } := Heap.get?_push_of_some _ hS
          exact ⟨_, #[], 0, _, hget, ⟨rfl, rfl, rfl⟩, rfl, fun e he => by simp at he, fun k => by simp [metK], by unfold scanBound; simp, by rfl, rfl⟩
        case hR =>
          intro s' hm hS'
          obtain ⟨h', g', d', tk', os'⟩ := s'
          have eg : g' = s.gens := hm.gens
          have ed : d' = s.drawn := hm.drawn
          have eo : os' = s.os := hm.os
          subst eg; subst ed; subst eo
          show wpAny _ _ _ _ _ _
          refine wpAny_pure ?_
          show wpAny _ _ (ret Value.none) _ _ _
          refine wpAny_pure ⟨rfl, h', tk', rfl, hS', fun b o hb e => ?_⟩
          have hb1 : b ≠ s.heap.objs.size := Nat.ne_of_lt hb
          have hb2 : b ≠ (s.heap.push { cls := .type "set", dict := none, data := .set #[] 0 (.fresh 0 0 led) }).objs.size := by
            rw [Heap.size_push]; exact Nat.ne_of_lt (Nat.lt_succ_of_lt hb)
          exact hm.heap b o (by simp only [List.mem_cons, List.mem_singleton, List.not_mem_nil, or_false, not_or]; exact ⟨hb1, hb2⟩) (Heap.get?_push_of_some _ (Heap.get?_push_of_some _ e))
      · cases r₂ with
        | error e => exact hr₂
        | ok fl₂ =>
          cases fl₂ with
          | ret r =>
            obtain ⟨rfl, h', tk, rfl, hS', hk'⟩ := hr₂
            repeat (any_goals (first | assumption | wp_step))
            exact h _ _ hS' hk'
          | _ => exact hr₂.elim
    | _ => exact hr.elim
end
def keyQ : D → Option Key
  | .int i => some (.inl i)
  | .str x => some (.inr x)
  | _ => none
def keysQ : List D → Option (List Key)
  | [] => some []
  | d :: ds => (keyQ d).bind fun k => (keysQ ds).map fun ks => k :: ks
def uniq (ks : List Key) : List Key := ks.foldl stepK []
def lensetD : D → Option D
  | .list ds => if Nat.blt ds.length 4000 = true then (keysQ ds).map fun ks => .int (uniq ks).length else none
  | _ => none
theorem dn_keys {K : Fg} {G : Hp} : ∀ {vs : List V} {ds : List D} {ks : List Key}, DnL K G vs ds → keysQ ds = some ks → vs = ks.map kV
  | _, _, _, .nil, e => by cases e; rfl
  | _, _, _, .cons h t, e => by
    obtain ⟨k, e1, e⟩ := Option.bind_eq_some_iff.mp e
    obtain ⟨ks, e2, rfl⟩ := Option.map_eq_some_iff.mp e
    rw [dn_keys t e2]
    cases h with
    | int i => cases e1; rfl
    | str i => cases e1; rfl
    | _ => cases e1
theorem keys_rel : ∀ {ks : List Key} {us : List Value}, Vals (ks.map kV) us → ∀ (i : Nat) (v : Value), us[i]? = some v → RelV (kV (ks.getD i (.inl 0))) v
  | [], _, .nil, i, v, h => by simp at h
  | _ :: _, _, .cons r t, 0, v, h => by simp at h; rw [← h]; exact r
  | _ :: _, _, .cons r t, i + 1, v, h => by
    simp only [List.getElem?_cons_succ] at h
    exact keys_rel t i v h
theorem range_getD (ks : List Key) : (List.range ks.length).map (fun i => ks.getD i (.inl 0)) = ks := by
  apply List.ext_getElem
  · simp
  · intro i h1 h2
    simp at h1
    simp [h1]
theorem metK_uniq (ks : List Key) : metK (fun i => ks.getD i (.inl 0)) ks.length = uniq ks := by
  unfold metK uniq
  rw [range_getD]
section
variable {X : Cx}
def tLenSetK (K : Fg) (ta : TE) : TE := fun σ H Q => ta σ H fun x H1 => ∃ (l : Addr) (ks : List Key), x = .ref l ∧ SqL K H1 l (ks.map kV) ∧ ks.length < 4000 ∧ Q (.int (uniq ks).length) H1
theorem pe_lenSetK {a : Expr} {ta : TE} {p p2 q pos : Pos} (hc : X.calm = true) (hg : Gl X "len") (hm : X.mg "len" = none) (hg2 : Gl X "set") (hm2 : X.mg "set" = none) (ha : PE X a ta)
    (na : starEach [a] X.env = (false, eval a X.env) :: starEach [] X.env := by rfl) : PE X (.Call (.Name "len" p) [.Call (.Name "set" p2) [a] [] q] [] pos) (tLenSetK X.K ta) := by
  refine ⟨fun pins s σ H Q I h => ?_⟩
  refine Call_ (ld_blt I hg hm boot_len ?_)
  refine PyProof.Rows.callWith_builtin1 (PyProof.Rows.args_cons ?_ rfl) rfl rfl
  refine Call_ (ld_blt I hg2 hm2 boot_set ?_)
  refine PyProof.Rows.callWith_type1 (PyProof.Rows.args_cons (thn (ha.run pins s σ H _ I h) fun v s1 ⟨x, H1, I1, r1, q1⟩ => PyProof.Rows.args_nil ?_) na) na rfl
  obtain ⟨l, ks, rfl, hq, hlt, q1⟩ := q1
  cases r1
  obtain ⟨its, r, pl, hz⟩ := I1.list hq
  have hl : its.toArray.size = ks.length := by rw [List.size_toArray, ← r.length, List.length_map]
  refine call_set_keys (fun i => ks.getD i (.inl 0)) (I1.ok.hd hc) pl.isList (fun i v e => keys_rel r i v (by simpa using e)) (by rw [hl]; unfold scanBound; omega) fun h' tk hS hk => ?_
  refine PyProof.Rows.args_nil ?_
  rw [hl, metK_uniq] at hS
  obtain ⟨o, es, ep, t, ho, hex, hd, _, _, hb, hf, hn⟩ := hS
  have I2 : Inv X pins σ H1 { s1 with heap := h', toks := tk } := I1.kept fun b o e => hk b o (Heap.lt_size e) e
  refine call_len_set ho hex hd hf (by unfold scanBound at hb; omega) ⟨.int (uniq ks).length, H1, I2.tok _, ⟨_, by rw [hn]⟩, q1⟩
theorem ep_lenset {a : Expr} {fa : Rho → Option D} {k1 : Kd} {p p2 q pos : Pos} {x y : Str} (hc : X.calm = true) (hu : X.A.units + 64 < cLine) (hg : Gl X "len") (hm : X.mg "len" = none) (hg2 : Gl X "set") (hm2 : X.mg "set" = none) (ha : EP X k1 a fa)
    (na : starEach [a] X.env = (false, eval a X.env) :: starEach [] X.env := by rfl) : EP X .k (.Call (.Name "len" p) [.Call (.Name "set" p2) [a] [] q] [] pos) (pu1 lensetD fa) := by
  obtain ⟨t, h1, h2⟩ := ha.ex
  refine ⟨_, pe_lenSetK hc hg hm hg2 hm2 h1 na, fun F σ H ρ d ρ' Q R hf k => ?_⟩
  obtain ⟨hf, rfl⟩ := lift_some.mp hf
  obtain ⟨x, e1, e2⟩ := Option.bind_eq_some_iff.mp hf
  refine h2 F σ H ρ' x ρ' _ R (lift_some.mpr ⟨e1, rfl⟩) fun v H1 p1 r1 => ?_
  cases x with
  | list ds =>
    have e0 : (if Nat.blt ds.length 4000 = true then (keysQ ds).map fun ks => PyData.int (uniq ks).length else none) = some d := e2
    have ok : Nat.blt ds.length 4000 = true := by
      cases q : Nat.blt ds.length 4000 with
      | true => rfl
      | false => rw [q] at e0; cases e0
    have e3 : (keysQ ds).map (fun ks => PyData.int (uniq ks).length) = some d := by
      rw [if_pos ok] at e0
      exact e0
    obtain ⟨ks, e4, rfl⟩ := Option.map_eq_some_iff.mp e3
    obtain ⟨l, xs, rfl, g1, g2⟩ := r1.bw.list
    have := dn_keys g2 e4
    subst this
    have hlen := g2.length
    rw [List.length_map] at hlen
    refine ⟨l, ks, rfl, g1, ?_, k _ H1 p1 (.k (.int _))⟩
    have := Nat.le_of_ble_eq_true ok
    omega
  | _ => cases e2
end
end DL
namespace DL
open L2 PyProof.Rows PySem PySem.Spec
/-! ## slots forgotten -/
def fg1 (v : Nat) (ρ : Rho) : Rho := match ρ[v]? with
  | some (.m _) => ρ
  | some _ => ρ.set v .un
  | none => ρ
def fg (ρ : Rho) : List Nat → Rho
  | [] => ρ
  | v :: vs => fg1 v (fg ρ vs)
def fgO (vs : List Nat) : Out → Out
  | .nx ρ => .nx (fg ρ vs)
  | .bk ρ => .bk (fg ρ vs)
  | .ct ρ => .ct (fg ρ vs)
  | .rt d ρ => .rt d ρ
/-- behind it the slots vs are forgotten -/
def sFg (vs : List Nat) (f : Sf) : Sf := fun ρ => (f ρ).map (fgO vs)
section
variable {K : Fg} {F : Fx} {σ : L2.St} {H : Hp} {ρ : Rho}
theorem Rl.drop1 (R : Rl K F σ H ρ) {v : Nat} {s : Sl} (h : ρ[v]? = some s) : Rl K F σ H (ρ.set v .un) ∧ Evo F σ H ρ σ H (ρ.set v .un) := by
  obtain ⟨x, h1, _⟩ := R.slot v s h
  have hs : σ.set v x = σ := by
    refine List.ext_getElem? fun j => ?_
    by_cases z : v = j
    · subst z
      rw [List.getElem?_set_self (lt_of_some h1)]
      exact h1.symm
    · rw [List.getElem?_set_ne z]
  have := R.setAny (i := v) (t := .un) (x := x) h rfl trivial
  rw [hs] at this
  exact this
theorem Rl.forget1 (R : Rl K F σ H ρ) (v : Nat) : Rl K F σ H (fg1 v ρ) ∧ Evo F σ H ρ σ H (fg1 v ρ) := by
  unfold fg1
  split
  · exact ⟨R, .refl⟩
  · rename_i s _ hs
    exact R.drop1 hs
  · exact ⟨R, .refl⟩
theorem Rl.forget (R : Rl K F σ H ρ) : ∀ vs, Rl K F σ H (fg ρ vs) ∧ Evo F σ H ρ σ H (fg ρ vs)
  | [] => ⟨R, .refl⟩
  | v :: vs => by
    obtain ⟨R1, e1⟩ := Rl.forget R vs
    obtain ⟨R2, e2⟩ := R1.forget1 v
    exact ⟨R2, e1.trans e2⟩
end
theorem EndOk.fg {K : Fg} {F : Fx} {kr : Kd} {σ : L2.St} {H : Hp} {ρ : Rho} {E : Ends} (vs : List Nat) {o : Out} (k : EndOk K F kr σ H ρ E (fgO vs o)) : EndOk K F kr σ H ρ E o := by
  cases o with
  | nx ρ' => exact fun σ' H' R' ev => let ⟨R2, e2⟩ := R'.forget vs; k σ' H' R2 (ev.trans e2)
  | bk ρ' => exact fun σ' H' R' ev => let ⟨R2, e2⟩ := R'.forget vs; k σ' H' R2 (ev.trans e2)
  | ct ρ' => exact fun σ' H' R' ev => let ⟨R2, e2⟩ := R'.forget vs; k σ' H' R2 (ev.trans e2)
  | rt d ρ' => exact k
theorem SB.fg {X : Cx} {kr : Kd} {sts : List Stmt} {f : Sf} (vs : List Nat) (h : SB X kr sts f) : SB X kr sts (sFg vs f) := by
  obtain ⟨t, h1, h2⟩ := h.ex
  refine ⟨t, h1, fun F σ H ρ o E R hf k => ?_⟩
  obtain ⟨o1, e1, rfl⟩ := Option.map_eq_some_iff.mp hf
  exact h2 F σ H ρ o1 E R e1 k.fg
theorem SG.fg {X : Cx} {kr : Kd} {st : Stmt} {f : Sf} (vs : List Nat) (h : SG X kr st f) : SG X kr st (sFg vs f) := by
  obtain ⟨t, h1, h2⟩ := h.ex
  refine ⟨t, h1, fun F σ H ρ o E R hf k => ?_⟩
  obtain ⟨o1, e1, rfl⟩ := Option.map_eq_some_iff.mp hf
  exact h2 F σ H ρ o1 E R e1 k.fg
end DL
namespace DL
open L2 PyProof.Rows PySem PySem.Spec
/-! ## reading the mirrors -/
def Rn (b : Sf) (ρ : Rho) (Q : Out → Prop) : Prop := ∃ o, b ρ = some o ∧ Q o
def Ev (f : Ef) (ρ : Rho) (Q : D → Rho → Prop) : Prop := ∃ d ρ', f ρ = some (d, ρ') ∧ Q d ρ'
def Te (f : Tf) (ρ : Rho) (Q : Bool → Rho → Prop) : Prop := ∃ d ρ', f ρ = some (d, ρ') ∧ Q d ρ'
def Aw (f : Af) (ρ : Rho) (Q : List D → Rho → Prop) : Prop := ∃ d ρ', f ρ = some (d, ρ') ∧ Q d ρ'
def Cm (g : D → List D → Option (D × D)) (c : D) (as : List D) (Q : D → D → Prop) : Prop := ∃ r c', g c as = some (r, c') ∧ Q r c'
def OkP {α β : Type} (o : Option (α × β)) (Q : α → β → Prop) : Prop := ∃ p, o = some p ∧ Q p.1 p.2
@[simp] theorem okP_some {α β : Type} {a : α} {b : β} {Q : α → β → Prop} : OkP (some (a, b)) Q ↔ Q a b := ⟨fun ⟨p, h, q⟩ => by cases h; exact q, fun q => ⟨_, rfl, q⟩⟩
def sq (g : Sf) (Q : Out → Prop) : Out → Prop
  | .nx ρ => Rn g ρ Q
  | o => Q o
section
variable {b f g : Sf} {ρ : Rho} {Q : Out → Prop} {i : Nat}
@[simp] theorem sq_nx : sq g Q (.nx ρ) = Rn g ρ Q := rfl
@[simp] theorem sq_rt {d : D} : sq g Q (.rt d ρ) = Q (.rt d ρ) := rfl
@[simp] theorem sq_bk : sq g Q (.bk ρ) = Q (.bk ρ) := rfl
@[simp] theorem sq_ct : sq g Q (.ct ρ) = Q (.ct ρ) := rfl
theorem rn_seq (h : Rn f ρ (sq g Q)) : Rn (sSeq f g) ρ Q := by
  obtain ⟨o, h1, h2⟩ := h
  cases o with
  | nx ρ1 =>
    obtain ⟨o, h3, h4⟩ := h2
    exact ⟨o, by unfold sSeq; rw [h1]; exact h3, h4⟩
  | bk ρ1 => exact ⟨_, by unfold sSeq; rw [h1]; rfl, h2⟩
  | ct ρ1 => exact ⟨_, by unfold sSeq; rw [h1]; rfl, h2⟩
  | rt d ρ1 => exact ⟨_, by unfold sSeq; rw [h1]; rfl, h2⟩
theorem rn_nx (h : Q (.nx ρ)) : Rn sNx ρ Q := ⟨_, rfl, h⟩
theorem rn_setP {fe : Ef} (h : Ev fe ρ fun d ρ1 => ∃ ρ2, setP i d ρ1 = some ρ2 ∧ Q (.nx ρ2)) : Rn (sSetP i fe) ρ Q := by
  obtain ⟨d, ρ1, h1, ρ2, h2, h3⟩ := h
  exact ⟨_, by unfold sSetP; rw [h1]; show (setP i d ρ1).map _ = _; rw [h2]; rfl, h3⟩
theorem rn_setO {fe : Ef} (h : Ev fe ρ fun d ρ1 => ∃ ρ2, setO i d ρ1 = some ρ2 ∧ Q (.nx ρ2)) : Rn (sSetO i fe) ρ Q := by
  obtain ⟨d, ρ1, h1, ρ2, h2, h3⟩ := h
  exact ⟨_, by unfold sSetO; rw [h1]; show (setO i d ρ1).map _ = _; rw [h2]; rfl, h3⟩
theorem rn_if {t : Tf} (h : Te t ρ fun c ρ1 => (c = true → Rn f ρ1 Q) ∧ (c = false → Rn g ρ1 Q)) : Rn (sIf t f g) ρ Q := by
  obtain ⟨c, ρ1, h1, h2, h3⟩ := h
  cases c with
  | true =>
    obtain ⟨o, h4, h5⟩ := h2 rfl
    exact ⟨o, by unfold sIf; rw [h1]; exact h4, h5⟩
  | false =>
    obtain ⟨o, h4, h5⟩ := h3 rfl
    exact ⟨o, by unfold sIf; rw [h1]; exact h4, h5⟩
theorem rn_rt {fe : Ef} (h : Ev fe ρ fun d ρ1 => Q (.rt d ρ1)) : Rn (sRt fe) ρ Q := by
  obtain ⟨d, ρ1, h1, h2⟩ := h
  exact ⟨_, by unfold sRt; rw [h1]; rfl, h2⟩
theorem rn_ex {fe : Ef} (h : Ev fe ρ fun d ρ1 => Q (.nx ρ1)) : Rn (sEx fe) ρ Q := by
  obtain ⟨d, ρ1, h1, h2⟩ := h
  exact ⟨_, by unfold sEx; rw [h1]; rfl, h2⟩
theorem rn_asg {gf : Gf} {fe : Ef} (h : Ev fe ρ fun d ρ1 => ∃ ρ2, gf d ρ1 = some ρ2 ∧ Q (.nx ρ2)) : Rn (sAsg gf fe) ρ Q := by
  obtain ⟨d, ρ1, h1, ρ2, h2, h3⟩ := h
  exact ⟨_, by unfold sAsg; rw [h1]; show (gf d ρ1).map _ = _; rw [h2]; rfl, h3⟩
theorem rn_fz (h : Rn f (frz i ρ) Q) : Rn (sFz i f) ρ Q := h
theorem rn_par {j : Nat} {fa : Af} (h : Aw fa ρ fun as ρ1 => ∃ x y ρ2 ρ3, as = [x, y] ∧ setP i x ρ1 = some ρ2 ∧ setP j y ρ2 = some ρ3 ∧ Q (.nx ρ3)) : Rn (sPar i j fa) ρ Q := by
  obtain ⟨as, ρ1, h1, x, y, ρ2, ρ3, rfl, h2, h3, h4⟩ := h
  exact ⟨_, by unfold sPar; rw [h1]; show (setP i x ρ1).bind _ = _; rw [h2]; show (setP j y ρ2).map _ = _; rw [h3]; rfl, h4⟩
theorem rn_aug {gd : D → D → Option D} {fe : Ef} (h : ∃ a, vP i ρ = some a ∧ Ev fe ρ fun b ρ1 => ∃ z ρ2, gd a b = some z ∧ setP i z ρ1 = some ρ2 ∧ Q (.nx ρ2)) : Rn (sAug i gd fe) ρ Q := by
  obtain ⟨a, h1, b, ρ1, h2, z, ρ2, h3, h4, h5⟩ := h
  exact ⟨_, by unfold sAug; rw [h1]; show (fe ρ).bind _ = _; rw [h2]; show (gd a b).bind _ = _; rw [h3]; show (setP i z ρ1).map _ = _; rw [h4]; rfl, h5⟩
theorem rn_store {fe fi : Ef} (h : Ev fe ρ fun a ρ1 => ∃ c0, ownd i ρ1 = some c0 ∧ Ev fi ρ1 fun b ρ2 => ∃ ds k j, b = .int k ∧ ownd i ρ2 = some (.list ds) ∧ ixN ds.length k = some j ∧ Q (.nx (wr i (.list (ds.set j a)) ρ2))) : Rn (storeL i fe fi) ρ Q := by
  obtain ⟨a, ρ1, h1, c0, h2, b, ρ2, h3, ds, k, j, rfl, h4, h5, h6⟩ := h
  exact ⟨_, by unfold storeL; rw [h1]; show (ownd i ρ1).bind _ = _; rw [h2]; show (fi ρ1).bind _ = _; rw [h3]; show (ownd i ρ2).bind _ = _; rw [h4]; show (ixN ds.length k).map _ = _; rw [h5]; rfl, h6⟩
theorem rn_for {it : Af} {gf : Gf} (h : Aw it ρ fun ds ρ1 => Rn (forS gf b ds) ρ1 Q) : Rn (sFor it gf b) ρ Q := by
  obtain ⟨ds, ρ1, h1, o, h2, h3⟩ := h
  exact ⟨o, by unfold sFor; rw [h1]; exact h2, h3⟩
/-- how a turn may end -/
def turn (N : Rho → Prop) (Q : Out → Prop) : Out → Prop
  | .nx ρ => N ρ
  | .ct ρ => N ρ
  | .bk ρ => Q (.nx ρ)
  | .rt d ρ => Q (.rt d ρ)
@[simp] theorem turn_nx {N : Rho → Prop} : turn N Q (.nx ρ) = N ρ := rfl
@[simp] theorem turn_ct {N : Rho → Prop} : turn N Q (.ct ρ) = N ρ := rfl
@[simp] theorem turn_bk {N : Rho → Prop} : turn N Q (.bk ρ) = Q (.nx ρ) := rfl
@[simp] theorem turn_rt {N : Rho → Prop} {d : D} : turn N Q (.rt d ρ) = Q (.rt d ρ) := rfl
def goOn (k : Rho → Option Out) : Out → Option Out
  | .nx ρ => k ρ
  | .ct ρ => k ρ
  | .bk ρ => some (.nx ρ)
  | .rt d ρ => some (.rt d ρ)
theorem forS_cons {gf : Gf} {d : D} {ds : List D} : forS gf b (d :: ds) ρ = (gf d ρ).bind fun ρ1 => (b ρ1).bind (goOn (forS gf b ds)) := by
  show (gf d ρ).bind _ = _
  refine congrArg _ (funext fun ρ1 => ?_)
  show (b ρ1).bind _ = _
  refine congrArg _ (funext fun o => ?_)
  cases o <;> rfl
theorem whileX_eq (c : Tf) (b : Sf) (ρ : Rho) : whileX c b ρ = (c ρ).bind fun t => if t.1 = true then (b t.2).bind (goOn (whileX c b)) else some (.nx t.2) := by
  rw [whileX]
  show (c ρ).bind _ = _
  refine congrArg _ (funext fun t => ?_)
  by_cases ht : t.1 = true
  · rw [if_pos ht, if_pos ht]
    show (b t.2).bind _ = _
    refine congrArg _ (funext fun o => ?_)
    cases o <;> rfl
  · rw [if_neg ht, if_neg ht]
theorem goOn_rn {k : Rho → Option Out} {N : Rho → Prop} {o : Out} (h : turn N Q o) (hk : ∀ ρ, N ρ → ∃ o, k ρ = some o ∧ Q o) : ∃ o', goOn k o = some o' ∧ Q o' := by
  cases o with
  | nx ρ => exact hk ρ h
  | ct ρ => exact hk ρ h
  | bk ρ => exact ⟨_, rfl, h⟩
  | rt d ρ => exact ⟨_, rfl, h⟩
theorem rn_forS {gf : Gf} : ∀ (ds : List D) (I : Nat → Rho → Prop) (ρ : Rho), I 0 ρ → (∀ i d ρ, ds[i]? = some d → I i ρ → ∃ ρ1, gf d ρ = some ρ1 ∧ Rn b ρ1 (turn (I (i + 1)) Q)) → (∀ ρ, I ds.length ρ → Q (.nx ρ)) → Rn (forS gf b ds) ρ Q
  | [], I, ρ, h0, _, he => ⟨_, rfl, he ρ h0⟩
  | d :: ds, I, ρ, h0, hs, he => by
    obtain ⟨ρ1, h1, o, h2, h3⟩ := hs 0 d ρ rfl h0
    obtain ⟨o', q1, q2⟩ := goOn_rn (k := forS gf b ds) h3 fun ρ2 h => rn_forS ds (fun i => I (i + 1)) ρ2 h (fun i e ρ hi hI => hs (i + 1) e ρ (by simpa using hi) hI) fun ρ h => he ρ (by simpa using h)
    refine ⟨o', ?_, q2⟩
    rw [forS_cons, h1]
    show (b ρ1).bind _ = _
    rw [h2]
    exact q1
/-- the loop over encoded items, with what is left to do -/
theorem rn_forL {α : Type} {gf : Gf} (enc : α → D) (I : List α → Rho → Prop) (xs : List α) (h0 : I xs ρ) (hs : ∀ x r ρ, I (x :: r) ρ → ∃ ρ1, gf (enc x) ρ = some ρ1 ∧ Rn b ρ1 (turn (I r) Q)) (he : ∀ ρ, I [] ρ → Q (.nx ρ)) : Rn (forS gf b (xs.map enc)) ρ Q := by
  induction xs generalizing ρ with
  | nil => exact ⟨_, rfl, he ρ h0⟩
  | cons x r ih =>
    obtain ⟨ρ1, h1, o, h2, h3⟩ := hs x r ρ h0
    obtain ⟨o', q1, q2⟩ := goOn_rn (k := forS gf b (r.map enc)) h3 fun ρ2 h => ih h
    refine ⟨o', ?_, q2⟩
    rw [List.map_cons, forS_cons, h1]
    show (b ρ1).bind _ = _
    rw [h2]
    exact q1
/-- a loop by a measure -/
theorem rn_while {c : Tf} (I : Nat → Rho → Prop) (hs : ∀ n ρ, I n ρ → Te c ρ fun t ρ1 => (t = true → Rn b ρ1 (turn (fun ρ2 => ∃ m, m < n ∧ I m ρ2) Q)) ∧ (t = false → Q (.nx ρ1))) : ∀ (n : Nat) (ρ : Rho), I n ρ → Rn (whileX c b) ρ Q := by
  intro n
  induction n using Nat.strongRecOn with
  | _ n ih =>
    intro ρ h
    obtain ⟨t, ρ1, h1, h2, h3⟩ := hs n ρ h
    cases t with
    | false => exact ⟨_, by rw [whileX_eq, h1]; rfl, h3 rfl⟩
    | true =>
      obtain ⟨o, h4, h5⟩ := h2 rfl
      obtain ⟨o', q1, q2⟩ := goOn_rn (k := whileX c b) h5 fun ρ2 ⟨m, q1, q2⟩ => ih m q1 ρ2 q2
      refine ⟨o', ?_, q2⟩
      rw [whileX_eq, h1]
      show (b ρ1).bind _ = _
      rw [h4]
      exact q1
end
section
variable {ρ : Rho} {Q : D → Rho → Prop} {i : Nat}
theorem ev_lift {f : Rho → Option D} (h : ∃ d, f ρ = some d ∧ Q d ρ) : Ev (lift f) ρ Q := by
  obtain ⟨d, h1, h2⟩ := h
  exact ⟨d, ρ, by unfold lift; rw [h1]; rfl, h2⟩
theorem ev_seq1 {g : D → Option D} {f : Ef} (h : Ev f ρ fun x ρ1 => ∃ z, g x = some z ∧ Q z ρ1) : Ev (seq1 g f) ρ Q := by
  obtain ⟨x, ρ1, h1, z, h2, h3⟩ := h
  exact ⟨z, ρ1, by unfold seq1; rw [h1]; show (g x).map _ = _; rw [h2]; rfl, h3⟩
theorem ev_seq2 {g : D → D → Option D} {fa fb : Ef} (h : Ev fa ρ fun x ρ1 => Ev fb ρ1 fun y ρ2 => ∃ z, g x y = some z ∧ Q z ρ2) : Ev (seq2 g fa fb) ρ Q := by
  obtain ⟨x, ρ1, h1, y, ρ2, h2, z, h3, h4⟩ := h
  exact ⟨z, ρ2, by unfold seq2; rw [h1]; show (fb ρ1).bind _ = _; rw [h2]; show (g x y).map _ = _; rw [h3]; rfl, h4⟩
theorem ev_seqA {g : List D → Option D} {fa : Af} (h : Aw fa ρ fun as ρ1 => ∃ z, g as = some z ∧ Q z ρ1) : Ev (seqA g fa) ρ Q := by
  obtain ⟨x, ρ1, h1, z, h2, h3⟩ := h
  exact ⟨z, ρ1, by unfold seqA; rw [h1]; show (g x).map _ = _; rw [h2]; rfl, h3⟩
theorem ev_mkL {fa : Af} (h : Aw fa ρ fun as ρ1 => Q (.list as) ρ1) : Ev (mkL fa) ρ Q := by
  obtain ⟨x, ρ1, h1, h2⟩ := h
  exact ⟨_, ρ1, by unfold mkL; rw [h1]; rfl, h2⟩
theorem ev_mkT {fa : Af} (h : Aw fa ρ fun as ρ1 => Q (.tuple as) ρ1) : Ev (mkT fa) ρ Q := by
  obtain ⟨x, ρ1, h1, h2⟩ := h
  exact ⟨_, ρ1, by unfold mkT; rw [h1]; rfl, h2⟩
theorem ev_if {t : Tf} {f g : Ef} (h : Te t ρ fun c ρ1 => (c = true → Ev f ρ1 Q) ∧ (c = false → Ev g ρ1 Q)) : Ev (ifV t f g) ρ Q := by
  obtain ⟨c, ρ1, h1, h2, h3⟩ := h
  cases c with
  | true => obtain ⟨d, ρ2, q1, q2⟩ := h2 rfl; exact ⟨d, ρ2, by unfold ifV; rw [h1]; exact q1, q2⟩
  | false => obtain ⟨d, ρ2, q1, q2⟩ := h3 rfl; exact ⟨d, ρ2, by unfold ifV; rw [h1]; exact q1, q2⟩
theorem ev_and {f g : Ef} (h : Ev f ρ fun a ρ1 => ∃ c, blOf a = some c ∧ (c = true → Ev g ρ1 Q) ∧ (c = false → Q (.bool false) ρ1)) : Ev (andV f g) ρ Q := by
  obtain ⟨a, ρ1, h1, c, h2, h3, h4⟩ := h
  cases c with
  | true => obtain ⟨d, ρ2, q1, q2⟩ := h3 rfl; exact ⟨d, ρ2, by unfold andV; rw [h1]; show (blOf a).bind _ = _; rw [h2]; exact q1, q2⟩
  | false => exact ⟨_, ρ1, by unfold andV; rw [h1]; show (blOf a).bind _ = _; rw [h2]; rfl, h4 rfl⟩
theorem ev_or {f g : Ef} (h : Ev f ρ fun a ρ1 => ∃ c, blOf a = some c ∧ (c = false → Ev g ρ1 Q) ∧ (c = true → Q (.bool true) ρ1)) : Ev (orV f g) ρ Q := by
  obtain ⟨a, ρ1, h1, c, h2, h3, h4⟩ := h
  cases c with
  | false => obtain ⟨d, ρ2, q1, q2⟩ := h3 rfl; exact ⟨d, ρ2, by unfold orV; rw [h1]; show (blOf a).bind _ = _; rw [h2]; exact q1, q2⟩
  | true => exact ⟨_, ρ1, by unfold orV; rw [h1]; show (blOf a).bind _ = _; rw [h2]; rfl, h4 rfl⟩
theorem ev_callM {g : D → List D → Option (D × D)} {fa : Af} (h : ∃ c0, ownd i ρ = some c0 ∧ Aw fa ρ fun as ρ1 => ∃ c, ownd i ρ1 = some c ∧ Cm g c as fun r c' => Q r (wr i c' ρ1)) : Ev (callM i g fa) ρ Q := by
  obtain ⟨c0, h0, as, ρ1, h1, c, h2, r, c', h3, h4⟩ := h
  exact ⟨r, _, by unfold callM; rw [h0]; show (fa ρ).bind _ = _; rw [h1]; show (ownd i ρ1).bind _ = _; rw [h2]; show (g c as).map _ = _; rw [h3]; rfl, h4⟩
theorem ev_mut {g : List D → List D → Option (D × List D)} {fa : Af} (h : ∃ c0, ownd i ρ = some (.list c0) ∧ Aw fa ρ fun as ρ1 => ∃ ds, ownd i ρ1 = some (.list ds) ∧ OkP (g ds as) fun r ds' => Q r (wr i (.list ds') ρ1)) : Ev (mutE i g fa) ρ Q := by
  obtain ⟨c0, h0, as, ρ1, h1, ds, h2, p, h3, h4⟩ := h
  exact ⟨p.1, _, by unfold mutE; rw [h0]; show (fa ρ).bind _ = _; rw [h1]; show (ownd i ρ1).bind _ = _; rw [h2]; show (g ds as).map _ = _; rw [h3]; rfl, h4⟩
end
section
variable {ρ : Rho} {Q : Bool → Rho → Prop}
theorem te_lift {f : Rho → Option Bool} (h : ∃ d, f ρ = some d ∧ Q d ρ) : Te (liftT f) ρ Q := by
  obtain ⟨d, h1, h2⟩ := h
  exact ⟨d, ρ, by unfold liftT; rw [h1]; rfl, h2⟩
theorem te_tst {f : Ef} (h : Ev f ρ fun d ρ1 => ∃ c, blOf d = some c ∧ Q c ρ1) : Te (tst f) ρ Q := by
  obtain ⟨d, ρ1, h1, c, h2, h3⟩ := h
  exact ⟨c, ρ1, by unfold tst; rw [h1]; show (blOf d).map _ = _; rw [h2]; rfl, h3⟩
theorem te_not {f : Tf} (h : Te f ρ fun c ρ1 => Q (!c) ρ1) : Te (notT f) ρ Q := by
  obtain ⟨d, ρ1, h1, h2⟩ := h
  exact ⟨_, ρ1, by unfold notT; rw [h1]; rfl, h2⟩
theorem te_and {f g : Tf} (h : Te f ρ fun c ρ1 => (c = true → Te g ρ1 Q) ∧ (c = false → Q false ρ1)) : Te (andT f g) ρ Q := by
  obtain ⟨c, ρ1, h1, h2, h3⟩ := h
  cases c with
  | true => obtain ⟨d, ρ2, q1, q2⟩ := h2 rfl; exact ⟨d, ρ2, by unfold andT; rw [h1]; exact q1, q2⟩
  | false => exact ⟨_, ρ1, by unfold andT; rw [h1]; rfl, h3 rfl⟩
theorem te_or {f g : Tf} (h : Te f ρ fun c ρ1 => (c = false → Te g ρ1 Q) ∧ (c = true → Q true ρ1)) : Te (orT f g) ρ Q := by
  obtain ⟨c, ρ1, h1, h2, h3⟩ := h
  cases c with
  | false => obtain ⟨d, ρ2, q1, q2⟩ := h2 rfl; exact ⟨d, ρ2, by unfold orT; rw [h1]; exact q1, q2⟩
  | true => exact ⟨_, ρ1, by unfold orT; rw [h1]; rfl, h3 rfl⟩
end
section
variable {ρ : Rho} {Q : List D → Rho → Prop}
theorem aw_lift {f : Rho → Option (List D)} (h : ∃ d, f ρ = some d ∧ Q d ρ) : Aw (liftA f) ρ Q := by
  obtain ⟨d, h1, h2⟩ := h
  exact ⟨d, ρ, by unfold liftA; rw [h1]; rfl, h2⟩
theorem aw_cons {f : Ef} {g : Af} (h : Ev f ρ fun a ρ1 => Aw g ρ1 fun as ρ2 => Q (a :: as) ρ2) : Aw (aS f g) ρ Q := by
  obtain ⟨a, ρ1, h1, as, ρ2, h2, h3⟩ := h
  exact ⟨_, ρ2, by unfold aS; rw [h1]; show (g ρ1).map _ = _; rw [h2]; rfl, h3⟩
theorem aw_items {f : Ef} (h : Ev f ρ fun a ρ1 => ∃ ds, items a = some ds ∧ Q ds ρ1) : Aw (seqI f) ρ Q := by
  obtain ⟨a, ρ1, h1, ds, h2, h3⟩ := h
  exact ⟨_, ρ1, by unfold seqI; rw [h1]; show (items a).map _ = _; rw [h2]; rfl, h3⟩
theorem aw_range {f : Af} (h : Aw f ρ fun as ρ1 => ∃ ds, rng as = some ds ∧ Q ds ρ1) : Aw (seqR f) ρ Q := by
  obtain ⟨a, ρ1, h1, ds, h2, h3⟩ := h
  exact ⟨_, ρ1, by unfold seqR; rw [h1]; show (rng a).map _ = _; rw [h2]; rfl, h3⟩
end
/-- a comprehension whose turns change the state: I by what is left and what is made -/
theorem ev_comp {α : Type} {it : Af} {g : Gf} {p : Tf} {e : Ef} {vs : List Nat} {ρ : Rho} {Q : D → Rho → Prop} (enc : α → D) (I : List α → List D → Rho → Prop)
    (h : Aw it ρ fun ds ρ1 => ∃ xs ρw, ds = xs.map enc ∧ xs.length ≤ lim ∧ unwO vs ρ1 = some ρw ∧ I xs [] ρw ∧ ∀ out ρe, I [] out ρe → Q (.list out) (rst ρ1 ρe vs))
    (hs : ∀ x r out ρ, I (x :: r) out ρ → ∃ ρ1, g (enc x) ρ = some ρ1 ∧ Te p ρ1 fun c ρ2 => (c = true → Ev e ρ2 fun a ρ3 => ∃ ρ4, unwO vs ρ3 = some ρ4 ∧ I r (out ++ [a]) ρ4) ∧ (c = false → ∃ ρ4, unwO vs ρ2 = some ρ4 ∧ I r out ρ4)) : Ev (compE it g p e vs) ρ Q := by
  obtain ⟨ds, ρ1, h1, xs, ρw, rfl, hl, h2, h3, hq⟩ := h
  have run : ∀ (xs : List α) (out : List D) (ρ : Rho), I xs out ρ → ∃ rest ρe, compS g p e vs (xs.map enc) ρ = some (rest, ρe) ∧ I [] (out ++ rest) ρe ∧ rest.length ≤ xs.length := by
    intro xs
    induction xs with
    | nil => intro out ρ h; exact ⟨[], ρ, rfl, by rw [List.append_nil]; exact h, Nat.le_refl _⟩
    | cons x r ih =>
      intro out ρ h
      obtain ⟨ρ1, e1, c, ρ2, e2, ht, hf⟩ := hs x r out ρ h
      cases c with
      | true =>
        obtain ⟨a, ρ3, e3, ρ4, e4, h4⟩ := ht rfl
        obtain ⟨rest, ρe, q1, q2, q3⟩ := ih _ _ h4
        refine ⟨a :: rest, ρe, ?_, by rw [List.append_assoc] at q2; exact q2, by simp; omega⟩
        show (g (enc x) ρ).bind _ = _
        rw [e1]
        show (p ρ1).bind _ = _
        rw [e2]
        show (e ρ2).bind _ = _
        rw [e3]
        show (unwO vs ρ3).bind _ = _
        rw [e4]
        show (compS g p e vs (r.map enc) ρ4).map _ = _
        rw [q1]
        rfl
      | false =>
        obtain ⟨ρ4, e4, h4⟩ := hf rfl
        obtain ⟨rest, ρe, q1, q2, q3⟩ := ih _ _ h4
        refine ⟨rest, ρe, ?_, q2, by simp; omega⟩
        show (g (enc x) ρ).bind _ = _
        rw [e1]
        show (p ρ1).bind _ = _
        rw [e2]
        show (unwO vs ρ2).bind _ = _
        rw [e4]
        exact q1
  obtain ⟨rest, ρe, q1, q2, q3⟩ := run xs [] ρw h3
  refine ⟨.list rest, rst ρ1 ρe vs, ?_, hq _ _ q2⟩
  unfold compE
  rw [h1]
  show (unwO vs ρ1).bind _ = _
  rw [h2]
  show (compS g p e vs (xs.map enc) ρw).bind _ = _
  rw [q1]
  show (if rest.length ≤ lim then _ else _) = _
  rw [if_pos (Nat.le_trans q3 hl)]
/-- a comprehension that changes nothing -/
theorem compPs_map {α : Type} {g : Gf} {p : Rho → Option Bool} {e : Rho → Option D} {ρ : Rho} (enc : α → D) (q : α → Bool) (h : α → D) (xs : List α)
    (H : ∀ x ∈ xs, ∃ ρ1, g (enc x) ρ = some ρ1 ∧ p ρ1 = some (q x) ∧ (q x = true → e ρ1 = some (h x))) : compPs g p e ρ (xs.map enc) = some ((xs.filter q).map h) := by
  induction xs with
  | nil => rfl
  | cons x r ih =>
    obtain ⟨ρ1, h1, h2, h3⟩ := H x List.mem_cons_self
    have ih := ih fun y hy => H y (List.mem_cons_of_mem _ hy)
    show (g (enc x) ρ).bind _ = _
    rw [h1]
    show (p ρ1).bind _ = _
    rw [h2]
    cases hq : q x with
    | true =>
      show (e ρ1).bind _ = _
      rw [h3 hq]
      show (compPs g p e ρ (r.map enc)).map _ = _
      rw [ih, List.filter_cons_of_pos hq]
      rfl
    | false =>
      show compPs g p e ρ (r.map enc) = _
      rw [ih, List.filter_cons_of_neg (by rw [hq]; exact Bool.false_ne_true)]
theorem compPE_map {α : Type} {it : Rho → Option (List D)} {g : Gf} {p : Rho → Option Bool} {e : Rho → Option D} {vs : List Nat} {ρ : Rho} (enc : α → D) (q : α → Bool) (h : α → D) (xs : List α) (h1 : it ρ = some (xs.map enc)) (h2 : free vs ρ = true) (hl : xs.length ≤ lim)
    (H : ∀ x ∈ xs, ∃ ρ1, g (enc x) (unw ρ vs) = some ρ1 ∧ p ρ1 = some (q x) ∧ (q x = true → e ρ1 = some (h x))) : compPE it g p e vs ρ = some (.list ((xs.filter q).map h)) := by
  unfold compPE unwO
  rw [h1, if_pos h2]
  show (compPs g p e (unw ρ vs) (xs.map enc)).bind _ = _
  rw [compPs_map enc q h xs H]
  show (if _ then _ else _) = _
  rw [if_pos]
  rw [List.length_map]
  exact Nat.le_trans (List.length_filter_le _ _) hl
/-- .. without a test -/
theorem compPE_all {α : Type} {it : Rho → Option (List D)} {g : Gf} {e : Rho → Option D} {vs : List Nat} {ρ : Rho} (enc : α → D) (h : α → D) (xs : List α) (h1 : it ρ = some (xs.map enc)) (h2 : free vs ρ = true) (hl : xs.length ≤ lim)
    (H : ∀ x ∈ xs, ∃ ρ1, g (enc x) (unw ρ vs) = some ρ1 ∧ e ρ1 = some (h x)) : compPE it g tsN e vs ρ = some (.list (xs.map h)) := by
  have z := compPE_map (p := tsN) enc (fun _ => true) h xs h1 h2 hl fun x hx => let ⟨ρ1, a, b⟩ := H x hx; ⟨ρ1, a, rfl, fun _ => b⟩
  rw [List.filter_eq_self.mpr fun _ _ => rfl] at z
  exact z
theorem compPs2_map {α β : Type} {g g1 : Gf} {p p1 : Rho → Option Bool} {it1 : Rho → Option (List D)} {e : Rho → Option D} {vs1 : List Nat} {ρ : Rho} (enc : α → D) (f : α → List D) (xs : List α)
    (H : ∀ x ∈ xs, ∃ ρ1 es, g (enc x) ρ = some ρ1 ∧ p ρ1 = some true ∧ it1 ρ1 = some es ∧ compPs g1 p1 e (unw ρ1 vs1) es = some (f x)) : compPs2 g p it1 g1 p1 e vs1 ρ (xs.map enc) = some (xs.flatMap f) := by
  induction xs with
  | nil => rfl
  | cons x r ih =>
    obtain ⟨ρ1, es, h1, h2, h3, h4⟩ := H x List.mem_cons_self
    have ih := ih fun y hy => H y (List.mem_cons_of_mem _ hy)
    show (g (enc x) ρ).bind _ = _
    rw [h1]
    show (p ρ1).bind _ = _
    rw [h2]
    show (it1 ρ1).bind _ = _
    rw [h3]
    show (compPs g1 p1 e (unw ρ1 vs1) es).bind _ = _
    rw [h4]
    show (compPs2 g p it1 g1 p1 e vs1 ρ (r.map enc)).map _ = _
    rw [ih, List.flatMap_cons]
    rfl
theorem compPE2_map {α : Type} {it : Rho → Option (List D)} {g g1 : Gf} {p p1 : Rho → Option Bool} {it1 : Rho → Option (List D)} {e : Rho → Option D} {vs vs1 : List Nat} {ρ : Rho} (enc : α → D) (f : α → List D) (xs : List α) (h1 : it ρ = some (xs.map enc)) (h2 : free vs ρ = true) (hl : (xs.flatMap f).length ≤ lim)
    (H : ∀ x ∈ xs, ∃ ρ1 es, g (enc x) (unw ρ vs) = some ρ1 ∧ p ρ1 = some true ∧ it1 ρ1 = some es ∧ compPs g1 p1 e (unw ρ1 vs1) es = some (f x)) : compPE2 it g p it1 g1 p1 e vs vs1 ρ = some (.list (xs.flatMap f)) := by
  unfold compPE2 unwO
  rw [h1, if_pos h2]
  show (compPs2 g p it1 g1 p1 e vs1 (unw ρ vs) (xs.map enc)).bind _ = _
  rw [compPs2_map (β := α) enc f xs H]
  show (if _ then _ else _) = _
  rw [if_pos hl]
end DL
namespace DL
open L2 PyProof.Rows PySem PySem.Spec
/-! ## the combinators evaluated -/
section
variable {ρ : Rho} {s : Sl} {d e : D} {i j : Nat} {g : D → Option D} {g2 : D → D → Option D} {gl : List D → Option D} {f f1 f2 : Rho → Option D} {t t1 t2 : Rho → Option Bool} {a : Rho → Option (List D)}
/-- a slot that is the def's own, no list of its own -/
def Sl.pl : Sl → Bool
  | .un => true
  | .p _ => true
  | _ => false
@[simp] theorem pl_un : Sl.pl .un = true := rfl
@[simp] theorem pl_p : Sl.pl (.p d) = true := rfl
@[simp] theorem own_pl (h : s.pl = true) : s.own = false := by cases s <;> first | rfl | cases h
@[simp] theorem own_un : Sl.own .un = false := rfl
@[simp] theorem own_p : Sl.own (.p d) = false := rfl
@[simp] theorem pu1_eq : pu1 g f ρ = (f ρ).bind g := rfl
@[simp] theorem pu2_eq : pu2 g2 f1 f2 ρ = (f1 ρ).bind fun x => (f2 ρ).bind fun y => g2 x y := rfl
@[simp] theorem puA_eq : puA gl a ρ = (a ρ).bind gl := rfl
@[simp] theorem pu0_eq : pu0 gl ρ = gl [] := rfl
@[simp] theorem aN_eq : aN ρ = some [] := rfl
@[simp] theorem aC_eq : aC f a ρ = (f ρ).bind fun x => (a ρ).map fun r => x :: r := rfl
@[simp] theorem cC_eq : cC d ρ = some d := rfl
@[simp] theorem vP_zero : vP 0 (.p d :: ρ) = some d := rfl
@[simp] theorem vP_succ : vP (i + 1) (s :: ρ) = vP i ρ := rfl
@[simp] theorem vB_zero : vB 0 (.p d :: ρ) = some d := rfl
@[simp] theorem vB_zeroO : vB 0 (.o d :: ρ) = some d := rfl
@[simp] theorem vB_zeroM : vB 0 (.m d :: ρ) = some d := rfl
@[simp] theorem vB_succ : vB (i + 1) (s :: ρ) = vB i ρ := rfl
@[simp] theorem ifP_eq : ifP t f1 f2 ρ = (t ρ).bind fun c => if c = true then f1 ρ else f2 ρ := rfl
@[simp] theorem andP_eq : andP t1 t2 ρ = (t1 ρ).bind fun c => if c = true then t2 ρ else some false := rfl
@[simp] theorem orP_eq : orP t1 t2 ρ = (t1 ρ).bind fun c => if c = true then some true else t2 ρ := rfl
@[simp] theorem notP_eq : notP t ρ = (t ρ).map fun c => !c := rfl
@[simp] theorem tstP_eq : tstP f ρ = (f ρ).bind blOf := rfl
@[simp] theorem tsN_eq : tsN ρ = some true := rfl
@[simp] theorem andVP_eq : andVP f1 f2 ρ = (f1 ρ).bind fun a => (blOf a).bind fun c => if c = true then f2 ρ else some (.bool false) := rfl
@[simp] theorem orVP_eq : orVP f1 f2 ρ = (f1 ρ).bind fun a => (blOf a).bind fun c => if c = true then some (.bool true) else f2 ρ := rfl
@[simp] theorem mkLP_eq : mkLP a ρ = (a ρ).map .list := rfl
@[simp] theorem mkTP_eq : mkTP a ρ = (a ρ).map .tuple := rfl
@[simp] theorem puI_eq : puI f ρ = (f ρ).bind items := rfl
@[simp] theorem puR_eq : puR a ρ = (a ρ).bind rng := rfl
@[simp] theorem oN_eq : oN ρ = some none := rfl
@[simp] theorem oI_eq : oI f ρ = (f ρ).bind fun d => (intOf d).map some := rfl
@[simp] theorem puS_eq {gs : D → Option Int → Option Int → Option D} {fl fh : Rho → Option (Option Int)} : puS gs f fl fh ρ = (f ρ).bind fun a => (fl ρ).bind fun l => (fh ρ).bind fun h => gs a l h := rfl
@[simp] theorem chP_eq {h2 : D → D → Option D} {fa fb fc : Rho → Option D} : chP g2 h2 fa fb fc ρ = (fa ρ).bind fun a => (fb ρ).bind fun b => (g2 a b).bind fun z => (blOf z).bind fun t => if t = true then (fc ρ).bind fun c => h2 b c else some (.bool false) := rfl
@[simp] theorem blOf_bool {b : Bool} : blOf (.bool b) = some b := rfl
@[simp] theorem intOf_int {i : Int} : intOf (.int i) = some i := rfl
@[simp] theorem items_list {l : List D} : items (.list l) = some l := rfl
@[simp] theorem items_tup {l : List D} : items (.tuple l) = some l := rfl
@[simp] theorem items_str {x : Str} : items (.str x) = some (chars x) := rfl
@[simp] theorem on1_one : on1 g [d] = g d := rfl
@[simp] theorem setP_zero : setP 0 d (.p e :: ρ) = some (.p d :: ρ) := rfl
@[simp] theorem setP_zeroU : setP 0 d (.un :: ρ) = some (.p d :: ρ) := rfl
@[simp] theorem setP_zeroO : setP 0 d (.o e :: ρ) = some (.p d :: ρ) := rfl
@[simp] theorem setP_zeroF (h : s.pl = true) : setP 0 d (s :: ρ) = some (.p d :: ρ) := by cases s <;> first | rfl | cases h
@[simp] theorem setP_succ : setP (i + 1) d (s :: ρ) = (setP i d ρ).map (s :: ·) := by
  show (match ρ[i]? with
    | none => none
    | some (.m _) => none
    | some _ => some ((s :: ρ).set (i + 1) (.p d))) = (match ρ[i]? with
    | none => none
    | some (.m _) => none
    | some _ => some (ρ.set i (.p d))).map (s :: ·)
  split <;> rfl
@[simp] theorem setO_zero : setO 0 d (.p e :: ρ) = some (.o d :: ρ) := rfl
@[simp] theorem setO_zeroU : setO 0 d (.un :: ρ) = some (.o d :: ρ) := rfl
@[simp] theorem setO_zeroO : setO 0 d (.o e :: ρ) = some (.o d :: ρ) := rfl
@[simp] theorem setO_zeroF (h : s.pl = true) : setO 0 d (s :: ρ) = some (.o d :: ρ) := by cases s <;> first | rfl | cases h
@[simp] theorem setO_succ : setO (i + 1) d (s :: ρ) = (setO i d ρ).map (s :: ·) := by
  show (match ρ[i]? with
    | none => none
    | some (.m _) => none
    | some _ => some ((s :: ρ).set (i + 1) (.o d))) = (match ρ[i]? with
    | none => none
    | some (.m _) => none
    | some _ => some (ρ.set i (.o d))).map (s :: ·)
  split <;> rfl
@[simp] theorem ownd_zeroO : ownd 0 (.o d :: ρ) = some d := rfl
@[simp] theorem ownd_zeroM : ownd 0 (.m d :: ρ) = some d := rfl
@[simp] theorem ownd_succ : ownd (i + 1) (s :: ρ) = ownd i ρ := rfl
@[simp] theorem wr_zeroO : wr 0 e (.o d :: ρ) = .o e :: ρ := rfl
@[simp] theorem wr_zeroM : wr 0 e (.m d :: ρ) = .m e :: ρ := rfl
@[simp] theorem wr_succ : wr (i + 1) e (s :: ρ) = s :: wr i e ρ := by
  show (match ρ[i]? with
    | some s' => (s :: ρ).set (i + 1) (s'.put e)
    | none => s :: ρ) = s :: (match ρ[i]? with
    | some s' => ρ.set i (s'.put e)
    | none => ρ)
  split <;> rfl
@[simp] theorem frz_zeroO : frz 0 (.o d :: ρ) = .p d :: ρ := rfl
@[simp] theorem frz_zero : frz 0 (.p d :: ρ) = .p d :: ρ := rfl
@[simp] theorem frz_succ : frz (i + 1) (s :: ρ) = s :: frz i ρ := by
  show (match ρ[i]? with
    | some (.o d) => (s :: ρ).set (i + 1) (.p d)
    | _ => s :: ρ) = s :: (match ρ[i]? with
    | some (.o d) => ρ.set i (.p d)
    | _ => ρ)
  split <;> rfl
@[simp] theorem unw_nil : unw ρ [] = ρ := rfl
@[simp] theorem unw_cons {v : Nat} {vs : List Nat} : unw ρ (v :: vs) = (unw ρ vs).set v .un := rfl
@[simp] theorem rst_nil {ρ0 : Rho} : rst ρ0 ρ [] = ρ := rfl
@[simp] theorem rst_cons {ρ0 : Rho} {v : Nat} {vs : List Nat} : rst ρ0 ρ (v :: vs) = (rst ρ0 ρ vs).set v (ρ0.getD v .un) := rfl
@[simp] theorem free_nil : free [] ρ = true := rfl
def freeAt (v : Nat) (ρ : Rho) : Bool := match ρ[v]? with
  | some s => !s.own
  | none => false
@[simp] theorem free_cons {v : Nat} {vs : List Nat} : free (v :: vs) ρ = (freeAt v ρ && free vs ρ) := rfl
@[simp] theorem freeAt_zero : freeAt 0 (s :: ρ) = !s.own := rfl
@[simp] theorem freeAt_succ : freeAt (i + 1) (s :: ρ) = freeAt i ρ := rfl
theorem unwO_eq {vs : List Nat} (h : free vs ρ = true) : unwO vs ρ = some (unw ρ vs) := by unfold unwO; rw [if_pos h]
@[simp] theorem gTup_eq {n : Nat} {gs : List D → Rho → Option Rho} {ds : List D} : gTup n gs (.tuple ds) ρ = if ds.length = n then gs ds ρ else none := rfl
@[simp] theorem gNil_eq : gNil [] ρ = some ρ := rfl
@[simp] theorem gCons_eq {gf : Gf} {gs : List D → Rho → Option Rho} {ds : List D} : gCons gf gs (d :: ds) ρ = (gf d ρ).bind (gs ds) := rfl
/-! statements -/
@[simp] theorem fnP_eq {N : Nat} {b : Sf} {ds : List D} : fnP N b ds = (b (ds.map Sl.p ++ List.replicate (N - ds.length) .un)).bind outD := rfl
@[simp] theorem lift_eq : lift f ρ = (f ρ).map fun d => (d, ρ) := rfl
@[simp] theorem liftT_eq : liftT t ρ = (t ρ).map fun d => (d, ρ) := rfl
@[simp] theorem liftA_eq : liftA a ρ = (a ρ).map fun d => (d, ρ) := rfl
@[simp] theorem sRt_eq {fe : Ef} : sRt fe ρ = (fe ρ).map fun a => .rt a.1 a.2 := rfl
@[simp] theorem sNx_eq : sNx ρ = some (.nx ρ) := rfl
@[simp] theorem sBk_eq : sBk ρ = some (.bk ρ) := rfl
@[simp] theorem sCt_eq : sCt ρ = some (.ct ρ) := rfl
def thenO (b : Sf) : Out → Option Out
  | .nx ρ1 => b ρ1
  | o => some o
@[simp] theorem thenO_nx {b : Sf} : thenO b (.nx ρ) = b ρ := rfl
@[simp] theorem thenO_rt {b : Sf} : thenO b (.rt d ρ) = some (.rt d ρ) := rfl
@[simp] theorem thenO_bk {b : Sf} : thenO b (.bk ρ) = some (.bk ρ) := rfl
@[simp] theorem thenO_ct {b : Sf} : thenO b (.ct ρ) = some (.ct ρ) := rfl
@[simp] theorem sSeq_eq {b c : Sf} : sSeq b c ρ = (b ρ).bind (thenO c) := by
  show (b ρ).bind _ = _
  refine congrArg _ (funext fun o => ?_)
  cases o <;> rfl
@[simp] theorem sSetP_eq {fe : Ef} : sSetP i fe ρ = (fe ρ).bind fun a => (setP i a.1 a.2).map .nx := rfl
@[simp] theorem sSetO_eq {fe : Ef} : sSetO i fe ρ = (fe ρ).bind fun a => (setO i a.1 a.2).map .nx := rfl
@[simp] theorem sIf_eq {tf : Tf} {b c : Sf} : sIf tf b c ρ = (tf ρ).bind fun x => if x.1 = true then b x.2 else c x.2 := rfl
@[simp] theorem sAsg_eq {gf : Gf} {fe : Ef} : sAsg gf fe ρ = (fe ρ).bind fun a => (gf a.1 a.2).map .nx := rfl
@[simp] theorem sFz_eq {b : Sf} : sFz i b ρ = b (frz i ρ) := rfl
@[simp] theorem sEx_eq {fe : Ef} : sEx fe ρ = (fe ρ).map fun a => .nx a.2 := rfl
@[simp] theorem sFor_eq {it : Af} {gf : Gf} {b : Sf} : sFor it gf b ρ = (it ρ).bind fun a => forS gf b a.1 a.2 := rfl
@[simp] theorem outD_rt : outD (.rt d ρ) = some d := rfl
@[simp] theorem outD_nx : outD (.nx ρ) = some .none := rfl
def ownAt (i : Nat) (ρ : Rho) : Option D := match ρ[i]? with
  | some (.o d) => some d
  | _ => none
@[simp] theorem ownAt_zero : ownAt 0 (.o d :: ρ) = some d := rfl
@[simp] theorem ownAt_succ : ownAt (i + 1) (s :: ρ) = ownAt i ρ := rfl
@[simp] theorem sRtO_eq : sRtO i ρ = (ownAt i ρ).map fun d => .rt d ρ := by
  unfold sRtO ownAt
  generalize ρ[i]? = o
  cases o with
  | none => rfl
  | some s => cases s <;> rfl
def mAt (i : Nat) (ρ : Rho) : Option D := match ρ[i]? with
  | some (.m d) => some d
  | _ => none
@[simp] theorem mAt_zero : mAt 0 (.m d :: ρ) = some d := rfl
@[simp] theorem mAt_succ : mAt (i + 1) (s :: ρ) = mAt i ρ := rfl
@[simp] theorem outM_rt : outM i (.rt d ρ) = (mAt i ρ).map fun c => (d, c) := by
  unfold mAt
  show (match ρ[i]? with
    | some (.m c) => some (d, c)
    | _ => none) = _
  split <;> rfl
@[simp] theorem outM_nx : outM i (.nx ρ) = (mAt i ρ).map fun c => (.none, c) := by
  unfold mAt
  show (match ρ[i]? with
    | some (.m c) => some (PyData.none, c)
    | _ => none) = _
  split <;> rfl
end
theorem rn_of {b : Sf} {ρ : Rho} {o : Out} {Q : Out → Prop} (h : b ρ = some o) (q : Q o) : Rn b ρ Q := ⟨o, h, q⟩
theorem fnP_rn {N : Nat} {b : Sf} {ds : List D} {d : D} (h : Rn b (ds.map Sl.p ++ List.replicate (N - ds.length) .un) fun o => outD o = some d) : fnP N b ds = some d := by
  obtain ⟨o, h1, h2⟩ := h
  unfold fnP
  rw [h1]
  exact h2
theorem fnP_go {N : Nat} {b : Sf} {ds : List D} {d : D} (ρ : Rho) (e : ds.map Sl.p ++ List.replicate (N - ds.length) .un = ρ) (h : Rn b ρ fun o => outD o = some d) : fnP N b ds = some d := fnP_rn (by rw [e]; exact h)
theorem fnM_go {N k : Nat} {b : Sf} {c : D} {ds : List D} {Q : D → D → Prop} (ρ : Rho) (e : ins k (.m c) (ds.map Sl.p) ++ List.replicate (N - (ds.length + 1)) .un = ρ) (h : Rn b ρ fun o => OkP (outM k o) Q) : Cm (fnM N k b) c ds Q := by
  obtain ⟨o, h1, ⟨r, c'⟩, h2, h3⟩ := h
  refine ⟨r, c', ?_, h3⟩
  unfold fnM
  rw [e, h1]
  exact h2
theorem fnM_rn {N k : Nat} {b : Sf} {c : D} {ds : List D} {Q : D → D → Prop} (h : Rn b (ins k (.m c) (ds.map Sl.p) ++ List.replicate (N - (ds.length + 1)) .un) fun o => ∃ r c', outM k o = some (r, c') ∧ Q r c') : Cm (fnM N k b) c ds Q := by
  obtain ⟨o, h1, r, c', h2, h3⟩ := h
  refine ⟨r, c', ?_, h3⟩
  unfold fnM
  rw [h1]
  exact h2
theorem rn_rtO {i : Nat} {ρ : Rho} {Q : Out → Prop} (h : ∃ d, ownAt i ρ = some d ∧ Q (.rt d ρ)) : Rn (sRtO i) ρ Q := by
  obtain ⟨d, h1, h2⟩ := h
  exact ⟨_, by rw [sRtO_eq, h1]; rfl, h2⟩
/-! ## values -/
section
variable {i j : Int}
@[simp] theorem addD_int : addD (.int i) (.int j) = some (.int (i + j)) := rfl
@[simp] theorem subD_int : subD (.int i) (.int j) = some (.int (i - j)) := rfl
@[simp] theorem negD_int : negD (.int i) = some (.int (-i)) := rfl
@[simp] theorem absD_int : absD (.int i) = some (.int (if i < 0 then -i else i)) := rfl
@[simp] theorem intD_int : intD (.int i) = some (.int i) := rfl
@[simp] theorem intD_bool {b : Bool} : intD (.bool b) = some (.int (if b then 1 else 0)) := rfl
theorem divOk_small (h : 0 < j) (h2 : j < 1073741824) : divOk i j = true := by
  unfold divOk
  rw [Bool.and_eq_true, Bool.or_eq_true, Nat.blt_eq]
  exact ⟨decide_eq_true h, .inl (by omega)⟩
theorem divOk_wide {k : Nat} (h : 0 < j) (h2 : j < 2 ^ k) (hk : k ≤ 9000 := by decide) (h0 : 0 < k := by decide) : divOk i j = true := by
  unfold divOk
  rw [Bool.and_eq_true, Bool.or_eq_true, Nat.blt_eq, Nat.blt_eq]
  have e : j.natAbs < 2 ^ k := by
    have : ((2 ^ k : Nat) : Int) = (2 : Int) ^ k := by simp
    omega
  exact ⟨decide_eq_true h, .inr (Nat.lt_of_lt_of_le (PySem.Flt.log2_lt_of h0 e) hk)⟩
theorem divD_int (h : divOk i j = true) : divD (.int i) (.int j) = some (.int (i / j)) := by
  show (if divOk i j = true then _ else _) = _
  rw [if_pos h]
theorem modD_int (h : 0 < j) : modD (.int i) (.int j) = some (.int (i % j)) := by
  show (if decide (0 < j) = true then _ else _) = _
  rw [if_pos (decide_eq_true h)]
theorem mulOk_l (h : -18446744073709551616 < i) (h2 : i < 18446744073709551616) : mulOk i j = true := by
  unfold mulOk
  rw [Bool.or_eq_true, Bool.or_eq_true, Nat.blt_eq, Nat.blt_eq]
  exact .inl (.inl (by omega))
theorem mulOk_r (h : -18446744073709551616 < j) (h2 : j < 18446744073709551616) : mulOk i j = true := by
  unfold mulOk
  rw [Bool.or_eq_true, Bool.or_eq_true, Nat.blt_eq, Nat.blt_eq]
  exact .inl (.inr (by omega))
theorem mulOk_wide {a b : Nat} (h1 : i.natAbs < 2 ^ a) (h2 : j.natAbs < 2 ^ b) (h : a + b ≤ 1000000 := by decide) (ha : 0 < a := by decide) (hb : 0 < b := by decide) : mulOk i j = true := by
  unfold mulOk
  have x := PySem.Flt.log2_lt_of ha h1
  have y := PySem.Flt.log2_lt_of hb h2
  rw [Bool.or_eq_true, Nat.blt_eq]
  exact .inr (by omega)
theorem mulD_int (h : mulOk i j = true) : mulD (.int i) (.int j) = some (.int (i * j)) := by
  show (if mulOk i j = true then _ else _) = _
  rw [if_pos h]
@[simp] theorem dOk_int : dOk (.int i) = true := by simp [dOk, PyData.plain, PyData.depth]
@[simp] theorem dOk_str {x : Str} : dOk (.str x) = true := by simp [dOk, PyData.plain, PyData.depth]
@[simp] theorem dOk_bool {x : Bool} : dOk (.bool x) = true := by simp [dOk, PyData.plain, PyData.depth]
@[simp] theorem dOk_none : dOk .none = true := by simp [dOk, PyData.plain, PyData.depth]
@[simp] theorem eqD_int : eqD (.int i) (.int j) = some (.bool (decide (i = j))) := by
  simp only [eqD, dOk_int, Bool.and_self, if_true, PyData.eqv]
  rfl
@[simp] theorem neD_int : neD (.int i) (.int j) = some (.bool (!decide (i = j))) := by
  simp only [neD, dOk_int, Bool.and_self, if_true, PyData.eqv]
  rfl
theorem dataLt_int : PySem.W.dataLt (.int i) (.int j) = decide (i < j) := by
  have h := PySem.W.dataLt_ints [i] [j]
  have e := PySem.W.dataLe_int (β := Int) (fun x => x)
  have e2 := congrFun (congrFun e j) i
  rw [PySem.W.dataLe_eq] at e2
  have e3 : (!PySem.W.dataLt (.int i) (.int j)) = decide (j ≤ i) := e2
  cases hx : PySem.W.dataLt (.int i) (.int j) with
  | true =>
    rw [hx] at e3
    have : ¬ j ≤ i := by simpa using e3.symm
    exact (decide_eq_true (by omega)).symm
  | false =>
    rw [hx] at e3
    have : j ≤ i := by simpa using e3.symm
    exact (decide_eq_false (by omega)).symm
theorem cOk_int : cOk (.int i) (.int j) = true := by
  unfold cOk
  simp [PySem.W.alike, notN]
@[simp] theorem ltD_int : ltD (.int i) (.int j) = some (.bool (decide (i < j))) := by rw [ltD, if_pos cOk_int, dataLt_int]
@[simp] theorem gtD_int : gtD (.int i) (.int j) = some (.bool (decide (j < i))) := by rw [gtD, if_pos cOk_int, dataLt_int]
@[simp] theorem leD_int : leD (.int i) (.int j) = some (.bool (decide (i ≤ j))) := by
  rw [leD, if_pos cOk_int, dataLt_int]
  congr 2
  by_cases h : i ≤ j
  · rw [decide_eq_true h, decide_eq_false (by omega)]; rfl
  · rw [decide_eq_false h, decide_eq_true (by omega)]; rfl
@[simp] theorem geD_int : geD (.int i) (.int j) = some (.bool (decide (j ≤ i))) := by
  rw [geD, if_pos cOk_int, dataLt_int]
  congr 2
  by_cases h : j ≤ i
  · rw [decide_eq_true h, decide_eq_false (by omega)]; rfl
  · rw [decide_eq_false h, decide_eq_true (by omega)]; rfl
@[simp] theorem lenD_list {l : List D} : lenD (.list l) = some (.int l.length) := rfl
@[simp] theorem lenD_tup {l : List D} : lenD (.tuple l) = some (.int l.length) := rfl
@[simp] theorem tupD_list {l : List D} : tupD (.list l) = some (.tuple l) := rfl
@[simp] theorem tupD_tup {l : List D} : tupD (.tuple l) = some (.tuple l) := rfl
@[simp] theorem lstD_list {l : List D} : lstD (.list l) = some (.list l) := rfl
@[simp] theorem lstD_tup {l : List D} : lstD (.tuple l) = some (.list l) := rfl
@[simp] theorem max2D_int : max2D [.int i, .int j] = some (.int (max i j)) := by
  show some (PyData.int (if j > i then j else i)) = _
  congr 2
  omega
@[simp] theorem min2D_int : min2D [.int i, .int j] = some (.int (min i j)) := by
  show some (PyData.int (if j < i then j else i)) = _
  congr 2
  omega
theorem sumD_list (ns : List Int) : sumD (.list (ns.map .int)) = some (.int (sumI ns)) := by
  show (intsOf (ns.map .int)).map _ = _
  rw [intsOf_map]
  rfl
theorem sumD_tup (ns : List Int) : sumD (.tuple (ns.map .int)) = some (.int (sumI ns)) := by
  show (intsOf (ns.map .int)).map _ = _
  rw [intsOf_map]
  rfl
@[simp] theorem ixD_list {l : List D} : ixD (.list l) (.int i) = atI l i := rfl
@[simp] theorem ixD_tup {l : List D} : ixD (.tuple l) (.int i) = atI l i := rfl
theorem atI_nat {α : Type} {l : List α} {n : Nat} (h : n < l.length) : atI l (n : Int) = some l[n] := by
  unfold atI ixN
  rw [if_pos (by omega), if_pos (by omega)]
  show l[(n : Int).toNat]? = _
  rw [Int.toNat_natCast, List.getElem?_eq_getElem h]
theorem rng_one {n : Nat} (h : n < 4611686018427387904) : rng [.int n] = some ((List.range n).map fun i => .int (i : Nat)) := by
  have e : rng [.int (n : Int)] = if bnd (n : Int) = true then some (rgI 0 ((n : Int).toNat)) else none := by rw [rng]
  rw [e, if_pos (bnd_iff.mpr ⟨by omega, by omega⟩), Int.toNat_natCast]
  unfold rgI
  refine congrArg some (List.map_congr_left fun i _ => ?_)
  rw [Int.zero_add]
theorem catOk {a b : Nat} (h : a + b ≤ 16777216) : Nat.ble (a + b) lim = true := Nat.ble_eq.mpr h
theorem addD_tup {a b : List D} (h : a.length + b.length ≤ 16777216) : addD (.tuple a) (.tuple b) = some (.tuple (a ++ b)) := by
  show (if _ then _ else _) = _
  rw [if_pos (catOk h)]
theorem addD_list {a b : List D} (h : a.length + b.length ≤ 16777216) : addD (.list a) (.list b) = some (.list (a ++ b)) := by
  show (if _ then _ else _) = _
  rw [if_pos (catOk h)]
theorem addD_str {a b : Str} (h : a.length + b.length ≤ 16777216) : addD (.str a) (.str b) = some (.str (a ++ b)) := by
  show (if _ then _ else _) = _
  rw [if_pos (catOk h)]
@[simp] theorem notD_bool {b : Bool} : notD (.bool b) = some (.bool (!b)) := rfl
end
end DL
namespace DL
open L2 PyProof.Rows PySem PySem.Spec
/-! ## what every law shares: draws, take, cell, same -/
def b_Ldraws : Sf :=
  (sSeq (sSetO 2 (lift (compPE (puI (vP 0)) (setP 7) tsN (puA (on1 intD) (aC (vP 7) aN)) [7]))) (sSeq (sIf (liftT (tstP (pu2 eqD (puA (on1 lenD) (aC (vB 2) aN)) (cC (.int 0))))) (sEx (mutE 2 gAppend (liftA (aC (cC (.int 0)) aN)))) sNx) (sSeq (sSetO 3 (lift (puA (on1 lstD) (aC (vB 2) aN)))) (sSeq (sSetO 4 (lift (mkLP aN))) (sSeq (sFor (liftA (puR (aC (vP 1) aN))) (setP 5) (sSeq (sSetP 6 (lift (pu2 modD (vP 5) (puA (on1 lenD) (aC (vB 2) aN))))) (sIf (liftT (andP (tstP (pu2 geD (pu2 ixD (vB 2) (vP 6)) (pu2 powD (cC (.int 10)) (cC (.int 18))))) (tstP (pu2 gtD (pu2 ixD (vB 3) (vP 6)) (cC (.int 0)))))) (sSeq (sEx (mutE 4 gAppend (liftA (aC (pu2 modD (puA (on1 intD) (aC (pu2 ixD (vB 3) (vP 6)) aN)) (cC (.int 1000))) aN)))) (storeL 3 (lift (pu2 divD (pu2 ixD (vB 3) (vP 6)) (cC (.int 1000)))) (lift (vP 6)))) (sSeq (sSetP 8 (lift (pu2 modD (puA (on1 intD) (aC (pu2 addD (pu2 addD (pu2 mulD (pu2 ixD (vB 2) (vP 6)) (cC (.int 48271))) (pu2 mulD (vP 5) (cC (.int 69621)))) (cC (.int 11))) aN)) (cC (.int 2147483647))))) (sEx (mutE 4 gAppend (liftA (aC (pu2 modD (puA (on1 intD) (aC (pu2 addD (pu2 addD (pu2 mulD (vP 8) (vP 8)) (pu2 mulD (cC (.int 3)) (vP 8))) (vP 5)) aN)) (cC (.int 1000003))) aN)))))))) (sSeq (sEx (mutE 4 gReverse (liftA aN))) (sRtO 4)))))))
def m_Ldraws : List D → Option D := fnP 9 b_Ldraws
def b_Ltake : Sf :=
  (sSeq (sIf (liftT (tstP (pu2 eqD (puA (on1 lenD) (aC (vB 0) aN)) (cC (.int 0))))) (sRt (lift (cC (.int 0)))) sNx) (sRt (seq2 modD (seqA (on1 intD) (aS (mutE 0 gPop (liftA aN)) (liftA aN))) (lift (vP 1)))))
def m_Ltake : D → List D → Option (D × D) := fnM 2 0 b_Ltake
def b_Lcell : Sf :=
  (sSeq (sIf (liftT (tstP (pu2 eqD (puA (on1 lenD) (aC (vP 0) aN)) (cC (.int 0))))) (sRt (lift (cC (.int 0)))) sNx) (sSeq (sSetP 2 (seqA (on1 intD) (aS (seq2 ixD (lift (vP 0)) (callM 1 m_Ltake (liftA (aC (puA (on1 lenD) (aC (vP 0) aN)) aN)))) (liftA aN)))) (sRt (lift (pu2 mulD (pu2 modD (puA (on1 absD) (aC (vP 2) aN)) (pu2 powD (cC (.int 10)) (cC (.int 60)))) (pu2 ixD (mkLP (aC (cC (.int 1)) (aC (pu1 negD (cC (.int 1))) aN))) (puA (on1 intD) (aC (pu2 ltD (vP 2) (cC (.int 0))) aN))))))))
def m_Lcell : D → List D → Option (D × D) := fnM 3 1 b_Lcell
def b_Lsame (slf : List D → Option D) : Sf :=
  (sSeq (sIf (liftT (tstP (pu1 (isiD .bo) (vP 1)))) (sRt (lift (andVP (pu1 (isiD .bo) (vP 0)) (pu2 eqD (vP 0) (vP 1))))) sNx) (sSeq (sIf (liftT (tstP (pu1 (isiD .it) (vP 1)))) (sRt (lift (andVP (pu1 (isiD .it) (vP 0)) (andVP (pu1 notD (pu1 (isiD .bo) (vP 0))) (pu2 eqD (vP 0) (vP 1)))))) sNx) (sSeq (sIf (liftT (tstP (pu1 (isiD .st) (vP 1)))) (sRt (lift (andVP (pu1 (isiD .st) (vP 0)) (pu2 eqD (vP 0) (vP 1))))) sNx) (sSeq (sIf (liftT (tstP (pu2 isN (vP 1) (cC .none)))) (sRt (lift (pu2 isN (vP 0) (cC .none)))) sNx) (sSeq (sIf (liftT (orP (notP (tstP (pu1 (isiD .tu) (vP 0)))) (tstP (pu2 neD (puA (on1 lenD) (aC (vP 0) aN)) (puA (on1 lenD) (aC (vP 1) aN)))))) (sRt (lift (cC (.bool false)))) sNx) (sSeq (sFor (liftA (puR (aC (puA (on1 lenD) (aC (vP 1) aN)) aN))) (setP 2) (sIf (liftT (notP (tstP (puA slf (aC (pu2 ixD (vP 0) (vP 2)) (aC (pu2 ixD (vP 1) (vP 2)) aN)))))) (sRt (lift (cC (.bool false)))) sNx)) (sRt (lift (cC (.bool true))))))))))
def m_Lsame : Nat → List D → Option D
  | 0 => fun _ => none
  | n + 1 => fnP 3 (b_Lsame (m_Lsame n))
/-- a list of ints -/
def Dr (c : D) : Prop := ∃ ns : List Int, c = .list (ns.map .int)
theorem powD_int {i j : Int} (h : powOk i j = true) : powD (.int i) (.int j) = some (.int (i ^ j.toNat)) := by
  show (if powOk i j = true then _ else _) = _
  rw [if_pos h]
theorem cm_take {c : D} {m : Int} {Q : D → D → Prop} (hc : Dr c) (hm : 0 < m) (h : ∀ v c', 0 ≤ v → v < m → Dr c' → Q (.int v) c') : Cm m_Ltake c [.int m] Q := by
  obtain ⟨ns, rfl⟩ := hc
  refine fnM_go [.m (.list (ns.map .int)), .p (.int m)] rfl ?_
  by_cases hn : ns = []
  · subst hn
    refine rn_seq (rn_if (te_lift ?_))
    simp
    refine rn_rt (ev_lift ?_)
    simp
    exact h 0 (.list []) (by omega) hm ⟨[], rfl⟩
  · obtain ⟨a, x, rfl⟩ : ∃ a x, ns = a ++ [x] := ⟨ns.dropLast, ns.getLast hn, (List.dropLast_concat_getLast hn).symm⟩
    refine rn_seq (rn_if (te_lift ?_))
    simp
    refine ⟨fun z => absurd z (by omega), fun _ => rn_nx ?_⟩
    simp
    refine rn_rt (ev_seq2 (ev_seqA (aw_cons (ev_mut ?_))))
    simp
    refine aw_lift ?_
    refine ⟨[], rfl, ?_⟩
    simp [gPop]
    refine aw_lift ?_
    simp
    refine ev_lift ?_
    simp [modD_int hm]
    exact h _ _ (Int.emod_nonneg _ (by omega)) (Int.emod_lt_of_pos _ hm) ⟨a, rfl⟩
theorem fnP_ex {N : Nat} {b : Sf} {ds : List D} {Q : D → Prop} (ρ : Rho) (e : ds.map Sl.p ++ List.replicate (N - ds.length) .un = ρ) (h : Rn b ρ fun o => ∃ d, outD o = some d ∧ Q d) : ∃ d, fnP N b ds = some d ∧ Q d := by
  obtain ⟨o, h1, d, h2, h3⟩ := h
  refine ⟨d, ?_, h3⟩
  unfold fnP
  rw [e, h1]
  exact h2
theorem atI_int {ns : List Int} {i : Nat} (h : i < ns.length) : atI (ns.map PyData.int) (i : Int) = some (.int (ns.getD i 0)) := by
  rw [atI_nat (by simpa using h)]
  simp [List.getD, List.getElem?_eq_getElem h]
theorem ixN_nat {n i : Nat} (h : i < n) : ixN n (i : Int) = some i := by
  unfold ixN
  rw [if_pos (by omega), if_pos (by omega), Int.toNat_natCast]
theorem big18 : powD (.int 10) (.int 18) = some (.int 1000000000000000000) := by
  rw [powD_int (by decide +kernel)]
  rfl
theorem big60 : powD (.int 10) (.int 60) = some (.int (10 ^ 60)) := by
  rw [powD_int (by decide +kernel)]
  rfl
theorem draws_ok {ns : List Int} (hl : ns.length ≤ 1000) {many : Nat} (hm : many ≤ 100000) : ∃ c, m_Ldraws [.list (ns.map .int), .int many] = some c ∧ Dr c := by
  refine fnP_ex [.p (.list (ns.map .int)), .p (.int many), .un, .un, .un, .un, .un, .un, .un] rfl ?_
  have z := compPE_all (it := puI (vP 0)) (g := setP 7) (e := puA (on1 intD) (aC (vP 7) aN)) (vs := [7]) (ρ := [.p (.list (ns.map .int)), .p (.int many), .un, .un, .un, .un, .un, .un, .un]) (fun n : Int => .int n) (fun n : Int => .int n) ns (by simp) (by simp) (by simp [lim]; omega) fun x hx => ⟨_, rfl, by simp⟩
  refine rn_seq (rn_setO (ev_lift ⟨_, z, ?_⟩))
  simp
  -- not empty
  have two : ∀ (cs : List Int) (b : Sf) (Q : Out → Prop), 0 < cs.length → cs.length ≤ 1001 → Rn b [.p (.list (ns.map .int)), .p (.int many), .o (.list (cs.map .int)), .un, .un, .un, .un, .un, .un] Q → Rn b [.p (.list (ns.map .int)), .p (.int many), .o (.list (cs.map .int)), .un, .un, .un, .un, .un, .un] Q := fun _ _ _ _ _ h => h
  refine rn_seq (rn_if (te_lift ?_))
  simp
  suffices key : ∀ cs : List Int, 0 < cs.length → cs.length ≤ 1001 → Rn (sSeq (sSetO 3 (lift (puA (on1 lstD) (aC (vB 2) aN)))) (sSeq (sSetO 4 (lift (mkLP aN))) (sSeq (sFor (liftA (puR (aC (vP 1) aN))) (setP 5) (sSeq (sSetP 6 (lift (pu2 modD (vP 5) (puA (on1 lenD) (aC (vB 2) aN))))) (sIf (liftT (andP (tstP (pu2 geD (pu2 ixD (vB 2) (vP 6)) (pu2 powD (cC (.int 10)) (cC (.int 18))))) (tstP (pu2 gtD (pu2 ixD (vB 3) (vP 6)) (cC (.int 0)))))) (sSeq (sEx (mutE 4 gAppend (liftA (aC (pu2 modD (puA (on1 intD) (aC (pu2 ixD (vB 3) (vP 6)) aN)) (cC (.int 1000))) aN)))) (storeL 3 (lift (pu2 divD (pu2 ixD (vB 3) (vP 6)) (cC (.int 1000)))) (lift (vP 6)))) (sSeq (sSetP 8 (lift (pu2 modD (puA (on1 intD) (aC (pu2 addD (pu2 addD (pu2 mulD (pu2 ixD (vB 2) (vP 6)) (cC (.int 48271))) (pu2 mulD (vP 5) (cC (.int 69621)))) (cC (.int 11))) aN)) (cC (.int 2147483647))))) (sEx (mutE 4 gAppend (liftA (aC (pu2 modD (puA (on1 intD) (aC (pu2 addD (pu2 addD (pu2 mulD (vP 8) (vP 8)) (pu2 mulD (cC (.int 3)) (vP 8))) (vP 5)) aN)) (cC (.int 1000003))) aN)))))))) (sSeq (sEx (mutE 4 gReverse (liftA aN))) (sRtO 4)))))
      [.p (.list (ns.map .int)), .p (.int many), .o (.list (cs.map .int)), .un, .un, .un, .un, .un, .un] (fun o => ∃ d, outD o = some d ∧ Dr d) by
    refine ⟨fun e => ?_, fun e => rn_nx ?_⟩
    · subst e
      refine rn_ex (ev_mut ?_)
      simp
      refine aw_lift ?_
      simp [gAppend, lim]
      exact key [0] (by simp) (by simp)
    · simp
      exact key ns (by cases ns with
        | nil => exact absurd rfl e
        | cons _ _ => simp) (by omega)
  intro cs h0 h1
  refine rn_seq (rn_setO (ev_lift ?_))
  simp
  refine rn_seq (rn_setO (ev_lift ?_))
  simp
  refine rn_seq (rn_for (aw_lift ?_))
  simp [rng_one (n := many) (by omega)]
  refine rn_forS _ (fun i ρ => ∃ (rs ds : List Int) (s5 s6 s8 : Sl), ρ = [.p (.list (ns.map .int)), .p (.int many), .o (.list (cs.map .int)), .o (.list (rs.map .int)), .o (.list (ds.map .int)), s5, s6, .un, s8] ∧ rs.length = cs.length ∧ ds.length ≤ i ∧ s5.pl = true ∧ s6.pl = true ∧ s8.pl = true) _ ⟨cs, [], .un, .un, .un, rfl, rfl, Nat.le_refl _, rfl, rfl, rfl⟩ ?_ ?_
  · rintro i d ρ hi ⟨rs, ds, s5, s6, s8, rfl, e1, e2, p5, p6, p8⟩
    obtain ⟨hlt, hd⟩ := List.getElem?_eq_some_iff.mp hi
    have hlt : i < many := by simpa using hlt
    have hd : d = .int (i : Int) := by simpa using hd.symm
    subst hd
    simp [p5]
    have hp : (0 : Int) < (cs.length : Int) := by omega
    have hat : ∃ j : Nat, j < cs.length ∧ (i : Int) % (cs.length : Int) = (j : Int) := ⟨i % cs.length, Nat.mod_lt _ h0, by simp⟩
    obtain ⟨j, hj, ej⟩ := hat
    have hj2 : j < rs.length := by omega
    refine rn_seq (rn_setP (ev_lift ?_))
    simp [modD_int hp, ej, p6]
    have dl : ds.length < lim := by
      have : (100000 : Nat) < lim := by decide
      omega
    have tst : andP (tstP (pu2 geD (pu2 ixD (vB 2) (vP 6)) (pu2 powD (cC (.int 10)) (cC (.int 18))))) (tstP (pu2 gtD (pu2 ixD (vB 3) (vP 6)) (cC (.int 0)))) [.p (.list (ns.map .int)), .p (.int many), .o (.list (cs.map .int)), .o (.list (rs.map .int)), .o (.list (ds.map .int)), .p (.int i), .p (.int j), .un, s8] = some (decide (1000000000000000000 ≤ cs.getD j 0) && decide (0 < rs.getD j 0)) := by
      simp only [andP_eq, tstP_eq, pu2_eq, vB_succ, vB_zeroO, vP_succ, vP_zero, cC_eq, Option.bind_some, ixD_list, atI_int hj, atI_int hj2, big18, geD_int, gtD_int, blOf_bool]
      cases decide (1000000000000000000 ≤ cs.getD j 0) <;> rfl
    refine rn_if (te_lift ⟨_, tst, fun _ => ?_, fun _ => ?_⟩)
    · refine rn_seq (rn_ex (ev_mut ?_))
      simp
      refine aw_lift ?_
      simp [atI_int hj2, modD_int (i := rs[j]?.getD 0) (j := 1000) (by decide), gAppend, dl]
      refine rn_store (ev_lift ?_)
      simp [atI_int hj2, divD_int (divOk_small (i := rs[j]?.getD 0) (j := 1000) (by decide) (by decide))]
      refine ev_lift ?_
      simp [ixN_nat (n := rs.length) (i := j) (by omega)]
      refine ⟨rs.set j (rs[j]?.getD 0 / 1000), ds ++ [rs[j]?.getD 0 % 1000], _, _, _, ⟨by simp [List.map_set], by simp, rfl, rfl, rfl⟩, by simpa using e1, by simpa using e2, rfl, rfl, p8⟩
    · have m1 : ∀ x : Int, mulD (.int x) (.int 48271) = some (.int (x * 48271)) := fun x => mulD_int (mulOk_r (by decide) (by decide))
      have m2 : ∀ x : Int, mulD (.int x) (.int 69621) = some (.int (x * 69621)) := fun x => mulD_int (mulOk_r (by decide) (by decide))
      have m3 : ∀ x : Int, mulD (.int 3) (.int x) = some (.int (3 * x)) := fun x => mulD_int (mulOk_l (by decide) (by decide))
      have m4 : ∀ x : Int, modD (.int x) (.int 2147483647) = some (.int (x % 2147483647)) := fun x => modD_int (by decide)
      have m5 : ∀ x : Int, modD (.int x) (.int 1000003) = some (.int (x % 1000003)) := fun x => modD_int (by decide)
      have m6 : ∀ x : Int, mulD (.int (x % 2147483647)) (.int (x % 2147483647)) = some (.int (x % 2147483647 * (x % 2147483647))) := fun x => mulD_int (mulOk_l (by omega) (by omega))
      refine rn_seq (rn_setP (ev_lift ?_))
      simp [atI_int hj, m1, m2, m4, p8]
      refine rn_ex (ev_mut ?_)
      simp
      refine aw_lift ?_
      simp [m3, m5, m6, gAppend, dl]
      refine ⟨rs, ds ++ [_], _, _, _, ⟨rfl, (List.map_append (f := PyData.int) (l₁ := ds) (l₂ := [_])).symm, rfl, rfl, rfl⟩, e1, ?_, rfl, rfl, rfl⟩
      simpa using e2
  · rintro ρ ⟨rs, ds, s5, s6, s8, rfl, e1, e2, p5, p6, p8⟩
    simp
    refine rn_seq (rn_ex (ev_mut ?_))
    simp
    refine aw_lift ?_
    simp [gReverse]
    refine rn_rtO ?_
    simp
    exact ⟨ds.reverse, by simp⟩
theorem cm_cell {c : D} {ns : List Int} {Q : D → D → Prop} (hc : Dr c) (h : ∀ v c', -(10 ^ 60) < v → v < 10 ^ 60 → Dr c' → Q (.int v) c') : Cm m_Lcell c [.list (ns.map .int)] Q := by
  refine fnM_go [.p (.list (ns.map .int)), .m c, .un] rfl ?_
  by_cases hn : ns = []
  · subst hn
    refine rn_seq (rn_if (te_lift ?_))
    simp
    refine rn_rt (ev_lift ?_)
    simp
    exact h 0 c (by decide) (by decide) hc
  · have hp : 0 < ns.length := by
      cases ns with
      | nil => exact absurd rfl hn
      | cons _ _ => simp
    refine rn_seq (rn_if (te_lift ?_))
    simp
    refine ⟨fun z => absurd z hn, fun _ => rn_nx ?_⟩
    simp
    refine rn_seq (rn_setP (ev_seqA (aw_cons (ev_seq2 (ev_lift ?_)))))
    simp
    refine ev_callM ?_
    simp
    refine aw_lift ?_
    simp
    refine cm_take hc (by omega) fun v c' h0 h1 hc' => ?_
    obtain ⟨j, rfl⟩ : ∃ j : Nat, v = (j : Int) := ⟨v.toNat, by omega⟩
    have hj : j < ns.length := by omega
    simp [atI_int hj]
    refine aw_lift ?_
    simp
    generalize ns[j]?.getD 0 = x
    have e1 : ∀ y : Int, modD (.int y) (.int (10 ^ 60)) = some (.int (y % 10 ^ 60)) := fun y => modD_int (by decide)
    have a1 := Int.emod_nonneg (if x < 0 then -x else x) (b := 10 ^ 60) (by decide)
    have a2 := Int.emod_lt_of_pos (if x < 0 then -x else x) (b := 10 ^ 60) (by decide)
    have fin : ∀ s : Int, s = 1 ∨ s = -1 → Q (.int ((if x < 0 then -x else x) % 10 ^ 60 * s)) c' := fun s hs => by
      refine h _ _ ?_ ?_ hc' <;> rcases hs with rfl | rfl <;> omega
    refine rn_rt (ev_lift ?_)
    simp only [pu2_eq, puA_eq, aC_eq, aN_eq, vP_succ, vP_zero, cC_eq, Option.bind_some, Option.map_some, on1_one, absD_int, big60, e1, mkLP_eq, pu1_eq, negD_int, ltD_int, intD_bool]
    by_cases hx : x < 0
    · rw [if_pos hx] at fin
      have e2 : mulD (.int (-x % 10 ^ 60)) (.int (-1)) = some (.int (-x % 10 ^ 60 * -1)) := mulD_int (mulOk_r (by decide) (by decide))
      have e3 : atI [PyData.int 1, PyData.int (-1)] 1 = some (.int (-1)) := rfl
      simp only [hx, if_true, decide_true, ixD_list, e3, Option.bind_some, e2]
      exact ⟨_, rfl, by simpa using fin (-1) (.inr rfl)⟩
    · rw [if_neg hx] at fin
      have e2 : mulD (.int (x % 10 ^ 60)) (.int 1) = some (.int (x % 10 ^ 60 * 1)) := mulD_int (mulOk_r (by decide) (by decide))
      have e3 : atI [PyData.int 1, PyData.int (-1)] 0 = some (.int 1) := rfl
      simp only [hx, if_false, decide_false, Bool.false_eq_true, ixD_list, e3, Option.bind_some, e2]
      exact ⟨_, rfl, by simpa using fin 1 (.inl rfl)⟩
def smOk : Nat → D → Bool
  | _, .none => true
  | _, .bool _ => true
  | _, .int _ => true
  | _, .str _ => true
  | n + 1, .tuple xs => Nat.ble xs.length 1000000 && xs.all (smOk n)
  | _, _ => false
@[simp] theorem isi_none {T : Ty4} : isiD T .none = some (.bool false) := rfl
@[simp] theorem isi_bo {b : Bool} : isiD .bo (.bool b) = some (.bool true) := rfl
@[simp] theorem isi_bi {b : Bool} : isiD .it (.bool b) = some (.bool true) := rfl
@[simp] theorem isi_ib {i : Int} : isiD .bo (.int i) = some (.bool false) := rfl
@[simp] theorem isi_ii {i : Int} : isiD .it (.int i) = some (.bool true) := rfl
@[simp] theorem isi_is {i : Int} : isiD .st (.int i) = some (.bool false) := rfl
@[simp] theorem isi_it {i : Int} : isiD .tu (.int i) = some (.bool false) := rfl
@[simp] theorem isi_sb {i : Str} : isiD .bo (.str i) = some (.bool false) := rfl
@[simp] theorem isi_si {i : Str} : isiD .it (.str i) = some (.bool false) := rfl
@[simp] theorem isi_ss {i : Str} : isiD .st (.str i) = some (.bool true) := rfl
@[simp] theorem isi_st {i : Str} : isiD .tu (.str i) = some (.bool false) := rfl
@[simp] theorem isi_tb {i : List D} : isiD .bo (.tuple i) = some (.bool false) := rfl
@[simp] theorem isi_ti {i : List D} : isiD .it (.tuple i) = some (.bool false) := rfl
@[simp] theorem isi_ts {i : List D} : isiD .st (.tuple i) = some (.bool false) := rfl
@[simp] theorem isi_tt {i : List D} : isiD .tu (.tuple i) = some (.bool true) := rfl
@[simp] theorem isN_int {i : Int} : isN (.int i) .none = some (.bool false) := rfl
@[simp] theorem isN_str {i : Str} : isN (.str i) .none = some (.bool false) := rfl
@[simp] theorem isN_tup {i : List D} : isN (.tuple i) .none = some (.bool false) := rfl
@[simp] theorem isN_bool {i : Bool} : isN (.bool i) .none = some (.bool false) := rfl
@[simp] theorem isN_none : isN .none .none = some (.bool true) := rfl
@[simp] theorem isNN_int {i : Int} : isNN (.int i) .none = some (.bool true) := rfl
@[simp] theorem isNN_str {i : Str} : isNN (.str i) .none = some (.bool true) := rfl
@[simp] theorem isNN_tup {i : List D} : isNN (.tuple i) .none = some (.bool true) := rfl
@[simp] theorem isNN_bool {i : Bool} : isNN (.bool i) .none = some (.bool true) := rfl
@[simp] theorem isNN_none : isNN .none .none = some (.bool false) := rfl
@[simp] theorem eqD_str {x y : Str} : eqD (.str x) (.str y) = some (.bool (decide (x = y))) := by
  simp only [eqD, dOk_str, Bool.and_self, if_true, PyData.eqv]
  rfl
@[simp] theorem neD_str {x y : Str} : neD (.str x) (.str y) = some (.bool (!decide (x = y))) := by
  simp only [neD, dOk_str, Bool.and_self, if_true, PyData.eqv]
  rfl
@[simp] theorem eqD_bool {x y : Bool} : eqD (.bool x) (.bool y) = some (.bool (decide (x = y))) := by
  simp only [eqD, dOk_bool, Bool.and_self, if_true, PyData.eqv]
  cases x <;> cases y <;> rfl
theorem same_refl : ∀ (n : Nat) (d : D), smOk n d = true → m_Lsame (n + 1) [d, d] = some (.bool true) := by
  intro n
  induction n with
  | zero =>
    intro d h
    cases d with
    | none => simp [m_Lsame, b_Lsame]
    | bool b => simp [m_Lsame, b_Lsame]
    | int i => simp [m_Lsame, b_Lsame]
    | str i => simp [m_Lsame, b_Lsame]
    | _ => cases h
  | succ n ih =>
    intro d h
    cases d with
    | none => simp [m_Lsame, b_Lsame]
    | bool b => simp [m_Lsame, b_Lsame]
    | int i => simp [m_Lsame, b_Lsame]
    | str i => simp [m_Lsame, b_Lsame]
    | tuple xs =>
      have h' : (Nat.ble xs.length 1000000 && xs.all (smOk n)) = true := h
      rw [Bool.and_eq_true, Nat.ble_eq, List.all_eq_true] at h'
      obtain ⟨h1, h2⟩ := h'
      refine fnP_go [.p (.tuple xs), .p (.tuple xs), .un] rfl ?_
      refine rn_seq (rn_if (te_lift ?_))
      simp
      refine rn_nx ?_
      simp
      refine rn_seq (rn_if (te_lift ?_))
      simp
      refine rn_nx ?_
      simp
      refine rn_seq (rn_if (te_lift ?_))
      simp
      refine rn_nx ?_
      simp
      refine rn_seq (rn_if (te_lift ?_))
      simp
      refine rn_nx ?_
      simp
      refine rn_seq (rn_if (te_lift ?_))
      simp
      refine rn_nx ?_
      simp
      refine rn_seq (rn_for (aw_lift ?_))
      simp [rng_one (n := xs.length) (by omega)]
      refine rn_forS _ (fun i ρ => ∃ s : Sl, ρ = [.p (.tuple xs), .p (.tuple xs), s] ∧ s.pl = true) _ ⟨.un, rfl, rfl⟩ ?_ ?_
      · rintro i d ρ hi ⟨s, rfl, hs⟩
        obtain ⟨hlt, hd⟩ := List.getElem?_eq_some_iff.mp hi
        have hlt : i < xs.length := by simpa using hlt
        have hd : d = .int (i : Int) := by simpa using hd.symm
        subst hd
        simp [hs]
        refine rn_if (te_lift ?_)
        simp [atI_nat hlt, ih _ (h2 _ (List.getElem_mem hlt))]
        refine rn_nx ?_
        simp
      · rintro ρ ⟨s, rfl, hs⟩
        simp
        refine rn_rt (ev_lift ?_)
        simp
    | _ => cases h
end DL
namespace DL
open L2 PyProof.Rows PySem PySem.Spec
/-! ## typed values as data -/
def eI : Int → D := .int
def eB : Bool → D := .bool
def eS : Str → D := .str
def eU : Unit → D := fun _ => .none
def eD : D → D := fun d => d
def eL {α : Type} (e : α → D) (l : List α) : D := .list (l.map e)
def eT {α : Type} (e : α → D) (l : List α) : D := .tuple (l.map e)
def eO {α : Type} (e : α → D) : Option α → D
  | none => .none
  | some a => e a
def eP {α β : Type} (a : α → D) (b : β → D) (p : α × β) : D := .tuple [a p.1, b p.2]
def eP3 {α β γ : Type} (a : α → D) (b : β → D) (c : γ → D) (p : α × β × γ) : D := .tuple [a p.1, b p.2.1, c p.2.2]
def eP4 {α β γ δ : Type} (a : α → D) (b : β → D) (c : γ → D) (d : δ → D) (p : α × β × γ × δ) : D := .tuple [a p.1, b p.2.1, c p.2.2.1, d p.2.2.2]
def eP5 {α β γ δ ε : Type} (a : α → D) (b : β → D) (c : γ → D) (d : δ → D) (e : ε → D) (p : α × β × γ × δ × ε) : D := .tuple [a p.1, b p.2.1, c p.2.2.1, d p.2.2.2.1, e p.2.2.2.2]
def eP6 {α β γ δ ε ζ : Type} (a : α → D) (b : β → D) (c : γ → D) (d : δ → D) (e : ε → D) (f : ζ → D) (p : α × β × γ × δ × ε × ζ) : D := .tuple [a p.1, b p.2.1, c p.2.2.1, d p.2.2.2.1, e p.2.2.2.2.1, f p.2.2.2.2.2]
instance : Inhabited Str := ⟨Str.empty⟩
instance : DecidableEq Str := inferInstance
/-- Python's == on these data is equality -/
structure EqE {α : Type} (e : α → D) (n : Nat) : Prop where
  plain : ∀ a, (e a).plain = true
  depth : ∀ a, (e a).depth ≤ n
  eqv : ∀ a b, PyData.eqv (e a) (e b) = true ↔ a = b
def NnE {α : Type} (e : α → D) : Prop := ∀ a, e a ≠ .none
section
variable {α β γ δ ε ζ : Type} {a : α → D} {b : β → D} {c : γ → D} {d : δ → D} {e : ε → D} {f : ζ → D} {n m k l j i : Nat}
theorem eqI : EqE eI 0 := ⟨fun _ => by simp [eI, PyData.plain], fun _ => by simp [eI, PyData.depth], fun x y => by simp [eI, PyData.eqv]⟩
theorem eqB : EqE eB 0 := ⟨fun _ => by simp [eB, PyData.plain], fun _ => by simp [eB, PyData.depth], fun x y => by simp [eB, PyData.eqv]⟩
theorem eqS : EqE eS 0 := ⟨fun _ => by simp [eS, PyData.plain], fun _ => by simp [eS, PyData.depth], fun x y => by simp [eS, PyData.eqv]⟩
theorem eqU : EqE eU 0 := ⟨fun _ => by simp [eU, PyData.plain], fun _ => by simp [eU, PyData.depth], fun x y => by simp [eU, PyData.eqv]⟩
theorem nnI : NnE eI := fun _ h => by cases h
theorem nnB : NnE eB := fun _ h => by cases h
theorem nnS : NnE eS := fun _ h => by cases h
theorem nnL : NnE (eL a) := fun _ h => by cases h
theorem nnT : NnE (eT a) := fun _ h => by cases h
theorem nnP : NnE (eP a b) := fun _ h => by cases h
theorem nnP3 : NnE (eP3 a b c) := fun _ h => by cases h
theorem nnP4 : NnE (eP4 a b c d) := fun _ h => by cases h
theorem nnP5 : NnE (eP5 a b c d e) := fun _ h => by cases h
theorem nnP6 : NnE (eP6 a b c d e f) := fun _ h => by cases h
theorem plainAll_map (h : EqE a n) : ∀ l : List α, PyData.plainAll (l.map a) = true
  | [] => by simp [PyData.plainAll]
  | x :: xs => by rw [List.map_cons, PyData.plainAll, h.plain, plainAll_map h xs]; rfl
theorem depthAll_map (h : EqE a n) : ∀ l : List α, PyData.depthAll (l.map a) ≤ n
  | [] => by simp [PyData.depthAll]
  | x :: xs => by
    rw [List.map_cons, PyData.depthAll]
    have h1 := h.depth x
    have h2 := depthAll_map h xs
    omega
theorem eqvAll_map (h : EqE a n) : ∀ x y : List α, PyData.eqvAll (x.map a) (y.map a) = true ↔ x = y
  | [], [] => by simp [PyData.eqvAll]
  | [], _ :: _ => by simp [PyData.eqvAll]
  | _ :: _, [] => by simp [PyData.eqvAll]
  | x :: xs, y :: ys => by
    rw [List.map_cons, List.map_cons, PyData.eqvAll, Bool.and_eq_true, h.eqv, eqvAll_map h xs ys]
    simp
theorem eqL (h : EqE a n) : EqE (eL a) (n + 1) :=
  ⟨fun x => by show PyData.plain (.list _) = true; rw [PyData.plain]; exact plainAll_map h x, fun x => by
    show PyData.depth (.list _) ≤ _
    rw [PyData.depth]
    have := depthAll_map h x
    omega, fun x y => by show PyData.eqv (.list _) (.list _) = true ↔ _; rw [PyData.eqv]; exact eqvAll_map h x y⟩
theorem eqT (h : EqE a n) : EqE (eT a) (n + 1) :=
  ⟨fun x => by show PyData.plain (.tuple _) = true; rw [PyData.plain]; exact plainAll_map h x, fun x => by
    show PyData.depth (.tuple _) ≤ _
    rw [PyData.depth]
    have := depthAll_map h x
    omega, fun x y => by show PyData.eqv (.tuple _) (.tuple _) = true ↔ _; rw [PyData.eqv]; exact eqvAll_map h x y⟩
theorem eqO (h : EqE a n) (hn : NnE a) : EqE (eO a) n :=
  ⟨fun x => by cases x with
    | none => simp [eO, PyData.plain]
    | some x => exact h.plain x, fun x => by cases x with
    | none => simp [eO, PyData.depth]
    | some x => exact h.depth x, fun x y => by
    have ne : ∀ z : D, z ≠ .none → PyData.eqv .none z = false ∧ PyData.eqv z .none = false := fun z hz => by cases z <;> first | exact absurd rfl hz | simp [PyData.eqv]
    cases x with
    | none => cases y with
      | none => simp [eO, PyData.eqv]
      | some y => simp [eO, (ne _ (hn y)).1]
    | some x => cases y with
      | none => simp [eO, (ne _ (hn x)).2]
      | some y => simp only [eO, h.eqv, Option.some.injEq]⟩
theorem eqP (ha : EqE a n) (hb : EqE b m) : EqE (eP a b) (max n m + 1) :=
  ⟨fun x => by simp only [eP, PyData.plain, PyData.plainAll, ha.plain, hb.plain, Bool.and_self], fun x => by
    have h1 := ha.depth x.1
    have h2 := hb.depth x.2
    simp only [eP, PyData.depth, PyData.depthAll]
    omega, fun x y => by
    simp only [eP, PyData.eqv, PyData.eqvAll, Bool.and_eq_true, ha.eqv, hb.eqv, and_true]
    exact ⟨fun ⟨p, q⟩ => Prod.ext p q, fun h => by subst h; exact ⟨rfl, rfl⟩⟩⟩
theorem eqP3 (ha : EqE a n) (hb : EqE b m) (hc : EqE c k) : EqE (eP3 a b c) (max n (max m k) + 1) :=
  ⟨fun x => by simp only [eP3, PyData.plain, PyData.plainAll, ha.plain, hb.plain, hc.plain, Bool.and_self], fun x => by
    have h1 := ha.depth x.1
    have h2 := hb.depth x.2.1
    have h3 := hc.depth x.2.2
    simp only [eP3, PyData.depth, PyData.depthAll]
    omega, fun x y => by
    simp only [eP3, PyData.eqv, PyData.eqvAll, Bool.and_eq_true, ha.eqv, hb.eqv, hc.eqv, and_true]
    exact ⟨fun ⟨p, q, r⟩ => Prod.ext p (Prod.ext q r), fun h => by subst h; exact ⟨rfl, rfl, rfl⟩⟩⟩
theorem eqP4 (ha : EqE a n) (hb : EqE b m) (hc : EqE c k) (hd : EqE d l) : EqE (eP4 a b c d) (max n (max m (max k l)) + 1) :=
  ⟨fun x => by simp only [eP4, PyData.plain, PyData.plainAll, ha.plain, hb.plain, hc.plain, hd.plain, Bool.and_self], fun x => by
    have h1 := ha.depth x.1
    have h2 := hb.depth x.2.1
    have h3 := hc.depth x.2.2.1
    have h4 := hd.depth x.2.2.2
    simp only [eP4, PyData.depth, PyData.depthAll]
    omega, fun x y => by
    simp only [eP4, PyData.eqv, PyData.eqvAll, Bool.and_eq_true, ha.eqv, hb.eqv, hc.eqv, hd.eqv, and_true]
    exact ⟨fun ⟨p, q, r, s⟩ => Prod.ext p (Prod.ext q (Prod.ext r s)), fun h => by subst h; exact ⟨rfl, rfl, rfl, rfl⟩⟩⟩
theorem eqP5 (ha : EqE a n) (hb : EqE b m) (hc : EqE c k) (hd : EqE d l) (he : EqE e j) : EqE (eP5 a b c d e) (max n (max m (max k (max l j))) + 1) :=
  ⟨fun x => by simp only [eP5, PyData.plain, PyData.plainAll, ha.plain, hb.plain, hc.plain, hd.plain, he.plain, Bool.and_self], fun x => by
    have h1 := ha.depth x.1
    have h2 := hb.depth x.2.1
    have h3 := hc.depth x.2.2.1
    have h4 := hd.depth x.2.2.2.1
    have h5 := he.depth x.2.2.2.2
    simp only [eP5, PyData.depth, PyData.depthAll]
    omega, fun x y => by
    simp only [eP5, PyData.eqv, PyData.eqvAll, Bool.and_eq_true, ha.eqv, hb.eqv, hc.eqv, hd.eqv, he.eqv, and_true]
    exact ⟨fun ⟨p, q, r, s, t⟩ => Prod.ext p (Prod.ext q (Prod.ext r (Prod.ext s t))), fun h => by subst h; exact ⟨rfl, rfl, rfl, rfl, rfl⟩⟩⟩
theorem EqE.ok (h : EqE a n) (hn : n ≤ 40) (x : α) : dOk (a x) = true := dOk_iff.mpr ⟨h.plain x, Nat.le_trans (h.depth x) hn⟩
theorem EqE.dec [DecidableEq α] (h : EqE a n) (x y : α) : PyData.eqv (a x) (a y) = decide (x = y) := by
  by_cases q : x = y
  · rw [decide_eq_true q]; exact (h.eqv x y).mpr q
  · rw [decide_eq_false q]
    cases z : PyData.eqv (a x) (a y) with
    | false => rfl
    | true => exact absurd ((h.eqv x y).mp z) q
theorem dv_eq [DecidableEq α] (h : EqE a n) (x y : α) (hn : n ≤ 40 := by decide) : eqD (a x) (a y) = some (eB (decide (x = y))) := by
  unfold eqD
  rw [h.ok hn, h.ok hn, h.dec]
  rfl
theorem dv_ne [DecidableEq α] (h : EqE a n) (x y : α) (hn : n ≤ 40 := by decide) : neD (a x) (a y) = some (eB (!decide (x = y))) := by
  unfold neD
  rw [h.ok hn, h.ok hn, h.dec]
  rfl
theorem any_map [DecidableEq α] (h : EqE a n) (x : α) (l : List α) : ((l.map a).any fun y => PyData.eqv y (a x)) = decide (x ∈ l) := by
  induction l with
  | nil => rfl
  | cons y ys ih =>
    rw [List.map_cons, List.any_cons, ih, h.dec]
    by_cases q : y = x
    · simp [q]
    · have q' : ¬ x = y := fun z => q z.symm
      simp [q, q']
theorem dv_inL [DecidableEq α] (h : EqE a n) (x : α) (l : List α) (hn : n ≤ 39 := by decide) : inD (a x) (eL a l) = some (eB (decide (x ∈ l))) := by
  show (if (dOk (a x) && dOk (eL a l)) = true then some ((l.map a).any fun y => PyData.eqv y (a x)) else none).map _ = _
  rw [h.ok (by omega), (eqL h).ok (by omega), any_map h]
  rfl
theorem dv_inT [DecidableEq α] (h : EqE a n) (x : α) (l : List α) (hn : n ≤ 39 := by decide) : inD (a x) (eT a l) = some (eB (decide (x ∈ l))) := by
  show (if (dOk (a x) && dOk (eT a l)) = true then some ((l.map a).any fun y => PyData.eqv y (a x)) else none).map _ = _
  rw [h.ok (by omega), (eqT h).ok (by omega), any_map h]
  rfl
theorem dv_ninL [DecidableEq α] (h : EqE a n) (x : α) (l : List α) (hn : n ≤ 39 := by decide) : ninD (a x) (eL a l) = some (eB (!decide (x ∈ l))) := by
  show (if (dOk (a x) && dOk (eL a l)) = true then some ((l.map a).any fun y => PyData.eqv y (a x)) else none).map _ = _
  rw [h.ok (by omega), (eqL h).ok (by omega), any_map h]
  rfl
theorem dv_ninT [DecidableEq α] (h : EqE a n) (x : α) (l : List α) (hn : n ≤ 39 := by decide) : ninD (a x) (eT a l) = some (eB (!decide (x ∈ l))) := by
  show (if (dOk (a x) && dOk (eT a l)) = true then some ((l.map a).any fun y => PyData.eqv y (a x)) else none).map _ = _
  rw [h.ok (by omega), (eqT h).ok (by omega), any_map h]
  rfl
end
/-- x in a text, by the model's own search -/
def inS (x y : Str) : Bool := !(Builtin.Str.occurrences y x 0 y.length 1).isEmpty
theorem dv_inS (x y : Str) : inD (eS x) (eS y) = some (eB (inS x y)) := rfl
theorem dv_ninS (x y : Str) : ninD (eS x) (eS y) = some (eB (!inS x y)) := rfl
/-! ## order -/
structure OrdE {α : Type} (e : α → D) (lt : α → α → Bool) (n : Nat) : Prop where
  eq : EqE e n
  al : ∀ a b, PySem.W.alike (e a) (e b) = true
  nn : NnE e
  lt : ∀ a b, PySem.W.dataLt (e a) (e b) = lt a b
def ltI (a b : Int) : Bool := decide (a < b)
def ltS (a b : Str) : Bool := decide (a.cps.toList < b.cps.toList)
def ltB (a b : Bool) : Bool := !a && b
def ltL {α : Type} [DecidableEq α] (lt : α → α → Bool) : List α → List α → Bool
  | [], [] => false
  | [], _ :: _ => true
  | _ :: _, [] => false
  | x :: xs, y :: ys => if x = y then ltL lt xs ys else lt x y
def ltP {α β : Type} [DecidableEq α] (lta : α → α → Bool) (ltb : β → β → Bool) (p q : α × β) : Bool := if p.1 = q.1 then ltb p.2 q.2 else lta p.1 q.1
section
variable {α β γ δ : Type} {a : α → D} {b : β → D} {c : γ → D} {d : δ → D} {lta : α → α → Bool} {ltb : β → β → Bool} {ltc : γ → γ → Bool} {ltd : δ → δ → Bool} {n m k l : Nat}
theorem notN_of {x : D} (h : x ≠ .none) : notN x = true := by cases x <;> first | exact absurd rfl h | rfl
theorem rdI : OrdE eI ltI 0 := ⟨eqI, fun _ _ => by simp [eI, PySem.W.alike], nnI, fun x y => PySem.W.dataLt_int x y⟩
theorem rdS : OrdE eS ltS 0 := ⟨eqS, fun _ _ => by simp [eS, PySem.W.alike], nnS, fun x y => PySem.W.dataLt_str x y⟩
theorem rdB : OrdE eB ltB 0 := ⟨eqB, fun _ _ => by simp [eB, PySem.W.alike], nnB, fun x y => (PySem.W.dataLt_bool x y).trans (by cases x <;> cases y <;> rfl)⟩
theorem alikeAll_map (h : OrdE a lta n) : ∀ x y : List α, PySem.W.alikeAll (x.map a) (y.map a) = true
  | [], y => by simp [PySem.W.alikeAll]
  | _ :: _, [] => by simp [PySem.W.alikeAll]
  | x :: xs, y :: ys => by rw [List.map_cons, List.map_cons, PySem.W.alikeAll, h.al, alikeAll_map h xs ys]; rfl
abbrev tkLt (x y : List D) : Bool := PyProof.Rows.lexLt itemOrd (PySem.W.keyToksAll x) (PySem.W.keyToksAll y)
theorem tk_nil_nil : tkLt [] [] = false := PyProof.Rows.lex_irrefl (O := itemOrd) _
theorem tk_nil_cons (y : D) (ys : List D) : tkLt [] (y :: ys) = true := by
  unfold tkLt
  rw [PySem.W.toks_all_cons, PySem.W.keyToksAll]
  exact (PySem.W.lex_atom (p := .inl 0) (q := .inl 1) (by simp) [] _).trans (by decide)
theorem tk_cons_nil (y : D) (ys : List D) : tkLt (y :: ys) [] = false := by
  unfold tkLt
  rw [PySem.W.toks_all_cons, PySem.W.keyToksAll]
  exact (PySem.W.lex_atom (p := .inl 1) (q := .inl 0) (by simp) _ []).trans (by decide)
theorem tk_cons [DecidableEq α] (h : OrdE a lta n) (x y : α) (xs ys : List D) : tkLt (a x :: xs) (a y :: ys) = if x = y then tkLt xs ys else lta x y := by
  have e := PySem.W.dataLt_cons (h.al x y) xs ys
  show PyProof.Rows.lexLt _ _ _ = _
  rw [e, h.eq.dec, h.lt]
  by_cases q : x = y
  · rw [if_pos (decide_eq_true q), if_pos q]
  · rw [if_neg (by rw [decide_eq_false q]; exact Bool.false_ne_true), if_neg q]
theorem tk_map [DecidableEq α] (h : OrdE a lta n) : ∀ x y : List α, tkLt (x.map a) (y.map a) = ltL lta x y
  | [], [] => tk_nil_nil
  | [], _ :: _ => tk_nil_cons _ _
  | _ :: _, [] => tk_cons_nil _ _
  | x :: xs, y :: ys => by
    rw [List.map_cons, List.map_cons, tk_cons h, tk_map h xs ys]
    rfl
theorem rdL [DecidableEq α] (h : OrdE a lta n) : OrdE (eL a) (ltL lta) (n + 1) := ⟨eqL h.eq, fun x y => by show PySem.W.alike (.list _) (.list _) = true; rw [PySem.W.alike]; exact alikeAll_map h x y, nnL, fun x y => (PySem.W.dataLt_list _ _).trans (tk_map h x y)⟩
theorem rdT [DecidableEq α] (h : OrdE a lta n) : OrdE (eT a) (ltL lta) (n + 1) := ⟨eqT h.eq, fun x y => by show PySem.W.alike (.tuple _) (.tuple _) = true; rw [PySem.W.alike]; exact alikeAll_map h x y, nnT, fun x y => (PySem.W.dataLt_tuple _ _).trans (tk_map h x y)⟩
theorem tk_one [DecidableEq β] (h : OrdE b ltb m) (x y : β) : tkLt [b x] [b y] = ltb x y := by
  rw [tk_cons h, tk_nil_nil]
  by_cases q : x = y
  · rw [if_pos q, q]
    have := h.lt y y
    rw [PySem.W.dataLt_self] at this
    exact this
  · rw [if_neg q]
theorem rdP [DecidableEq α] [DecidableEq β] (ha : OrdE a lta n) (hb : OrdE b ltb m) : OrdE (eP a b) (ltP lta ltb) (max n m + 1) :=
  ⟨eqP ha.eq hb.eq, fun x y => by simp only [eP, PySem.W.alike, PySem.W.alikeAll, ha.al, hb.al, Bool.and_self], nnP, fun x y => by
    refine (PySem.W.dataLt_tuple _ _).trans ((tk_cons ha x.1 y.1 _ _).trans ?_)
    rw [tk_one hb]
    rfl⟩
theorem rdP3 [DecidableEq α] [DecidableEq β] [DecidableEq γ] (ha : OrdE a lta n) (hb : OrdE b ltb m) (hc : OrdE c ltc k) : OrdE (eP3 a b c) (ltP lta (ltP ltb ltc)) (max n (max m k) + 1) :=
  ⟨eqP3 ha.eq hb.eq hc.eq, fun x y => by simp only [eP3, PySem.W.alike, PySem.W.alikeAll, ha.al, hb.al, hc.al, Bool.and_self], nnP3, fun x y => by
    refine (PySem.W.dataLt_tuple _ _).trans ((tk_cons ha x.1 y.1 _ _).trans ?_)
    rw [tk_cons hb, tk_one hc]
    rfl⟩
theorem rdP4 [DecidableEq α] [DecidableEq β] [DecidableEq γ] [DecidableEq δ] (ha : OrdE a lta n) (hb : OrdE b ltb m) (hc : OrdE c ltc k) (hd : OrdE d ltd l) : OrdE (eP4 a b c d) (ltP lta (ltP ltb (ltP ltc ltd))) (max n (max m (max k l)) + 1) :=
  ⟨eqP4 ha.eq hb.eq hc.eq hd.eq, fun x y => by simp only [eP4, PySem.W.alike, PySem.W.alikeAll, ha.al, hb.al, hc.al, hd.al, Bool.and_self], nnP4, fun x y => by
    refine (PySem.W.dataLt_tuple _ _).trans ((tk_cons ha x.1 y.1 _ _).trans ?_)
    rw [tk_cons hb, tk_cons hc, tk_one hd]
    rfl⟩
theorem OrdE.cok (h : OrdE a lta n) (hn : n ≤ 40) (x y : α) : cOk (a x) (a y) = true := by
  unfold cOk
  rw [h.al, notN_of (h.nn x), h.eq.ok hn, h.eq.ok hn]
  rfl
theorem dv_lt (h : OrdE a lta n) (x y : α) (hn : n ≤ 40 := by decide) : ltD (a x) (a y) = some (eB (lta x y)) := by rw [ltD, if_pos (h.cok hn x y), h.lt]; rfl
theorem dv_gt (h : OrdE a lta n) (x y : α) (hn : n ≤ 40 := by decide) : gtD (a x) (a y) = some (eB (lta y x)) := by rw [gtD, if_pos (h.cok hn x y), h.lt]; rfl
theorem dv_le (h : OrdE a lta n) (x y : α) (hn : n ≤ 40 := by decide) : leD (a x) (a y) = some (eB (!lta y x)) := by rw [leD, if_pos (h.cok hn x y), h.lt]; rfl
theorem dv_ge (h : OrdE a lta n) (x y : α) (hn : n ≤ 40 := by decide) : geD (a x) (a y) = some (eB (!lta x y)) := by rw [geD, if_pos (h.cok hn x y), h.lt]; rfl
theorem dv_ltI (x y : Int) : ltD (eI x) (eI y) = some (eB (decide (x < y))) := ltD_int
theorem dv_gtI (x y : Int) : gtD (eI x) (eI y) = some (eB (decide (y < x))) := gtD_int
theorem dv_leI (x y : Int) : leD (eI x) (eI y) = some (eB (decide (x ≤ y))) := leD_int
theorem dv_geI (x y : Int) : geD (eI x) (eI y) = some (eB (decide (y ≤ x))) := geD_int
theorem allAlike_map (h : OrdE a lta n) (l : List α) : allAlike (l.map a) = true := by
  unfold allAlike
  rw [List.all_eq_true]
  intro x hx
  rw [List.all_eq_true]
  intro y hy
  obtain ⟨x', _, rfl⟩ := List.mem_map.mp hx
  obtain ⟨y', _, rfl⟩ := List.mem_map.mp hy
  exact h.al _ _
theorem plOk_map (h : EqE a n) (l : List α) (hn : n ≤ 40 := by decide) : plOk (l.map a) = true := plOk_iff.mpr ⟨plainAll_map h l, Nat.le_trans (depthAll_map h l) hn⟩
theorem bestOk_map (h : OrdE a lta n) (l : List α) (hn : n ≤ 40 := by decide) : bestOk (l.map a) = true := by
  unfold bestOk
  rw [allAlike_map h, plOk_map h.eq l hn]
  have : (l.map a).all notN = true := by
    rw [List.all_eq_true]
    intro x hx
    obtain ⟨x', _, rfl⟩ := List.mem_map.mp hx
    exact notN_of (h.nn _)
  rw [this]
  rfl
end
/-- the first of the least, of the greatest -/
def minT {α : Type} [Inhabited α] (lt : α → α → Bool) : List α → α
  | [] => default
  | x :: xs => xs.foldl (fun a y => if lt y a = true then y else a) x
def maxT {α : Type} [Inhabited α] (lt : α → α → Bool) : List α → α
  | [] => default
  | x :: xs => xs.foldl (fun a y => if lt a y = true then y else a) x
def sortT {α : Type} (lt : α → α → Bool) (l : List α) : List α := l.mergeSort fun a b => !lt b a
def minI : List Int → Int
  | [] => 0
  | n :: ns => ns.foldl min n
def maxI : List Int → Int
  | [] => 0
  | n :: ns => ns.foldl max n
section
variable {α : Type} {a : α → D} {lta : α → α → Bool} {n : Nat} [Inhabited α]
theorem minD_map (h : OrdE a lta n) : ∀ (xs : List α) (x : α), PySem.W.minD (a x) (xs.map a) = a (xs.foldl (fun a y => if lta y a = true then y else a) x)
  | [], _ => rfl
  | y :: ys, x => by
    show PySem.W.minD (if PySem.W.dataLt (a y) (a x) = true then a y else a x) (ys.map a) = _
    rw [h.lt, List.foldl_cons]
    by_cases q : lta y x = true
    · rw [if_pos q, if_pos q]; exact minD_map h ys y
    · rw [if_neg q, if_neg q]; exact minD_map h ys x
theorem maxD_map (h : OrdE a lta n) : ∀ (xs : List α) (x : α), PySem.W.maxD (a x) (xs.map a) = a (xs.foldl (fun a y => if lta a y = true then y else a) x)
  | [], _ => rfl
  | y :: ys, x => by
    show PySem.W.maxD (if PySem.W.dataLt (a x) (a y) = true then a y else a x) (ys.map a) = _
    rw [h.lt, List.foldl_cons]
    by_cases q : lta x y = true
    · rw [if_pos q, if_pos q]; exact maxD_map h ys y
    · rw [if_neg q, if_neg q]; exact maxD_map h ys x
theorem dv_minL (h : OrdE a lta n) {l : List α} (hl : l ≠ []) (hn : n ≤ 40 := by decide) : minL (eL a l) = some (a (minT lta l)) := by
  cases l with
  | nil => exact absurd rfl hl
  | cons x xs =>
    show (if bestOk ((x :: xs).map a) = true then some (PySem.W.minD (a x) (xs.map a)) else none) = _
    rw [if_pos (bestOk_map h _ hn), minD_map h]
    rfl
theorem dv_minT (h : OrdE a lta n) {l : List α} (hl : l ≠ []) (hn : n ≤ 40 := by decide) : minL (eT a l) = some (a (minT lta l)) := dv_minL h hl hn
theorem dv_maxL (h : OrdE a lta n) {l : List α} (hl : l ≠ []) (hn : n ≤ 40 := by decide) : maxL (eL a l) = some (a (maxT lta l)) := by
  cases l with
  | nil => exact absurd rfl hl
  | cons x xs =>
    show (if bestOk ((x :: xs).map a) = true then some (PySem.W.maxD (a x) (xs.map a)) else none) = _
    rw [if_pos (bestOk_map h _ hn), maxD_map h]
    rfl
theorem dv_maxT (h : OrdE a lta n) {l : List α} (hl : l ≠ []) (hn : n ≤ 40 := by decide) : maxL (eT a l) = some (a (maxT lta l)) := dv_maxL h hl hn
theorem minT_int (l : List Int) : minT ltI l = minI l := by
  cases l with
  | nil => rfl
  | cons x xs =>
    show xs.foldl _ x = xs.foldl _ x
    congr 1
    funext p q
    unfold ltI
    by_cases h : q < p
    · rw [if_pos (decide_eq_true h)]; omega
    · rw [if_neg (by rw [decide_eq_false h]; exact Bool.false_ne_true)]; omega
theorem maxT_int (l : List Int) : maxT ltI l = maxI l := by
  cases l with
  | nil => rfl
  | cons x xs =>
    show xs.foldl _ x = xs.foldl _ x
    congr 1
    funext p q
    unfold ltI
    by_cases h : p < q
    · rw [if_pos (decide_eq_true h)]; omega
    · rw [if_neg (by rw [decide_eq_false h]; exact Bool.false_ne_true)]; omega
theorem dv_minLI {l : List Int} (hl : l ≠ []) : minL (eL eI l) = some (eI (minI l)) := by rw [dv_minL rdI hl, minT_int]
theorem dv_minTI {l : List Int} (hl : l ≠ []) : minL (eT eI l) = some (eI (minI l)) := by rw [dv_minT rdI hl, minT_int]
theorem dv_maxLI {l : List Int} (hl : l ≠ []) : maxL (eL eI l) = some (eI (maxI l)) := by rw [dv_maxL rdI hl, maxT_int]
theorem dv_maxTI {l : List Int} (hl : l ≠ []) : maxL (eT eI l) = some (eI (maxI l)) := by rw [dv_maxT rdI hl, maxT_int]
/-- what sorted takes: no tuples, or tuples that are not empty -/
def SoE {α : Type} (e : α → D) : Prop := (∀ x, tup1 (e x) = true) ∨ ∀ x, noTup (e x) = true
theorem soI : SoE eI := .inr fun _ => rfl
theorem soS : SoE eS := .inr fun _ => rfl
theorem soB : SoE eB := .inr fun _ => rfl
theorem soL {e : α → D} : SoE (eL e) := .inr fun _ => rfl
theorem soP {β : Type} {e : α → D} {b : β → D} : SoE (eP e b) := .inl fun _ => rfl
theorem soP3 {β γ : Type} {e : α → D} {b : β → D} {c : γ → D} : SoE (eP3 e b c) := .inl fun _ => rfl
theorem soP4 {β γ δ : Type} {e : α → D} {b : β → D} {c : γ → D} {d : δ → D} : SoE (eP4 e b c d) := .inl fun _ => rfl
theorem sortD_map (h : OrdE a lta n) (l : List α) : (l.map a).mergeSort sortLe = (sortT lta l).map a := by
  unfold sortT
  rw [List.map_mergeSort]
  intro x _ y _
  show (!lta y x) = !PySem.W.dataLt (a y) (a x)
  rw [h.lt]
theorem sortOk_map (h : OrdE a lta n) (l : List α) (hs : (∀ x ∈ l, tup1 (a x) = true) ∨ ∀ x ∈ l, noTup (a x) = true) (hn : n ≤ 40 := by decide) : sortOk (l.map a) = true := by
  unfold sortOk
  rw [allAlike_map h, plOk_map h.eq l hn]
  rcases hs with hs | hs
  · have : (l.map a).all tup1 = true := by
      rw [List.all_eq_true]
      intro x hx
      obtain ⟨x', hx', rfl⟩ := List.mem_map.mp hx
      exact hs _ hx'
    rw [this]; rfl
  · have : (l.map a).all noTup = true := by
      rw [List.all_eq_true]
      intro x hx
      obtain ⟨x', hx', rfl⟩ := List.mem_map.mp hx
      exact hs _ hx'
    rw [this]; simp
theorem dv_sortX (h : OrdE a lta n) (l : List α) (hs : (∀ x ∈ l, tup1 (a x) = true) ∨ ∀ x ∈ l, noTup (a x) = true) (hn : n ≤ 40 := by decide) : sortA (eL a l) = some (eL a (sortT lta l)) ∧ sortA (eT a l) = some (eL a (sortT lta l)) := by
  constructor <;>
  · show (if sortOk (l.map a) = true then some (PyData.list ((l.map a).mergeSort sortLe)) else none) = _
    rw [if_pos (sortOk_map h l hs hn), sortD_map h]
    rfl
theorem SoE.on (h : SoE a) (l : List α) : (∀ x ∈ l, tup1 (a x) = true) ∨ ∀ x ∈ l, noTup (a x) = true := by
  rcases h with h | h
  · exact .inl fun x _ => h x
  · exact .inr fun x _ => h x
theorem dv_sortL (h : OrdE a lta n) (hs : SoE a) (l : List α) (hn : n ≤ 40 := by decide) : sortA (eL a l) = some (eL a (sortT lta l)) := (dv_sortX h l (hs.on l) hn).1
theorem dv_sortT (h : OrdE a lta n) (hs : SoE a) (l : List α) (hn : n ≤ 40 := by decide) : sortA (eT a l) = some (eL a (sortT lta l)) := (dv_sortX h l (hs.on l) hn).2
/-- .. of tuples as long as one likes, none empty -/
theorem dv_sortLT {e : α → D} [DecidableEq α] (h : OrdE e lta n) {l : List (List α)} (hl : ∀ x ∈ l, x ≠ []) (hn : n ≤ 39 := by decide) : sortA (eL (eT e) l) = some (eL (eT e) (sortT (ltL lta) l)) :=
  (dv_sortX (rdT h) l (.inl fun x hx => by cases x with
    | nil => exact absurd rfl (hl _ hx)
    | cons _ _ => rfl) (by omega)).1
theorem dv_sortTT {e : α → D} [DecidableEq α] (h : OrdE e lta n) {l : List (List α)} (hl : ∀ x ∈ l, x ≠ []) (hn : n ≤ 39 := by decide) : sortA (eT (eT e) l) = some (eL (eT e) (sortT (ltL lta) l)) :=
  (dv_sortX (rdT h) l (.inl fun x hx => by cases x with
    | nil => exact absurd rfl (hl _ hx)
    | cons _ _ => rfl) (by omega)).2
end
/-! ## arithmetic and the like, on encoded values -/
theorem dv_addI (x y : Int) : addD (eI x) (eI y) = some (eI (x + y)) := rfl
theorem dv_subI (x y : Int) : subD (eI x) (eI y) = some (eI (x - y)) := rfl
theorem dv_negI (x : Int) : negD (eI x) = some (eI (-x)) := rfl
theorem dv_mulI {x y : Int} (h : mulOk x y = true) : mulD (eI x) (eI y) = some (eI (x * y)) := mulD_int h
theorem dv_divI {x y : Int} (h : divOk x y = true) : divD (eI x) (eI y) = some (eI (x / y)) := divD_int h
theorem dv_modI {x y : Int} (h : 0 < y) : modD (eI x) (eI y) = some (eI (x % y)) := modD_int h
theorem dv_powI {x y : Int} (h : powOk x y = true) : powD (eI x) (eI y) = some (eI (x ^ y.toNat)) := powD_int h
def absI (x : Int) : Int := if x < 0 then -x else x
theorem dv_absI (x : Int) : absD (eI x) = some (eI (absI x)) := rfl
theorem dv_intI (x : Int) : intD (eI x) = some (eI x) := rfl
theorem dv_intB (x : Bool) : intD (eB x) = some (eI (if x = true then 1 else 0)) := rfl
def intT (x : Str) : Int := (PySem.intText? x).getD 0
theorem dv_intS {x : Str} (h : x.length ≤ 640 ∧ (PySem.intText? x).isSome = true) : intD (eS x) = some (eI (intT x)) := by
  show (if _ then _ else _) = _
  rw [if_pos (Nat.ble_eq.mpr h.1)]
  unfold intT
  cases q : PySem.intText? x with
  | none => rw [q] at h; cases h.2
  | some i => rfl
theorem dv_strI {x : Int} (h : x.natAbs.log2 < 1920) : strD (eI x) = some (eS (toString x)) := by
  show (if _ then _ else _) = _
  rw [if_pos (Nat.blt_eq.mpr h)]
  rfl
theorem dv_notB (x : Bool) : notD (eB x) = some (eB (!x)) := rfl
section
variable {α β : Type} {a : α → D} {b : β → D}
theorem dv_catT {x y : List α} (h : x.length + y.length ≤ 16777216) : addD (eT a x) (eT a y) = some (eT a (x ++ y)) := by
  show addD (.tuple _) (.tuple _) = _
  rw [addD_tup (by simpa using h)]
  simp [eT]
theorem dv_catL {x y : List α} (h : x.length + y.length ≤ 16777216) : addD (eL a x) (eL a y) = some (eL a (x ++ y)) := by
  show addD (.list _) (.list _) = _
  rw [addD_list (by simpa using h)]
  simp [eL]
theorem dv_catLf {x y : List α} (h : x.length + y.length ≤ 16777216) : catD (eL a x) (eL a y) = some (eL a (x ++ y)) := by
  show (if _ then _ else _) = _
  rw [if_pos (catOk (by simpa using h))]
  simp [eL]
theorem dv_catS {x y : Str} (h : x.length + y.length ≤ 16777216) : addD (eS x) (eS y) = some (eS (x ++ y)) := addD_str h
theorem rep_map (k : Int) (x : List α) : rep k (x.map a) = (rep k x).map a := by
  unfold rep
  rw [List.map_flatten, List.map_replicate]
theorem dv_repT {x : List α} {k : Int} (h : repOk x.length k = true) : repT (eT a x) (eI k) = some (eT a (rep k x)) := by
  show (if repOk (x.map a).length k = true then some (PyData.tuple (rep k (x.map a))) else none) = _
  rw [List.length_map, if_pos h, rep_map]
  rfl
theorem dv_repL {x : List α} {k : Int} (h : repOk x.length k = true) : mulD (eL a x) (eI k) = some (eL a (rep k x)) := by
  show (if repOk (x.map a).length k = true then some (PyData.list (rep k (x.map a))) else none) = _
  rw [List.length_map, if_pos h, rep_map]
  rfl
theorem dv_repLf {x : List α} {k : Int} (h : repOk x.length k = true) : repD (eL a x) (eI k) = some (eL a (rep k x)) := by
  show (if repOk (x.map a).length k = true then some (PyData.list (rep k (x.map a))) else none) = _
  rw [List.length_map, if_pos h, rep_map]
  rfl
theorem dv_lenL (x : List α) : lenD (eL a x) = some (eI (x.length : Int)) := by
  show some (PyData.int _) = _
  rw [List.length_map]
  rfl
theorem dv_lenT (x : List α) : lenD (eT a x) = some (eI (x.length : Int)) := by
  show some (PyData.int _) = _
  rw [List.length_map]
  rfl
theorem ble_lim {n : Nat} (h : n ≤ 16777216) : Nat.ble n lim = true := Nat.ble_eq.mpr h
theorem dv_lenS {x : Str} (h : x.length ≤ 16777216) : lenD (eS x) = some (eI (x.length : Int)) := by
  show (if _ then _ else _) = _
  rw [if_pos (ble_lim h)]
  rfl
theorem dv_tupL (x : List α) : tupD (eL a x) = some (eT a x) := rfl
theorem dv_tupT (x : List α) : tupD (eT a x) = some (eT a x) := rfl
theorem dv_lstL (x : List α) : lstD (eL a x) = some (eL a x) := rfl
theorem dv_lstT (x : List α) : lstD (eT a x) = some (eL a x) := rfl
theorem dv_sumL (x : List Int) : sumD (eL eI x) = some (eI (sumI x)) := sumD_list x
theorem dv_sumT (x : List Int) : sumD (eT eI x) = some (eI (sumI x)) := sumD_tup x
theorem dv_anyL (x : List Bool) : anyD (eL eB x) = some (eB (x.any id)) := by
  show (blsOf (x.map .bool)).map _ = _
  rw [blsOf_map]; rfl
theorem dv_anyT (x : List Bool) : anyD (eT eB x) = some (eB (x.any id)) := dv_anyL x
theorem dv_allL (x : List Bool) : allD (eL eB x) = some (eB (x.all id)) := by
  show (blsOf (x.map .bool)).map _ = _
  rw [blsOf_map]; rfl
theorem dv_allT (x : List Bool) : allD (eT eB x) = some (eB (x.all id)) := dv_allL x
theorem dv_max2 (x y : Int) : max2D [eI x, eI y] = some (eI (max x y)) := max2D_int
theorem dv_min2 (x y : Int) : min2D [eI x, eI y] = some (eI (min x y)) := min2D_int
/-- a[i] -/
def atZ [Inhabited α] (l : List α) (i : Int) : α := if i < 0 then l.getD ((l.length : Int) + i).toNat default else l.getD i.toNat default
def ixOk (l : List α) (i : Int) : Prop := -(l.length : Int) ≤ i ∧ i < l.length
theorem atI_map [Inhabited α] {l : List α} {i : Int} (h : ixOk l i) : atI (l.map a) i = some (a (atZ l i)) := by
  obtain ⟨h1, h2⟩ := h
  unfold atI ixN atZ
  rw [List.length_map]
  by_cases q : i < 0
  · have e : ((l.length : Int) + i).toNat < l.length := by omega
    rw [if_neg (by omega), if_pos (by omega), if_pos q]
    show (l.map a)[(i + (l.length : Int)).toNat]? = _
    rw [Int.add_comm, List.getElem?_map, List.getD, List.getElem?_eq_getElem e]
    rfl
  · have e : i.toNat < l.length := by omega
    rw [if_pos (by omega), if_pos (by omega), if_neg q]
    show (l.map a)[i.toNat]? = _
    rw [List.getElem?_map, List.getD, List.getElem?_eq_getElem e]
    rfl
theorem dv_ixL [Inhabited α] {l : List α} {i : Int} (h : ixOk l i) : ixD (eL a l) (eI i) = some (a (atZ l i)) := atI_map h
theorem dv_ixT [Inhabited α] {l : List α} {i : Int} (h : ixOk l i) : ixD (eT a l) (eI i) = some (a (atZ l i)) := atI_map h
def chZ (x : Str) (i : Int) : Str := ⟨#[atZ x.cps.toList i]⟩
theorem dv_ixS {x : Str} {i : Int} (h : ixOk x.cps.toList i ∧ x.length ≤ 16777216) : ixD (eS x) (eI i) = some (eS (chZ x i)) := by
  show (if _ then _ else _) = _
  have e := atI_map (a := fun c : Nat => PyData.str ⟨#[c]⟩) h.1
  rw [if_pos (ble_lim h.2)]
  have e2 : atI x.cps.toList i = some (atZ x.cps.toList i) := by
    have := atI_map (a := PyData.int ∘ Int.ofNat) h.1
    unfold atI at this ⊢
    rw [List.length_map] at this
    obtain ⟨j, h1, h2⟩ := Option.bind_eq_some_iff.mp this
    rw [h1]
    show x.cps.toList[j]? = _
    rw [List.getElem?_map] at h2
    obtain ⟨y, h3, h4⟩ := Option.map_eq_some_iff.mp h2
    rw [h3]
    have : (y : Int) = (atZ x.cps.toList i : Nat) := by injection h4
    rw [show y = atZ x.cps.toList i by omega]
  rw [e2]
  rfl
/-- a[lo:hi] -/
theorem cut_map (x : List α) (lo hi : Option Int) : cutD (x.map a) lo hi = (cutD x lo hi).map a := by
  unfold cutD
  rw [List.length_map, List.map_take, List.map_drop]
theorem dv_slL (x : List α) (lo hi : Option Int) : slD (eL a x) lo hi = some (eL a (cutD x lo hi)) := by
  show some (PyData.list _) = _
  rw [cut_map]; rfl
theorem dv_slLf (x : List α) (lo hi : Option Int) : slL (eL a x) lo hi = some (eL a (cutD x lo hi)) := by
  show some (PyData.list _) = _
  rw [cut_map]; rfl
theorem dv_slT (x : List α) (lo hi : Option Int) : slD (eT a x) lo hi = some (eT a (cutD x lo hi)) := by
  show some (PyData.tuple _) = _
  rw [cut_map]; rfl
theorem dv_slS {x : Str} (lo hi : Option Int) (h : x.length ≤ 16777216) : slD (eS x) lo hi = some (eS (cutS x lo hi)) := by
  show (if _ then _ else _) = _
  rw [if_pos (ble_lim h)]
  rfl
theorem dv_revL (x : List α) : revD (eL a x) = some (eL a x.reverse) := by
  show some (PyData.list _) = _
  rw [← List.map_reverse]; rfl
/-- is None -/
theorem dv_isN (h : NnE a) (x : Option α) : isN (eO a x) .none = some (eB (decide (x = none))) := by
  cases x with
  | none => rfl
  | some x => show some (PyData.bool (!notN (a x))) = _; rw [notN_of (h x)]; rfl
theorem dv_isNN (h : NnE a) (x : Option α) : isNN (eO a x) .none = some (eB (!decide (x = none))) := by
  cases x with
  | none => rfl
  | some x => show some (PyData.bool (notN (a x))) = _; rw [notN_of (h x)]; rfl
theorem dv_isNn (h : NnE a) (x : α) : isN (a x) .none = some (eB false) := by show some (PyData.bool (!notN (a x))) = _; rw [notN_of (h x)]; rfl
theorem dv_isNNn (h : NnE a) (x : α) : isNN (a x) .none = some (eB true) := by show some (PyData.bool (notN (a x))) = _; rw [notN_of (h x)]; rfl
/-- a value that may be None, used as one that is there -/
theorem eO_get [Inhabited α] {x : Option α} (h : x ≠ none) : eO a x = a (x.getD default) := by
  cases x with
  | none => exact absurd rfl h
  | some x => rfl
end
end DL
namespace DL
open L2 PyProof.Rows PySem PySem.Spec
/-! ## expressions that change nothing -/
section
variable {ρ : Rho} {x y z : D} {g : D → Option D} {g2 : D → D → Option D} {gl : List D → Option D} {f f1 f2 f3 : Rho → Option D} {t t1 t2 : Rho → Option Bool} {a : Rho → Option (List D)} {xs : List D}
theorem tv1 (h : f ρ = some x) (ho : g x = some z) : pu1 g f ρ = some z := by rw [pu1_eq, h]; exact ho
theorem tv2 (h1 : f1 ρ = some x) (h2 : f2 ρ = some y) (ho : g2 x y = some z) : pu2 g2 f1 f2 ρ = some z := by rw [pu2_eq, h1, Option.bind_some, h2]; exact ho
theorem tvA (h : a ρ = some xs) (ho : gl xs = some z) : puA gl a ρ = some z := by rw [puA_eq, h]; exact ho
theorem tv0 (ho : gl [] = some z) : pu0 gl ρ = some z := ho
theorem tvN : aN ρ = some [] := rfl
theorem tvC (h : f ρ = some x) (ha : a ρ = some xs) : aC f a ρ = some (x :: xs) := by rw [aC_eq, h, Option.bind_some, ha]; rfl
theorem tvS {gs : D → Option Int → Option Int → Option D} {fl fh : Rho → Option (Option Int)} {l h : Option Int} (hf : f ρ = some x) (hl : fl ρ = some l) (hh : fh ρ = some h) (ho : gs x l h = some z) : puS gs f fl fh ρ = some z := by
  rw [puS_eq, hf, Option.bind_some, hl, Option.bind_some, hh]; exact ho
theorem tvON : oN ρ = some none := rfl
theorem tvOI {i : Int} (h : f ρ = some (eI i)) : oI f ρ = some (some i) := by rw [oI_eq, h]; rfl
theorem tvM {T : String} {gm : D → List D → Option D} (h : f ρ = some x) (ht : tyIs T x = true) (ha : a ρ = some xs) (ho : gm x xs = some z) : puM T gm f a ρ = some z := by
  unfold puM
  rw [h, Option.bind_some, if_pos ht, ha]
  exact ho
theorem tvMkL (h : a ρ = some xs) (e : PyData.list xs = z) : mkLP a ρ = some z := by rw [mkLP_eq, h, ← e]; rfl
theorem tvMkT (h : a ρ = some xs) (e : PyData.tuple xs = z) : mkTP a ρ = some z := by rw [mkTP_eq, h, ← e]; rfl
theorem tvIf {β : Type} {e : β → D} {c : Bool} {p q : β} (hc : t ρ = some c) (h1 : c = true → f1 ρ = some (e p)) (h2 : c = false → f2 ρ = some (e q)) : ifP t f1 f2 ρ = some (e (if c = true then p else q)) := by
  rw [ifP_eq, hc, Option.bind_some]
  cases c with
  | true => exact h1 rfl
  | false => exact h2 rfl
theorem tt_tst {c : Bool} (h : f ρ = some (eB c)) : tstP f ρ = some c := by rw [tstP_eq, h]; rfl
theorem tt_not {c : Bool} (h : t ρ = some c) : notP t ρ = some (!c) := by rw [notP_eq, h]; rfl
theorem tt_and {c1 c2 : Bool} (h1 : t1 ρ = some c1) (h2 : c1 = true → t2 ρ = some c2) : andP t1 t2 ρ = some (c1 && c2) := by
  rw [andP_eq, h1, Option.bind_some]
  cases c1 with
  | true => exact h2 rfl
  | false => rfl
theorem tt_or {c1 c2 : Bool} (h1 : t1 ρ = some c1) (h2 : c1 = false → t2 ρ = some c2) : orP t1 t2 ρ = some (c1 || c2) := by
  rw [orP_eq, h1, Option.bind_some]
  cases c1 with
  | true => rfl
  | false => exact h2 rfl
theorem tv_and {c1 c2 : Bool} (h1 : f1 ρ = some (eB c1)) (h2 : c1 = true → f2 ρ = some (eB c2)) : andVP f1 f2 ρ = some (eB (c1 && c2)) := by
  rw [andVP_eq, h1, Option.bind_some]
  cases c1 with
  | true => exact h2 rfl
  | false => rfl
theorem tv_or {c1 c2 : Bool} (h1 : f1 ρ = some (eB c1)) (h2 : c1 = false → f2 ρ = some (eB c2)) : orVP f1 f2 ρ = some (eB (c1 || c2)) := by
  rw [orVP_eq, h1, Option.bind_some]
  cases c1 with
  | true => rfl
  | false => exact h2 rfl
theorem tv_ch {h2 : D → D → Option D} {c1 c2 : Bool} (ha : f1 ρ = some x) (hb : f2 ρ = some y) (ho : g2 x y = some (eB c1)) (hc : c1 = true → f3 ρ = some z) (hp : c1 = true → h2 y z = some (eB c2)) : chP g2 h2 f1 f2 f3 ρ = some (eB (c1 && c2)) := by
  rw [chP_eq, ha, Option.bind_some, hb, Option.bind_some, ho]
  cases c1 with
  | true =>
    show ((f3 ρ).bind fun c => h2 y c) = _
    rw [hc rfl]
    exact hp rfl
  | false => rfl
end
/-! what is walked -/
def charsT (x : Str) : List Str := x.cps.toList.map fun c => ⟨#[c]⟩
def rg1 (n : Int) : List Int := (List.range n.toNat).map fun i : Nat => (i : Int)
def rg2 (lo hi : Int) : List Int := (List.range (hi - lo).toNat).map fun i : Nat => lo + (i : Int)
def rgDn (hi lo : Int) : List Int := (List.range (hi - lo).toNat).map fun i : Nat => hi + (i : Int) * -1
def bndZ (n : Int) : Prop := -4611686018427387904 < n ∧ n < 4611686018427387904
theorem bndZ_iff {n : Int} (h : bndZ n) : bnd n = true := bnd_iff.mpr ⟨by have := h.1; omega, by have := h.2; omega⟩
section
variable {α : Type} {ρ : Rho} {f f1 f2 : Rho → Option D} {e : α → D}
theorem ti_L {l : List α} (h : f ρ = some (eL e l)) : puI f ρ = some (l.map e) := by rw [puI_eq, h]; rfl
theorem ti_T {l : List α} (h : f ρ = some (eT e l)) : puI f ρ = some (l.map e) := by rw [puI_eq, h]; rfl
theorem ti_S {x : Str} (h : f ρ = some (eS x)) : puI f ρ = some ((charsT x).map eS) := by
  rw [puI_eq, h]
  show some (chars x) = _
  unfold chars charsT
  rw [List.map_map]
  rfl
theorem ti_P {β : Type} {b : β → D} {p q : β} (h : f ρ = some (eP b b (p, q))) : puI f ρ = some ([p, q].map b) := by rw [puI_eq, h]; rfl
theorem ti_P3 {β : Type} {b : β → D} {p q r : β} (h : f ρ = some (eP3 b b b (p, q, r))) : puI f ρ = some ([p, q, r].map b) := by rw [puI_eq, h]; rfl
theorem ti_r1 {n : Int} (h : f ρ = some (eI n)) (hb : bndZ n) : puR (aC f aN) ρ = some ((rg1 n).map eI) := by
  rw [puR_eq, aC_eq, h]
  show (if bnd n = true then some (rgI 0 n.toNat) else none) = _
  rw [if_pos (bndZ_iff hb)]
  unfold rgI rg1
  rw [List.map_map]
  refine congrArg some (List.map_congr_left fun i _ => ?_)
  show PyData.int (0 + (i : Int)) = _
  rw [Int.zero_add]
  rfl
theorem ti_r2 {n m : Int} (h1 : f1 ρ = some (eI n)) (h2 : f2 ρ = some (eI m)) (hb : bndZ n ∧ bndZ m) : puR (aC f1 (aC f2 aN)) ρ = some ((rg2 n m).map eI) := by
  rw [puR_eq, aC_eq, h1, Option.bind_some, aC_eq, h2]
  show (if (bnd n && bnd m) = true then some (rgI n (m - n).toNat) else none) = _
  rw [bndZ_iff hb.1, bndZ_iff hb.2, Bool.and_self, if_pos rfl]
  unfold rgI rg2
  rw [List.map_map]
  rfl
theorem ti_rd {n m : Int} {f3 : Rho → Option D} (h1 : f1 ρ = some (eI n)) (h2 : f2 ρ = some (eI m)) (h3 : f3 ρ = some (eI (-1))) (hb : bndZ n ∧ bndZ m) : puR (aC f1 (aC f2 (aC f3 aN))) ρ = some ((rgDn n m).map eI) := by
  rw [puR_eq, aC_eq, h1, Option.bind_some, aC_eq, h2, Option.bind_some, aC_eq, h3]
  show (if (bnd n && bnd m && decide ((-1 : Int) = -1)) = true then some (rgC n (-1) (n - m).toNat) else none) = _
  rw [bndZ_iff hb.1, bndZ_iff hb.2, Bool.and_self, if_pos (by decide)]
  unfold rgC rgDn
  rw [List.map_map]
  rfl
/-! list(range(..)), tuple(range(..)) -/
def rgFit (lo hi : Int) : Prop := bndZ lo ∧ bndZ hi ∧ (hi - lo).toNat ≤ 16777216
theorem rgFit_ok {lo hi : Int} (h : rgFit lo hi) : rgOk lo hi = true := by
  unfold rgOk
  rw [bndZ_iff h.1, bndZ_iff h.2.1, ble_lim h.2.2]
  rfl
theorem rg1_map (n : Int) : rgI 0 n.toNat = (rg1 n).map eI := by
  unfold rgI rg1
  rw [List.map_map]
  refine List.map_congr_left fun i _ => ?_
  show PyData.int (0 + (i : Int)) = _
  rw [Int.zero_add]
  rfl
theorem rg2_map (n m : Int) : rgI n (m - n).toNat = (rg2 n m).map eI := by
  unfold rgI rg2
  rw [List.map_map]
  rfl
theorem dv_rgL1 {n : Int} (h : rgFit 0 n) : rgL1 (eI n) = some (eL eI (rg1 n)) := by
  show (if rgOk 0 n = true then some (PyData.list (rgI 0 n.toNat)) else none) = _
  rw [if_pos (rgFit_ok h), rg1_map]; rfl
theorem dv_rgT1 {n : Int} (h : rgFit 0 n) : rgT1 (eI n) = some (eT eI (rg1 n)) := by
  show (if rgOk 0 n = true then some (PyData.tuple (rgI 0 n.toNat)) else none) = _
  rw [if_pos (rgFit_ok h), rg1_map]; rfl
theorem dv_rgL2 {n m : Int} (h : rgFit n m) : rgL2 (eI n) (eI m) = some (eL eI (rg2 n m)) := by
  show (if rgOk n m = true then some (PyData.list (rgI n (m - n).toNat)) else none) = _
  rw [if_pos (rgFit_ok h), rg2_map]; rfl
theorem dv_rgT2 {n m : Int} (h : rgFit n m) : rgT2 (eI n) (eI m) = some (eT eI (rg2 n m)) := by
  show (if rgOk n m = true then some (PyData.tuple (rgI n (m - n).toNat)) else none) = _
  rw [if_pos (rgFit_ok h), rg2_map]; rfl
end
/-! comprehensions -/
section
variable {α β : Type} {enc : α → D} {encb : β → D} {it : Rho → Option (List D)} {g : Gf} {p : Rho → Option Bool} {e : Rho → Option D} {vs : List Nat} {ρ : Rho} {xs : List α}
theorem tv_map {h : α → β} (ρ1 : α → Rho) (hit : it ρ = some (xs.map enc)) (hl : xs.length ≤ 16777216) (he : ∀ x, x ∈ xs → e (ρ1 x) = some (encb (h x))) (hg : ∀ x, g (enc x) (unw ρ vs) = some (ρ1 x) := by intro _; rfl) (hf : free vs ρ = true := by rfl) :
    compPE it g tsN e vs ρ = some (eL encb (xs.map h)) := by
  rw [compPE_all enc (fun x => encb (h x)) xs hit hf (by simpa [lim] using hl) fun x hx => ⟨_, hg x, he x hx⟩]
  unfold eL
  rw [List.map_map]
  rfl
theorem tv_filt {h : α → β} {q : α → Bool} (ρ1 : α → Rho) (hit : it ρ = some (xs.map enc)) (hl : xs.length ≤ 16777216) (hp : ∀ x, x ∈ xs → p (ρ1 x) = some (q x)) (he : ∀ x, x ∈ xs → q x = true → e (ρ1 x) = some (encb (h x))) (hg : ∀ x, g (enc x) (unw ρ vs) = some (ρ1 x) := by intro _; rfl) (hf : free vs ρ = true := by rfl) :
    compPE it g p e vs ρ = some (eL encb ((xs.filter q).map h)) := by
  rw [compPE_map enc q (fun x => encb (h x)) xs hit hf (by simpa [lim] using hl) fun x hx => ⟨_, hg x, hp x hx, he x hx⟩]
  unfold eL
  rw [List.map_map]
  rfl
theorem compPs2_filt {g1 : Gf} {p1 : Rho → Option Bool} {it1 : Rho → Option (List D)} {vs1 : List Nat} (q : α → Bool) (f : α → List D) : ∀ (xs : List α), (∀ x, x ∈ xs → ∃ ρ1, g (enc x) ρ = some ρ1 ∧ p ρ1 = some (q x) ∧ (q x = true → ∃ es, it1 ρ1 = some es ∧ compPs g1 p1 e (unw ρ1 vs1) es = some (f x))) →
    compPs2 g p it1 g1 p1 e vs1 ρ (xs.map enc) = some ((xs.filter q).flatMap f)
  | [], _ => rfl
  | x :: r, H => by
    obtain ⟨ρ1, h1, h2, h3⟩ := H x List.mem_cons_self
    have ih := compPs2_filt (g1 := g1) (p1 := p1) (it1 := it1) (vs1 := vs1) q f r fun y hy => H y (List.mem_cons_of_mem _ hy)
    show (g (enc x) ρ).bind _ = _
    rw [h1]
    show (p ρ1).bind _ = _
    rw [h2]
    cases hq : q x with
    | true =>
      obtain ⟨es, h4, h5⟩ := h3 hq
      show (it1 ρ1).bind _ = _
      rw [h4]
      show (compPs g1 p1 e (unw ρ1 vs1) es).bind _ = _
      rw [h5]
      show (compPs2 g p it1 g1 p1 e vs1 ρ (r.map enc)).map _ = _
      rw [ih, List.filter_cons_of_pos hq, List.flatMap_cons]
      rfl
    | false =>
      show compPs2 g p it1 g1 p1 e vs1 ρ (r.map enc) = _
      rw [ih, List.filter_cons_of_neg (by rw [hq]; exact Bool.false_ne_true)]
theorem tv_two {γ : Type} {encc : γ → D} {g1 : Gf} {p1 : Rho → Option Bool} {it1 : Rho → Option (List D)} {vs1 : List Nat} {q : α → Bool} {q1 : α → γ → Bool} {ys : α → List γ} {h : α → γ → β} (ρ1 : α → Rho) (ρ2 : α → γ → Rho)
    (hit : it ρ = some (xs.map enc)) (hl : ((xs.filter q).flatMap fun x => ((ys x).filter (q1 x)).map (h x)).length ≤ 16777216) (hp : ∀ x, x ∈ xs → p (ρ1 x) = some (q x)) (hit1 : ∀ x, x ∈ xs → q x = true → it1 (ρ1 x) = some ((ys x).map encc))
    (hp1 : ∀ x, x ∈ xs → q x = true → ∀ y, y ∈ ys x → p1 (ρ2 x y) = some (q1 x y)) (he : ∀ x, x ∈ xs → q x = true → ∀ y, y ∈ ys x → q1 x y = true → e (ρ2 x y) = some (encb (h x y)))
    (hg : ∀ x, g (enc x) (unw ρ vs) = some (ρ1 x) := by intro _; rfl) (hg1 : ∀ x y, g1 (encc y) (unw (ρ1 x) vs1) = some (ρ2 x y) := by intro _ _; rfl) (hf : free vs ρ = true := by rfl) :
    compPE2 it g p it1 g1 p1 e vs vs1 ρ = some (eL encb ((xs.filter q).flatMap fun x => ((ys x).filter (q1 x)).map (h x))) := by
  unfold compPE2 unwO
  rw [hit, if_pos hf]
  show (compPs2 g p it1 g1 p1 e vs1 (unw ρ vs) (xs.map enc)).bind _ = _
  rw [compPs2_filt (enc := enc) q (fun x => ((ys x).filter (q1 x)).map fun y => encb (h x y)) xs fun x hx => ⟨_, hg x, hp x hx, fun hq => ⟨_, hit1 x hx hq, compPs_map encc (q1 x) (fun y => encb (h x y)) (ys x) fun y hy => ⟨_, hg1 x y, hp1 x hx hq y hy, he x hx hq y hy⟩⟩⟩]
  have e : ((xs.filter q).flatMap fun x => ((ys x).filter (q1 x)).map fun y => encb (h x y)) = ((xs.filter q).flatMap fun x => ((ys x).filter (q1 x)).map (h x)).map encb := by
    rw [List.map_flatMap]
    congr 1
    funext x
    rw [List.map_map]
    rfl
  rw [e]
  show (if _ then _ else _) = _
  rw [if_pos (by rw [List.length_map]; exact hl)]
  rfl
end
section
variable {α β γ : Type} {enc : α → D} {encb : β → D} {encc : γ → D} {it : Rho → Option (List D)} {g g1 : Gf} {p p1 : Rho → Option Bool} {it1 : Rho → Option (List D)} {e : Rho → Option D} {vs vs1 : List Nat} {ρ : Rho} {xs : List α} {ys : α → List γ} {h : α → γ → β} {q : α → Bool} {q1 : α → γ → Bool}
theorem filtTT {δ : Type} (xs : List δ) : xs.filter (fun _ => true) = xs := List.filter_eq_self.mpr fun _ _ => rfl
theorem tv_twofg (ρ1 : α → Rho) (ρ2 : α → γ → Rho) (hit : it ρ = some (xs.map enc)) (hl : ((xs.filter q).flatMap fun x => ((ys x).filter (q1 x)).map (h x)).length ≤ 16777216) (hp : ∀ x, x ∈ xs → p (ρ1 x) = some (q x)) (hit1 : ∀ x, x ∈ xs → q x = true → it1 (ρ1 x) = some ((ys x).map encc))
    (hp1 : ∀ x, x ∈ xs → q x = true → ∀ y, y ∈ ys x → p1 (ρ2 x y) = some (q1 x y)) (he : ∀ x, x ∈ xs → q x = true → ∀ y, y ∈ ys x → q1 x y = true → e (ρ2 x y) = some (encb (h x y)))
    (hg : ∀ x, g (enc x) (unw ρ vs) = some (ρ1 x) := by intro _; rfl) (hg1 : ∀ x y, g1 (encc y) (unw (ρ1 x) vs1) = some (ρ2 x y) := by intro _ _; rfl) (hf : free vs ρ = true := by rfl) :
    compPE2 it g p it1 g1 p1 e vs vs1 ρ = some (eL encb ((xs.filter q).flatMap fun x => ((ys x).filter (q1 x)).map (h x))) := tv_two ρ1 ρ2 hit hl hp hit1 hp1 he hg hg1 hf
theorem tv_twof (ρ1 : α → Rho) (ρ2 : α → γ → Rho) (hit : it ρ = some (xs.map enc)) (hl : ((xs.filter q).flatMap fun x => (ys x).map (h x)).length ≤ 16777216) (hp : ∀ x, x ∈ xs → p (ρ1 x) = some (q x)) (hit1 : ∀ x, x ∈ xs → q x = true → it1 (ρ1 x) = some ((ys x).map encc))
    (he : ∀ x, x ∈ xs → q x = true → ∀ y, y ∈ ys x → e (ρ2 x y) = some (encb (h x y)))
    (hg : ∀ x, g (enc x) (unw ρ vs) = some (ρ1 x) := by intro _; rfl) (hg1 : ∀ x y, g1 (encc y) (unw (ρ1 x) vs1) = some (ρ2 x y) := by intro _ _; rfl) (hf : free vs ρ = true := by rfl) :
    compPE2 it g p it1 g1 tsN e vs vs1 ρ = some (eL encb ((xs.filter q).flatMap fun x => (ys x).map (h x))) := by
  have z := tv_two (q := q) (q1 := fun _ _ => true) (p1 := tsN) (ys := ys) (h := h) (encb := encb) (encc := encc) (it1 := it1) (e := e) ρ1 ρ2 hit (by simpa only [filtTT] using hl) hp hit1 (fun _ _ _ _ _ => rfl) (fun x hx hq y hy _ => he x hx hq y hy) hg hg1 hf
  simpa only [filtTT] using z
theorem tv_twog (ρ1 : α → Rho) (ρ2 : α → γ → Rho) (hit : it ρ = some (xs.map enc)) (hl : (xs.flatMap fun x => ((ys x).filter (q1 x)).map (h x)).length ≤ 16777216) (hit1 : ∀ x, x ∈ xs → it1 (ρ1 x) = some ((ys x).map encc))
    (hp1 : ∀ x, x ∈ xs → ∀ y, y ∈ ys x → p1 (ρ2 x y) = some (q1 x y)) (he : ∀ x, x ∈ xs → ∀ y, y ∈ ys x → q1 x y = true → e (ρ2 x y) = some (encb (h x y)))
    (hg : ∀ x, g (enc x) (unw ρ vs) = some (ρ1 x) := by intro _; rfl) (hg1 : ∀ x y, g1 (encc y) (unw (ρ1 x) vs1) = some (ρ2 x y) := by intro _ _; rfl) (hf : free vs ρ = true := by rfl) :
    compPE2 it g tsN it1 g1 p1 e vs vs1 ρ = some (eL encb (xs.flatMap fun x => ((ys x).filter (q1 x)).map (h x))) := by
  have z := tv_two (q := fun _ => true) (q1 := q1) (p := tsN) (ys := ys) (h := h) (encb := encb) (encc := encc) (it1 := it1) (e := e) ρ1 ρ2 hit (by simpa only [filtTT] using hl) (fun _ _ => rfl) (fun x hx _ => hit1 x hx) (fun x hx _ => hp1 x hx) (fun x hx _ => he x hx) hg hg1 hf
  simpa only [filtTT] using z
end
theorem filt_tt {α : Type} (xs : List α) : xs.filter (fun _ => true) = xs := List.filter_eq_self.mpr fun _ _ => rfl
theorem tv_twoN {α β γ : Type} {enc : α → D} {encb : β → D} {encc : γ → D} {it : Rho → Option (List D)} {g g1 : Gf} {it1 : Rho → Option (List D)} {e : Rho → Option D} {vs vs1 : List Nat} {ρ : Rho} {xs : List α} {ys : α → List γ} {h : α → γ → β} (ρ1 : α → Rho) (ρ2 : α → γ → Rho) (hit : it ρ = some (xs.map enc)) (hl : (xs.flatMap fun x => (ys x).map (h x)).length ≤ 16777216) (hit1 : ∀ x, x ∈ xs → it1 (ρ1 x) = some ((ys x).map encc))
    (he : ∀ x, x ∈ xs → ∀ y, y ∈ ys x → e (ρ2 x y) = some (encb (h x y)))
    (hg : ∀ x, g (enc x) (unw ρ vs) = some (ρ1 x) := by intro _; rfl) (hg1 : ∀ x y, g1 (encc y) (unw (ρ1 x) vs1) = some (ρ2 x y) := by intro _ _; rfl) (hf : free vs ρ = true := by rfl) :
    compPE2 it g tsN it1 g1 tsN e vs vs1 ρ = some (eL encb (xs.flatMap fun x => (ys x).map (h x))) := by
  have z := tv_two (q := fun _ => true) (q1 := fun _ _ => true) (p := tsN) (p1 := tsN) (ys := ys) (h := h) (encb := encb) (encc := encc) (it1 := it1) (e := e) ρ1 ρ2 hit (by simpa only [filtTT] using hl) (fun _ _ => rfl) (fun x hx _ => hit1 x hx) (fun _ _ _ _ _ => rfl) (fun x hx _ y hy _ => he x hx y hy) hg hg1 hf
  simpa only [filtTT] using z
/-! ## statements -/
def lt {α β : Type} (a : α) (f : α → β) : β := f a
theorem lt_eq {α β : Type} {a : α} {f : α → β} : lt a f = f a := rfl
def Kf {β : Type} (K : β → Out → Prop) (t : β) : Out → Prop := K t
/-- a def's end -/
def retK {β : Type} (e : β → D) (t : β) (o : Out) : Prop := outD o = some (e t)
section
variable {α β σ : Type} {K : β → Out → Prop} {ρ ρ' : Rho} {b c rest : Sf} {i j : Nat} {x : D} {f f1 f2 : Rho → Option D} {t : Rho → Option Bool} {Q : Out → Prop}
theorem fnP_T {N : Nat} {enc : β → D} {t : β} {ds : List D} (ρ : Rho) (h : Rn b ρ (Kf (retK enc) t)) (e : ds.map Sl.p ++ List.replicate (N - ds.length) .un = ρ := by rfl) : fnP N b ds = some (enc t) := by
  obtain ⟨o, h1, h2⟩ := h
  unfold fnP
  rw [e, h1]
  exact h2
theorem rn_assoc (h : Rn (sSeq b (sSeq c rest)) ρ Q) : Rn (sSeq (sSeq b c) rest) ρ Q := by
  obtain ⟨o, h1, h2⟩ := h
  refine ⟨o, ?_, h2⟩
  rw [sSeq_eq] at h1 ⊢
  rw [sSeq_eq]
  cases e : b ρ with
  | none => rw [e] at h1; cases h1
  | some q =>
    rw [e] at h1
    cases q with
    | nx ρ1 =>
      have h1 : sSeq c rest ρ1 = some o := h1
      rw [sSeq_eq] at h1
      exact h1
    | bk ρ1 => exact h1
    | ct ρ1 => exact h1
    | rt d ρ1 => exact h1
theorem rn_skip (h : Rn rest ρ Q) : Rn (sSeq sNx rest) ρ Q := h
theorem rn_end (h : Q (.nx ρ)) : Rn sNx ρ Q := ⟨_, rfl, h⟩
theorem rn_brk (h : Q (.bk ρ)) : Rn (sSeq sBk rest) ρ Q := ⟨_, rfl, h⟩
theorem rn_cont (h : Q (.ct ρ)) : Rn (sSeq sCt rest) ρ Q := ⟨_, rfl, h⟩
theorem rn_ret (h : f ρ = some x) (hq : Q (.rt x ρ)) : Rn (sSeq (sRt (lift f)) rest) ρ Q := ⟨.rt x ρ, by unfold sSeq; rw [sRt_eq, lift_eq, h]; rfl, hq⟩
theorem rn_retN (hq : Q (.rt .none ρ)) : Rn (sSeq sRtN rest) ρ Q := ⟨.rt .none ρ, rfl, hq⟩
theorem rn_retO (h : ownAt i ρ = some x) (hq : Q (.rt x ρ)) : Rn (sSeq (sRtO i) rest) ρ Q := ⟨.rt x ρ, by unfold sSeq; rw [sRtO_eq, h]; rfl, hq⟩
theorem rn_frz (h : Rn (sSeq b rest) ρ' Q) (e : frz i ρ = ρ' := by rfl) : Rn (sSeq (sFz i b) rest) ρ Q := by
  obtain ⟨o, h1, h2⟩ := h
  exact ⟨o, by unfold sSeq sFz; rw [e]; exact h1, h2⟩
def sFgN (vs : List Nat) : Sf := fun ρ => some (.nx (fg ρ vs))
theorem rn_fgN {vs : List Nat} (h : Rn rest ρ' Q) (e : fg ρ vs = ρ' := by rfl) : Rn (sSeq (sFgN vs) rest) ρ Q := by
  obtain ⟨o, h1, h2⟩ := h
  exact ⟨o, by unfold sSeq sFgN; rw [e]; exact h1, h2⟩
theorem seq_nx {s : Sf} (h : s ρ = some (.nx ρ')) (hr : Rn rest ρ' Q) : Rn (sSeq s rest) ρ Q := by
  obtain ⟨o, h1, h2⟩ := hr
  exact ⟨o, by unfold sSeq; rw [h]; exact h1, h2⟩
/-- x = e -/
theorem rn_set {enc : α → D} {e : α} {k : α → β} {s2 : α → Prop} (ρ2 : α → Rho) (hf : f ρ = some (enc e)) (hs : lt e s2) (hk : ∀ x, s2 x → Rn rest (ρ2 x) (Kf K (k x))) (h : ∀ x, setP i (enc x) ρ = some (ρ2 x) := by intro _; rfl) : Rn (sSeq (sSetP i (lift f)) rest) ρ (Kf K (lt e k)) :=
  seq_nx (by rw [sSetP_eq, lift_eq, hf]; show (setP i (enc e) ρ).map _ = _; rw [h]; rfl) (hk e hs)
theorem rn_setO' {enc : α → D} {e : α} {k : α → β} {s2 : α → Prop} (ρ2 : α → Rho) (hf : f ρ = some (enc e)) (hs : lt e s2) (hk : ∀ x, s2 x → Rn rest (ρ2 x) (Kf K (k x))) (h : ∀ x, setO i (enc x) ρ = some (ρ2 x) := by intro _; rfl) : Rn (sSeq (sSetO i (lift f)) rest) ρ (Kf K (lt e k)) :=
  seq_nx (by rw [sSetO_eq, lift_eq, hf]; show (setO i (enc e) ρ).map _ = _; rw [h]; rfl) (hk e hs)
/-- a, b = e -/
theorem rn_unp {g : Gf} {enc : α → D} {e : α} {k : α → β} {s2 : α → Prop} (ρ2 : α → Rho) (hf : f ρ = some (enc e)) (hs : lt e s2) (hk : ∀ x, s2 x → Rn rest (ρ2 x) (Kf K (k x))) (h : ∀ x, g (enc x) ρ = some (ρ2 x) := by intro _; rfl) : Rn (sSeq (sAsg g (lift f)) rest) ρ (Kf K (lt e k)) :=
  seq_nx (by rw [sAsg_eq, lift_eq, hf]; show (g (enc e) ρ).map _ = _; rw [h]; rfl) (hk e hs)
theorem rn_par2 {α' : Type} {enc : α → D} {enc' : α' → D} {e : α} {e' : α'} {k : α × α' → β} {s2 : α × α' → Prop} (ρ2 : α × α' → Rho) (hf : f1 ρ = some (enc e)) (hf' : f2 ρ = some (enc' e')) (hs : lt (e, e') s2) (hk : ∀ x, s2 x → Rn rest (ρ2 x) (Kf K (k x)))
    (h : ∀ x : α × α', (setP i (enc x.1) ρ).bind (fun ρ1 => setP j (enc' x.2) ρ1) = some (ρ2 x) := by intro _; rfl) : Rn (sSeq (sPar i j (liftA (aC f1 (aC f2 aN)))) rest) ρ (Kf K (lt (e, e') k)) := by
  refine seq_nx ?_ (hk (e, e') hs)
  have z := h (e, e')
  obtain ⟨ρ1, h1, h2⟩ := Option.bind_eq_some_iff.mp z
  unfold sPar
  rw [liftA_eq, aC_eq, hf, Option.bind_some, aC_eq, hf']
  show ((setP i (enc e) ρ).bind _) = _
  rw [h1]
  show (setP j (enc' e') ρ1).map _ = _
  rw [h2]
  rfl
theorem rn_augI {e0 e : Int} {k : Int → β} {s2 : Int → Prop} (ρ2 : Int → Rho) (h0 : vP i ρ = some (eI e0)) (hf : f ρ = some (eI e)) (hs : lt (e0 + e) s2) (hk : ∀ x, s2 x → Rn rest (ρ2 x) (Kf K (k x))) (h : ∀ x : Int, setP i (eI x) ρ = some (ρ2 x) := by intro _; rfl) : Rn (sSeq (sAug i augI (lift f)) rest) ρ (Kf K (lt (e0 + e) k)) :=
  seq_nx (by unfold sAug; rw [h0, Option.bind_some, lift_eq, hf]; show (setP i (eI (e0 + e)) ρ).map _ = _; rw [h]; rfl) (hk _ hs)
/-- if -/
theorem rn_ifT {c1 : Bool} {tA tB : β} (hc : t ρ = some c1) (hA : c1 = true → Rn (sSeq b rest) ρ (Kf K tA)) (hB : c1 = false → Rn (sSeq c rest) ρ (Kf K tB)) : Rn (sSeq (sIf (liftT t) b c) rest) ρ (Kf K (if c1 = true then tA else tB)) := by
  cases c1 with
  | true =>
    obtain ⟨o, h1, h2⟩ := hA rfl
    exact ⟨o, by unfold sSeq sIf; rw [liftT_eq, hc]; exact h1, h2⟩
  | false =>
    obtain ⟨o, h1, h2⟩ := hB rfl
    exact ⟨o, by unfold sSeq sIf; rw [liftT_eq, hc]; exact h1, h2⟩
theorem rn_ifQ {c1 : Bool} (hc : t ρ = some c1) (hA : c1 = true → Rn (sSeq b rest) ρ Q) (hB : c1 = false → Rn (sSeq c rest) ρ Q) : Rn (sSeq (sIf (liftT t) b c) rest) ρ Q := by
  cases c1 with
  | true =>
    obtain ⟨o, h1, h2⟩ := hA rfl
    exact ⟨o, by unfold sSeq sIf; rw [liftT_eq, hc]; exact h1, h2⟩
  | false =>
    obtain ⟨o, h1, h2⟩ := hB rfl
    exact ⟨o, by unfold sSeq sIf; rw [liftT_eq, hc]; exact h1, h2⟩
/-- both ways go on, with new values -/
def nxK {σ : Type} (R : σ → Rho) (s : σ) (o : Out) : Prop := o = .nx (R s)
theorem rn_join {c1 : Bool} {sA sB : σ} {k : σ → β} {s2 : σ → Prop} (R : σ → Rho) (hc : t ρ = some c1) (hA : c1 = true → Rn b ρ (Kf (nxK R) sA)) (hB : c1 = false → Rn c ρ (Kf (nxK R) sB)) (hs : lt (if c1 = true then sA else sB) s2) (hk : ∀ x, s2 x → Rn rest (R x) (Kf K (k x))) :
    Rn (sSeq (sIf (liftT t) b c) rest) ρ (Kf K (lt (if c1 = true then sA else sB) k)) := by
  cases c1 with
  | true =>
    obtain ⟨o, h1, h2⟩ := hA rfl
    obtain rfl : o = .nx (R sA) := h2
    exact seq_nx (by rw [sIf_eq, liftT_eq, hc]; exact h1) (hk sA hs)
  | false =>
    obtain ⟨o, h1, h2⟩ := hB rfl
    obtain rfl : o = .nx (R sB) := h2
    exact seq_nx (by rw [sIf_eq, liftT_eq, hc]; exact h1) (hk sB hs)
/-- own.append(e) and the like -/
theorem rn_app' {enc : α → D} {l : List α} {e : α} {k : List α → β} {s2 : List α → Prop} (ρ2 : List α → Rho) (ho : ownd i ρ = some (eL enc l)) (hf : f ρ = some (enc e)) (hl : l.length < 16777216) (hs : lt (l ++ [e]) s2) (hk : ∀ x, s2 x → Rn rest (ρ2 x) (Kf K (k x))) (h : ∀ x : List α, wr i (eL enc x) ρ = ρ2 x := by intro _; rfl) :
    Rn (sSeq (sEx (mutE i gAppend (liftA (aC f aN)))) rest) ρ (Kf K (lt (l ++ [e]) k)) := by
  refine seq_nx ?_ (hk _ hs)
  rw [sEx_eq]
  unfold mutE
  rw [ho]
  show Option.map _ (((liftA (aC f aN)) ρ).bind _) = _
  rw [liftA_eq, aC_eq, hf]
  show Option.map _ ((ownd i ρ).bind _) = _
  rw [ho]
  show Option.map _ ((gAppend (l.map enc) [enc e]).map _) = _
  have : gAppend (l.map enc) [enc e] = some (.none, l.map enc ++ [enc e]) := if_pos (by rw [List.length_map]; exact hl)
  rw [this]
  show some (Out.nx (wr i (.list (l.map enc ++ [enc e])) ρ)) = _
  have e2 : PyData.list (l.map enc ++ [enc e]) = eL enc (l ++ [e]) := by simp [eL]
  rw [e2, h]
theorem rn_rev' {enc : α → D} {l : List α} {k : List α → β} {s2 : List α → Prop} (ρ2 : List α → Rho) (ho : ownd i ρ = some (eL enc l)) (hs : lt l.reverse s2) (hk : ∀ x, s2 x → Rn rest (ρ2 x) (Kf K (k x))) (h : ∀ x : List α, wr i (eL enc x) ρ = ρ2 x := by intro _; rfl) :
    Rn (sSeq (sEx (mutE i gReverse (liftA aN))) rest) ρ (Kf K (lt l.reverse k)) := by
  refine seq_nx ?_ (hk _ hs)
  rw [sEx_eq]
  unfold mutE
  rw [ho]
  show Option.map _ ((ownd i ρ).bind _) = _
  rw [ho]
  show some (Out.nx (wr i (.list (l.map enc).reverse) ρ)) = _
  have e2 : PyData.list (l.map enc).reverse = eL enc l.reverse := by simp [eL]
  rw [e2, h]
theorem rn_augL' {enc : α → D} {l e : List α} {k : List α → β} {s2 : List α → Prop} (ρ2 : List α → Rho) (ho : ownd i ρ = some (eL enc l)) (hf : f ρ = some (eL enc e)) (hl : l.length + e.length ≤ 16777216) (hs : lt (l ++ e) s2) (hk : ∀ x, s2 x → Rn rest (ρ2 x) (Kf K (k x))) (h : ∀ x : List α, wr i (eL enc x) ρ = ρ2 x := by intro _; rfl) :
    Rn (sSeq (sAugL i (lift f)) rest) ρ (Kf K (lt (l ++ e) k)) := by
  refine seq_nx ?_ (hk _ hs)
  unfold sAugL
  rw [ho]
  show ((lift f ρ).bind _) = _
  rw [lift_eq, hf]
  show ((ownd i ρ).bind _) = _
  rw [ho]
  show (if Nat.ble ((l.map enc).length + (e.map enc).length) lim = true then some (Out.nx (wr i (.list (l.map enc ++ e.map enc)) ρ)) else none) = _
  rw [if_pos (by rw [List.length_map, List.length_map]; exact Nat.ble_eq.mpr hl)]
  have e2 : PyData.list (l.map enc ++ e.map enc) = eL enc (l ++ e) := by simp [eL]
  rw [e2, h]
def setZ (l : List α) (i : Int) (v : α) : List α := if i < 0 then l.set ((l.length : Int) + i).toNat v else l.set i.toNat v
theorem ixN_ok {n : Nat} {i : Int} (h : -(n : Int) ≤ i ∧ i < n) : ixN n i = some (if i < 0 then ((n : Int) + i).toNat else i.toNat) := by
  unfold ixN
  by_cases q : i < 0
  · rw [if_neg (by omega), if_pos (by omega), if_pos q, Int.add_comm]
  · rw [if_pos (by omega), if_pos (by omega), if_neg q]
theorem setZ_map {enc : α → D} (l : List α) (i : Int) (v : α) : (l.map enc).set (if i < 0 then ((l.length : Int) + i).toNat else i.toNat) (enc v) = (setZ l i v).map enc := by
  unfold setZ
  split <;> rw [List.map_set]
theorem rn_sto {enc : α → D} {l : List α} {e : α} {n : Int} {k : List α → β} {s2 : List α → Prop} (ρ2 : List α → Rho) (hf : f1 ρ = some (enc e)) (ho : ownd i ρ = some (eL enc l)) (hn : f2 ρ = some (eI n)) (hx : ixOk l n) (hs : lt (setZ l n e) s2) (hk : ∀ x, s2 x → Rn rest (ρ2 x) (Kf K (k x))) (h : ∀ x : List α, wr i (eL enc x) ρ = ρ2 x := by intro _; rfl) :
    Rn (sSeq (storeL i (lift f1) (lift f2)) rest) ρ (Kf K (lt (setZ l n e) k)) := by
  refine seq_nx ?_ (hk _ hs)
  unfold storeL
  rw [lift_eq, hf]
  show ((ownd i ρ).bind _) = _
  rw [ho]
  show ((lift f2 ρ).bind _) = _
  rw [lift_eq, hn]
  show ((ownd i ρ).bind _) = _
  rw [ho]
  show ((ixN (l.map enc).length n).map _) = _
  rw [ixN_ok (n := (l.map enc).length) (by rw [List.length_map]; exact hx), List.length_map]
  show some (Out.nx (wr i (.list ((l.map enc).set _ (enc e))) ρ)) = _
  rw [setZ_map]
  exact congrArg (fun q => some (Out.nx q)) (h _)
end
end DL
namespace DL
open L2 PyProof.Rows PySem PySem.Spec
/-! ## loops as functions -/
inductive Ctl (σ β : Type) where
  | nx (s : σ)
  | bk (s : σ)
  | rt (r : β)
section
variable {α β γ σ : Type}
def foldS (S : σ → α → Prop) (step : σ → α → σ) : σ → List α → Prop
  | _, [] => True
  | s, x :: xs => S s x ∧ foldS S step (step s x) xs
def loopC (step : σ → α → Ctl σ β) : σ → List α → Ctl σ β
  | s, [] => .nx s
  | s, x :: xs => match step s x with
    | .nx s' => loopC step s' xs
    | .bk s' => .nx s'
    | .rt r => .rt r
def loopS (S : σ → α → Prop) (step : σ → α → Ctl σ β) : σ → List α → Prop
  | _, [] => True
  | s, x :: xs => S s x ∧ match step s x with
    | .nx s' => loopS S step s' xs
    | _ => True
def ctl (c : Ctl σ β) (rt : β → γ) (k : σ → γ) : γ := match c with
  | .nx s => k s
  | .bk s => k s
  | .rt r => rt r
def ctlS (c : Ctl σ β) (s2 : σ → Prop) : Prop := match c with
  | .nx s => s2 s
  | .bk s => s2 s
  | .rt _ => True
def whileN (c : σ → Bool) (step : σ → σ) : Nat → σ → σ
  | 0, s => s
  | n + 1, s => if c s = true then whileN c step n (step s) else s
def whileZ (Sc Ss : σ → Prop) (c : σ → Bool) (step : σ → σ) : Nat → σ → Prop
  | 0, s => Sc s ∧ c s = false
  | n + 1, s => Sc s ∧ (c s = true → Ss s ∧ whileZ Sc Ss c step n (step s))
def whileC (c : σ → Bool) (step : σ → Ctl σ β) : Nat → σ → Ctl σ β
  | 0, s => .nx s
  | n + 1, s => if c s = true then (match step s with
    | .nx s' => whileC c step n s'
    | .bk s' => .nx s'
    | .rt r => .rt r) else .nx s
def whileCS (Sc Ss : σ → Prop) (c : σ → Bool) (step : σ → Ctl σ β) : Nat → σ → Prop
  | 0, s => Sc s ∧ c s = false
  | n + 1, s => Sc s ∧ (c s = true → Ss s ∧ match step s with
    | .nx s' => whileCS Sc Ss c step n s'
    | _ => True)
/-- the ends of a body: new values, the others forgotten -/
def fgK (vs : List Nat) (R : σ → Rho) (s : σ) : Out → Prop
  | .nx ρ => fg ρ vs = R s
  | .ct ρ => fg ρ vs = R s
  | _ => False
def fgC (vs : List Nat) (R : σ → Rho) (e : β → D) : Ctl σ β → Out → Prop
  | .nx s, .nx ρ => fg ρ vs = R s
  | .nx s, .ct ρ => fg ρ vs = R s
  | .bk s, .bk ρ => fg ρ vs = R s
  | .rt v, .rt d _ => d = e v
  | _, _ => False
variable {K : γ → Out → Prop} {ρ : Rho} {b body rest : Sf} {t : Rho → Option Bool} {it : Rho → Option (List D)} {g : Gf} {enc : α → D} {encR : β → D} {vs : List Nat} {xs : List α} {init : σ}
theorem forS_fold {S : σ → α → Prop} {step : σ → α → σ} (R : σ → Rho) (ρ1 : σ → α → Rho) (hg : ∀ st x, g (enc x) (R st) = some (ρ1 st x)) (hb : ∀ st x, S st x → Rn body (ρ1 st x) (Kf (fgK vs R) (step st x))) : ∀ (xs : List α) (init : σ), foldS S step init xs →
    forS g (sFg vs body) (xs.map enc) (R init) = some (.nx (R (xs.foldl step init)))
  | [], init, _ => rfl
  | x :: r, init, h => by
    obtain ⟨h1, h2⟩ := h
    obtain ⟨o, e1, e2⟩ := hb init x h1
    have ih := forS_fold R ρ1 hg hb r (step init x) h2
    rw [List.map_cons, forS_cons, hg]
    show ((sFg vs body (ρ1 init x)).bind _) = _
    unfold sFg
    rw [e1]
    cases o with
    | nx ρ2 =>
      have e2 : fg ρ2 vs = R (step init x) := e2
      show goOn _ (.nx (fg ρ2 vs)) = _
      rw [e2]
      exact ih
    | ct ρ2 =>
      have e2 : fg ρ2 vs = R (step init x) := e2
      show goOn _ (.ct (fg ρ2 vs)) = _
      rw [e2]
      exact ih
    | bk ρ2 => exact e2.elim
    | rt d ρ2 => exact e2.elim
theorem rn_fold {S : σ → α → Prop} {step : σ → α → σ} {k : σ → γ} {s2 : σ → Prop} (R : σ → Rho) (ρ1 : σ → α → Rho) (hit : it ρ = some (xs.map enc)) (hS : foldS S step init xs) (hb : ∀ st x, S st x → Rn body (ρ1 st x) (Kf (fgK vs R) (step st x)))
    (hs : lt (xs.foldl step init) s2) (hk : ∀ st, s2 st → Rn rest (R st) (Kf K (k st))) (hρ : ρ = R init := by rfl) (hg : ∀ st x, g (enc x) (R st) = some (ρ1 st x) := by intro _ _; rfl) : Rn (sSeq (sFor (liftA it) g (sFg vs body)) rest) ρ (Kf K (lt (xs.foldl step init) k)) := by
  refine seq_nx ?_ (hk _ hs)
  rw [sFor_eq, liftA_eq, hit]
  show forS g (sFg vs body) (xs.map enc) ρ = _
  rw [hρ]
  exact forS_fold R ρ1 hg hb xs init hS
theorem forS_loop {S : σ → α → Prop} {step : σ → α → Ctl σ β} (R : σ → Rho) (ρ1 : σ → α → Rho) (hg : ∀ st x, g (enc x) (R st) = some (ρ1 st x)) (hb : ∀ st x, S st x → Rn body (ρ1 st x) (Kf (fgC vs R encR) (step st x))) : ∀ (xs : List α) (init : σ), loopS S step init xs →
    ∃ o, forS g (sFg vs body) (xs.map enc) (R init) = some o ∧ match loopC step init xs with
      | .nx s => o = .nx (R s)
      | .bk s => o = .nx (R s)
      | .rt v => ∃ ρ2, o = .rt (encR v) ρ2
  | [], init, _ => ⟨_, rfl, rfl⟩
  | x :: r, init, h => by
    obtain ⟨h1, h2⟩ := h
    obtain ⟨o, e1, e2⟩ := hb init x h1
    rw [List.map_cons, forS_cons, hg]
    show ∃ o, ((sFg vs body (ρ1 init x)).bind _) = some o ∧ _
    unfold sFg
    rw [e1]
    unfold loopC
    cases hs : step init x with
    | nx s' =>
      rw [hs] at h2 e2
      have ih := forS_loop R ρ1 hg hb r s' h2
      cases o with
      | nx ρ2 =>
        have e2 : fg ρ2 vs = R s' := e2
        show ∃ o, goOn _ (.nx (fg ρ2 vs)) = some o ∧ _
        rw [e2]
        exact ih
      | ct ρ2 =>
        have e2 : fg ρ2 vs = R s' := e2
        show ∃ o, goOn _ (.ct (fg ρ2 vs)) = some o ∧ _
        rw [e2]
        exact ih
      | bk ρ2 => exact e2.elim
      | rt d ρ2 => exact e2.elim
    | bk s' =>
      rw [hs] at e2
      cases o with
      | bk ρ2 =>
        have e2 : fg ρ2 vs = R s' := e2
        exact ⟨_, rfl, congrArg Out.nx e2⟩
      | nx ρ2 => exact e2.elim
      | ct ρ2 => exact e2.elim
      | rt d ρ2 => exact e2.elim
    | rt v =>
      rw [hs] at e2
      cases o with
      | rt d ρ2 =>
        have e2 : d = encR v := e2
        exact ⟨_, rfl, ρ2, by rw [e2]⟩
      | nx ρ2 => exact e2.elim
      | ct ρ2 => exact e2.elim
      | bk ρ2 => exact e2.elim
theorem rn_loop {S : σ → α → Prop} {step : σ → α → Ctl σ β} {k : σ → γ} {s2 : σ → Prop} {rt : β → γ} (R : σ → Rho) (ρ1 : σ → α → Rho) (hrt : ∀ v ρ, K (rt v) (.rt (encR v) ρ)) (hit : it ρ = some (xs.map enc)) (hS : loopS S step init xs) (hb : ∀ st x, S st x → Rn body (ρ1 st x) (Kf (fgC vs R encR) (step st x)))
    (hs : ctlS (loopC step init xs) s2) (hk : ∀ st, s2 st → Rn rest (R st) (Kf K (k st))) (hρ : ρ = R init := by rfl) (hg : ∀ st x, g (enc x) (R st) = some (ρ1 st x) := by intro _ _; rfl) : Rn (sSeq (sFor (liftA it) g (sFg vs body)) rest) ρ (Kf K (ctl (loopC step init xs) rt k)) := by
  obtain ⟨o, h1, h2⟩ := forS_loop (encR := encR) R ρ1 hg hb xs init hS
  have e : sFor (liftA it) g (sFg vs body) ρ = some o := by
    rw [sFor_eq, liftA_eq, hit]
    show forS g (sFg vs body) (xs.map enc) ρ = _
    rw [hρ]
    exact h1
  cases hl : loopC step init xs with
  | nx s =>
    rw [hl] at h2 hs
    subst h2
    exact seq_nx e (hk _ hs)
  | bk s =>
    rw [hl] at h2 hs
    subst h2
    exact seq_nx e (hk _ hs)
  | rt v =>
    rw [hl] at h2
    obtain ⟨ρ2, rfl⟩ := h2
    exact ⟨.rt (encR v) ρ2, by unfold sSeq; rw [e]; rfl, hrt v ρ2⟩
theorem whileX_N {Sc Ss : σ → Prop} {c : σ → Bool} {step : σ → σ} (R : σ → Rho) (hc : ∀ st, Sc st → t (R st) = some (c st)) (hb : ∀ st, Ss st → Rn body (R st) (Kf (fgK vs R) (step st))) : ∀ (n : Nat) (init : σ), whileZ Sc Ss c step n init →
    whileX (liftT t) (sFg vs body) (R init) = some (.nx (R (whileN c step n init)))
  | 0, init, h => by
    rw [whileX_eq, liftT_eq, hc init h.1, h.2]
    rfl
  | n + 1, init, h => by
    rw [whileX_eq, liftT_eq, hc init h.1]
    unfold whileN
    cases q : c init with
    | false => rfl
    | true =>
      obtain ⟨h1, h2⟩ := h.2 q
      obtain ⟨o, e1, e2⟩ := hb init h1
      have ih := whileX_N R hc hb n (step init) h2
      show ((sFg vs body (R init)).bind _) = _
      unfold sFg
      rw [e1, if_pos rfl]
      cases o with
      | nx ρ2 =>
        have e2 : fg ρ2 vs = R (step init) := e2
        show goOn _ (.nx (fg ρ2 vs)) = _
        rw [e2]
        exact ih
      | ct ρ2 =>
        have e2 : fg ρ2 vs = R (step init) := e2
        show goOn _ (.ct (fg ρ2 vs)) = _
        rw [e2]
        exact ih
      | bk ρ2 => exact e2.elim
      | rt d ρ2 => exact e2.elim
theorem rn_while' {Sc Ss : σ → Prop} {c : σ → Bool} {step : σ → σ} {n : Nat} {k : σ → γ} {s2 : σ → Prop} (R : σ → Rho) (hS : whileZ Sc Ss c step n init) (hc : ∀ st, Sc st → t (R st) = some (c st)) (hb : ∀ st, Ss st → Rn body (R st) (Kf (fgK vs R) (step st)))
    (hs : lt (whileN c step n init) s2) (hk : ∀ st, s2 st → Rn rest (R st) (Kf K (k st))) (hρ : ρ = R init := by rfl) : Rn (sSeq (whileX (liftT t) (sFg vs body)) rest) ρ (Kf K (lt (whileN c step n init) k)) :=
  seq_nx (by rw [hρ]; exact whileX_N R hc hb n init hS) (hk _ hs)
theorem whileX_C {Sc Ss : σ → Prop} {c : σ → Bool} {step : σ → Ctl σ β} (R : σ → Rho) (hc : ∀ st, Sc st → t (R st) = some (c st)) (hb : ∀ st, Ss st → Rn body (R st) (Kf (fgC vs R encR) (step st))) : ∀ (n : Nat) (init : σ), whileCS Sc Ss c step n init →
    ∃ o, whileX (liftT t) (sFg vs body) (R init) = some o ∧ match whileC c step n init with
      | .nx s => o = .nx (R s)
      | .bk s => o = .nx (R s)
      | .rt v => ∃ ρ2, o = .rt (encR v) ρ2
  | 0, init, h => ⟨.nx (R init), by rw [whileX_eq, liftT_eq, hc init h.1, h.2]; rfl, rfl⟩
  | n + 1, init, h => by
    rw [whileX_eq, liftT_eq, hc init h.1]
    unfold whileC
    cases q : c init with
    | false => exact ⟨.nx (R init), rfl, rfl⟩
    | true =>
      obtain ⟨h1, h2⟩ := h.2 q
      obtain ⟨o, e1, e2⟩ := hb init h1
      rw [if_pos rfl]
      show ∃ o, ((sFg vs body (R init)).bind _) = some o ∧ _
      unfold sFg
      rw [e1]
      cases hs : step init with
      | nx s' =>
        rw [hs] at h2 e2
        have ih := whileX_C R hc hb n s' h2
        cases o with
        | nx ρ2 =>
          have e2 : fg ρ2 vs = R s' := e2
          show ∃ o, goOn _ (.nx (fg ρ2 vs)) = some o ∧ _
          rw [e2]
          exact ih
        | ct ρ2 =>
          have e2 : fg ρ2 vs = R s' := e2
          show ∃ o, goOn _ (.ct (fg ρ2 vs)) = some o ∧ _
          rw [e2]
          exact ih
        | bk ρ2 => exact e2.elim
        | rt d ρ2 => exact e2.elim
      | bk s' =>
        rw [hs] at e2
        cases o with
        | bk ρ2 =>
          have e2 : fg ρ2 vs = R s' := e2
          exact ⟨.nx (fg ρ2 vs), rfl, congrArg Out.nx e2⟩
        | nx ρ2 => exact e2.elim
        | ct ρ2 => exact e2.elim
        | rt d ρ2 => exact e2.elim
      | rt v =>
        rw [hs] at e2
        cases o with
        | rt d ρ2 =>
          have e2 : d = encR v := e2
          exact ⟨.rt d ρ2, rfl, ρ2, by rw [e2]⟩
        | nx ρ2 => exact e2.elim
        | ct ρ2 => exact e2.elim
        | bk ρ2 => exact e2.elim
theorem rn_whileC {Sc Ss : σ → Prop} {c : σ → Bool} {step : σ → Ctl σ β} {n : Nat} {k : σ → γ} {s2 : σ → Prop} {rt : β → γ} (R : σ → Rho) (hrt : ∀ v ρ, K (rt v) (.rt (encR v) ρ)) (hS : whileCS Sc Ss c step n init) (hc : ∀ st, Sc st → t (R st) = some (c st)) (hb : ∀ st, Ss st → Rn body (R st) (Kf (fgC vs R encR) (step st)))
    (hs : ctlS (whileC c step n init) s2) (hk : ∀ st, s2 st → Rn rest (R st) (Kf K (k st))) (hρ : ρ = R init := by rfl) : Rn (sSeq (whileX (liftT t) (sFg vs body)) rest) ρ (Kf K (ctl (whileC c step n init) rt k)) := by
  obtain ⟨o, h1, h2⟩ := whileX_C (encR := encR) R hc hb n init hS
  rw [← hρ] at h1
  cases hl : whileC c step n init with
  | nx s =>
    rw [hl] at h2 hs
    subst h2
    exact seq_nx h1 (hk _ hs)
  | bk s =>
    rw [hl] at h2 hs
    subst h2
    exact seq_nx h1 (hk _ hs)
  | rt v =>
    rw [hl] at h2
    obtain ⟨ρ2, rfl⟩ := h2
    exact ⟨.rt (encR v) ρ2, by unfold sSeq; rw [h1]; rfl, hrt v ρ2⟩
end
/-! ## what draws may bring: conditions on all ways -/
def takeW (m : Int) (K : Int → Prop) : Prop := 0 < m ∧ ∀ v, 0 ≤ v → v < m → K v
def cellW (K : Int → Prop) : Prop := ∀ v : Int, -(10 ^ 60) < v → v < 10 ^ 60 → K v
section
variable {α β γ σ : Type}
def loopW (w : σ → α → (σ → Prop) → Prop) : σ → List α → (σ → Prop) → Prop
  | s, [], K => K s
  | s, x :: xs, K => w s x fun s' => loopW w s' xs K
def compW (w : α → (β → Prop) → Prop) : List α → (List β → Prop) → Prop
  | [], K => K []
  | x :: xs, K => w x fun y => compW w xs fun ys => K (y :: ys)
/-- .. some are left out -/
def compWf (w : α → (Option β → Prop) → Prop) : List α → (List β → Prop) → Prop
  | [], K => K []
  | x :: xs, K => w x fun y => compWf w xs fun ys => K (y.toList ++ ys)
theorem loopW_of {w : σ → α → (σ → Prop) → Prop} (I : List α → σ → Prop) {K : σ → Prop} : ∀ (xs : List α) (s : σ), I xs s → (∀ x r s, I (x :: r) s → ∀ Q : σ → Prop, (∀ s', I r s' → Q s') → w s x Q) → (∀ s, I [] s → K s) → loopW w s xs K
  | [], s, h, _, hk => hk s h
  | x :: r, s, h, hw, hk => hw x r s h _ fun s' h' => loopW_of I r s' h' hw hk
theorem compW_of {w : α → (β → Prop) → Prop} (P : α → β → Prop) {K : List β → Prop} : ∀ (xs : List α), (∀ x, x ∈ xs → ∀ Q : β → Prop, (∀ y, P x y → Q y) → w x Q) → (∀ ys, ys.length = xs.length → (∀ (i : Nat) (x : α) (y : β), xs[i]? = some x → ys[i]? = some y → P x y) → K ys) → compW w xs K
  | [], _, hk => hk [] rfl fun i x y h _ => by simp at h
  | x :: r, hw, hk => hw x List.mem_cons_self _ fun y hy => compW_of P r (fun z hz => hw z (List.mem_cons_of_mem _ hz)) fun ys hl hp => hk (y :: ys) (by simp [hl]) fun i a b ha hb => by
      cases i with
      | zero => simp at ha hb; subst ha hb; exact hy
      | succ i => exact hp i a b (by simpa using ha) (by simpa using hb)
/-- .. where each made one has the property -/
theorem compW_all {w : α → (β → Prop) → Prop} (P : β → Prop) {K : List β → Prop} (xs : List α) (hw : ∀ x, x ∈ xs → ∀ Q : β → Prop, (∀ y, P y → Q y) → w x Q) (hk : ∀ ys, ys.length = xs.length → (∀ y, y ∈ ys → P y) → K ys) : compW w xs K :=
  compW_of (fun _ y => P y) xs hw fun ys hl hp => hk ys hl fun y hy => by
    obtain ⟨i, hi, e⟩ := List.mem_iff_getElem.mp hy
    exact hp i (xs[i]'(by omega)) y (List.getElem?_eq_getElem _) (by rw [List.getElem?_eq_getElem hi, e])
theorem compWf_all {w : α → (Option β → Prop) → Prop} (P : β → Prop) {K : List β → Prop} : ∀ (xs : List α), (∀ x, x ∈ xs → ∀ Q : Option β → Prop, (∀ y, (∀ z, y = some z → P z) → Q y) → w x Q) → (∀ ys, ys.length ≤ xs.length → (∀ y, y ∈ ys → P y) → K ys) → compWf w xs K
  | [], _, hk => hk [] (Nat.le_refl _) fun y h => by cases h
  | x :: r, hw, hk => hw x List.mem_cons_self _ fun y hy => compWf_all P r (fun z hz => hw z (List.mem_cons_of_mem _ hz)) fun ys hl hp => hk _ (by
      cases y with
      | none => simp; omega
      | some y => simp; omega) fun b hb => by
      cases y with
      | none => exact hp b (by simpa using hb)
      | some y =>
        rcases (by simpa using hb : b = y ∨ b ∈ ys) with rfl | hb
        · exact hy _ rfl
        · exact hp b hb
/-- the end of a def that changes its draws -/
def mK (i : Nat) (e : β → D) (Q : β → Prop) (o : Out) : Prop := OkP (outM i o) fun r c' => Dr c' ∧ ∃ v, r = e v ∧ Q v
def mF (i : Nat) (e : β → D) (Q : β → Prop) (o : Out) : Prop := ∃ v, outD o = some (e v) ∧ Q v
/-- the end of a body -/
def bdK (vs : List Nat) (R : σ → D → Rho) (K B : σ → Prop) (Q : Out → Prop) : Out → Prop
  | .nx ρ => ∃ st c, Dr c ∧ fg ρ vs = R st c ∧ K st
  | .ct ρ => ∃ st c, Dr c ∧ fg ρ vs = R st c ∧ K st
  | .bk ρ => ∃ st c, Dr c ∧ fg ρ vs = R st c ∧ B st
  | .rt d ρ => Q (.rt d ρ)
variable {ρ : Rho} {b body rest : Sf} {i : Nat} {f : Rho → Option D} {fe : Ef} {it : Af} {g : Gf} {enc : α → D} {encb : β → D} {vs : List Nat} {xs : List α} {init : σ} {Q : Out → Prop} {QD : D → Rho → Prop}
theorem cm_W {N k : Nat} {b : Sf} {c : D} {ds : List D} {e : β → D} {Q : β → Prop} {Q' : D → D → Prop} (ρ : Rho) (h : Rn b ρ (mK k e Q)) (hq : ∀ v c', Dr c' → Q v → Q' (e v) c') (he : ins k (.m c) (ds.map Sl.p) ++ List.replicate (N - (ds.length + 1)) .un = ρ := by rfl) : Cm (fnM N k b) c ds Q' :=
  fnM_go ρ he (by
    obtain ⟨o, h1, ⟨r, c'⟩, h2, h3, v, h4, h5⟩ := h
    have h4 : r = e v := h4
    subst h4
    exact ⟨o, h1, (e v, c'), h2, hq v c' h3 h5⟩)
theorem fn_W {N : Nat} {b : Sf} {ds : List D} {e : β → D} {Q : β → Prop} (ρ : Rho) (h : Rn b ρ (mF 0 e Q)) (he : ds.map Sl.p ++ List.replicate (N - ds.length) .un = ρ := by rfl) : ∃ v, fnP N b ds = some (e v) ∧ Q v := by
  obtain ⟨o, h1, v, h2, h3⟩ := h
  refine ⟨v, ?_, h3⟩
  unfold fnP
  rw [he, h1]
  exact h2
theorem w_take {c : D} {m : Int} {K : Int → Prop} {Q : D → D → Prop} (hc : Dr c) (hw : takeW m K) (hk : ∀ v c', Dr c' → K v → Q (eI v) c') : Cm m_Ltake c [eI m] Q := cm_take hc hw.1 fun v c' h0 h1 hc' => hk v c' hc' (hw.2 v h0 h1)
theorem w_cell {c : D} {ns : List Int} {K : Int → Prop} {Q : D → D → Prop} (hc : Dr c) (hw : cellW K) (hk : ∀ v c', Dr c' → K v → Q (eI v) c') : Cm m_Lcell c [eL eI ns] Q := cm_cell hc fun v c' h0 h1 hc' => hk v c' hc' (hw v h0 h1)
theorem ev_l {d : D} (h : f ρ = some d) (hq : QD d ρ) : Ev (lift f) ρ QD := ev_lift ⟨d, h, hq⟩
theorem aw_l {fa : Rho → Option (List D)} {ds : List D} {QA : List D → Rho → Prop} (h : fa ρ = some ds) (hq : QA ds ρ) : Aw (liftA fa) ρ QA := aw_lift ⟨ds, h, hq⟩
theorem te_l {t : Rho → Option Bool} {c : Bool} {QB : Bool → Rho → Prop} (h : t ρ = some c) (hq : QB c ρ) : Te (liftT t) ρ QB := te_lift ⟨c, h, hq⟩
/-- x = e, e with draws -/
theorem rn_setW (h : Ev fe ρ fun d ρ1 => ∃ ρ2, setP i d ρ1 = some ρ2 ∧ Rn rest ρ2 Q) : Rn (sSeq (sSetP i fe) rest) ρ Q := by
  obtain ⟨d, ρ1, h1, ρ2, h2, h3⟩ := h
  exact seq_nx (by rw [sSetP_eq, h1]; show (setP i d ρ1).map _ = _; rw [h2]; rfl) h3
theorem rn_setOW (h : Ev fe ρ fun d ρ1 => ∃ ρ2, setO i d ρ1 = some ρ2 ∧ Rn rest ρ2 Q) : Rn (sSeq (sSetO i fe) rest) ρ Q := by
  obtain ⟨d, ρ1, h1, ρ2, h2, h3⟩ := h
  exact seq_nx (by rw [sSetO_eq, h1]; show (setO i d ρ1).map _ = _; rw [h2]; rfl) h3
theorem rn_asgW (h : Ev fe ρ fun d ρ1 => ∃ ρ2, g d ρ1 = some ρ2 ∧ Rn rest ρ2 Q) : Rn (sSeq (sAsg g fe) rest) ρ Q := by
  obtain ⟨d, ρ1, h1, ρ2, h2, h3⟩ := h
  exact seq_nx (by rw [sAsg_eq, h1]; show (g d ρ1).map _ = _; rw [h2]; rfl) h3
theorem rn_exW (h : Ev fe ρ fun _ ρ1 => Rn rest ρ1 Q) : Rn (sSeq (sEx fe) rest) ρ Q := by
  obtain ⟨d, ρ1, h1, h3⟩ := h
  exact seq_nx (by rw [sEx_eq, h1]; rfl) h3
theorem rn_retW (h : Ev fe ρ fun d ρ1 => Q (.rt d ρ1)) : Rn (sSeq (sRt fe) rest) ρ Q := by
  obtain ⟨d, ρ1, h1, h2⟩ := h
  exact ⟨.rt d ρ1, by unfold sSeq; rw [sRt_eq, h1]; rfl, h2⟩
theorem rn_ifW {t : Tf} {c : Sf} (h : Te t ρ fun q ρ1 => (q = true → Rn (sSeq b rest) ρ1 Q) ∧ (q = false → Rn (sSeq c rest) ρ1 Q)) : Rn (sSeq (sIf t b c) rest) ρ Q := by
  obtain ⟨q, ρ1, h1, h2, h3⟩ := h
  cases q with
  | true =>
    obtain ⟨o, h4, h5⟩ := h2 rfl
    exact ⟨o, by unfold sSeq; rw [sIf_eq, h1]; exact h4, h5⟩
  | false =>
    obtain ⟨o, h4, h5⟩ := h3 rfl
    exact ⟨o, by unfold sSeq; rw [sIf_eq, h1]; exact h4, h5⟩
theorem rn_stoW {fi : Ef} (h : Ev fe ρ fun a ρ1 => ∃ c0, ownd i ρ1 = some c0 ∧ Ev fi ρ1 fun b ρ2 => ∃ ds k j, b = .int k ∧ ownd i ρ2 = some (.list ds) ∧ ixN ds.length k = some j ∧ Rn rest (wr i (.list (ds.set j a)) ρ2) Q) : Rn (sSeq (storeL i fe fi) rest) ρ Q := by
  obtain ⟨o, h1, h2⟩ := rn_store (Q := fun o => ∃ ρ', o = .nx ρ' ∧ Rn rest ρ' Q) (by
    obtain ⟨a, ρ1, h1, c0, h2, b, ρ2, h3, ds, k, j, h4, h5, h6, h7⟩ := h
    exact ⟨a, ρ1, h1, c0, h2, b, ρ2, h3, ds, k, j, h4, h5, h6, _, rfl, h7⟩)
  obtain ⟨ρ', rfl, h3⟩ := h2
  exact seq_nx h1 h3
theorem rn_wset {e : α} {w : α → Prop} {ρ1 : Rho} (ρ2 : α → Rho) (hw : ∀ x, x = e → w x) (hk : ∀ x, w x → Rn rest (ρ2 x) Q) (hs : ∀ x, setP i (enc x) ρ1 = some (ρ2 x) := by intro _; rfl) : ∃ ρ', setP i (enc e) ρ1 = some ρ' ∧ Rn rest ρ' Q := ⟨ρ2 e, hs e, hk e (hw e rfl)⟩
theorem rn_wsetO {e : α} {w : α → Prop} {ρ1 : Rho} (ρ2 : α → Rho) (hw : ∀ x, x = e → w x) (hk : ∀ x, w x → Rn rest (ρ2 x) Q) (hs : ∀ x, setO i (enc x) ρ1 = some (ρ2 x) := by intro _; rfl) : ∃ ρ', setO i (enc e) ρ1 = some ρ' ∧ Rn rest ρ' Q := ⟨ρ2 e, hs e, hk e (hw e rfl)⟩
theorem rn_wasg {e : α} {w : α → Prop} {ρ1 : Rho} (ρ2 : α → Rho) (hw : ∀ x, x = e → w x) (hk : ∀ x, w x → Rn rest (ρ2 x) Q) (hs : ∀ x, g (enc x) ρ1 = some (ρ2 x) := by intro _; rfl) : ∃ ρ', g (enc e) ρ1 = some ρ' ∧ Rn rest ρ' Q := ⟨ρ2 e, hs e, hk e (hw e rfl)⟩
/-- new values, whatever they are -/
theorem rn_gen {e : α} {w : α → Prop} (ρ2 : α → Rho) (hw : ∀ x, x = e → w x) (hk : ∀ x, w x → Rn rest (ρ2 x) Q) (hρ : ρ = ρ2 e := by rfl) : Rn rest ρ Q := by rw [hρ]; exact hk e (hw e rfl)
theorem rn_forW {b : Sf} (h : Aw it ρ fun ds ρ1 => Rn (sSeq (forS g b ds) rest) ρ1 Q) : Rn (sSeq (sFor it g b) rest) ρ Q := by
  obtain ⟨ds, ρ1, h1, o, h2, h3⟩ := h
  refine ⟨o, ?_, h3⟩
  rw [sSeq_eq] at h2 ⊢
  rw [sFor_eq, h1]
  exact h2
theorem forS_W {w : σ → α → (σ → Prop) → Prop} (R : σ → D → Rho) (ρ1 : σ → D → α → Rho) (hg : ∀ st c x, g (enc x) (R st c) = some (ρ1 st c x)) (B : σ → Prop) (hb : ∀ st c x K, Dr c → w st x K → Rn body (ρ1 st c x) (bdK vs R K B Q)) (hr : ∀ st c, Dr c → B st → Rn rest (R st c) Q) :
    ∀ (xs : List α) (init : σ) (c : D), Dr c → loopW w init xs B → Rn (sSeq (forS g (sFg vs body) (xs.map enc)) rest) (R init c) Q
  | [], init, c, hc, h => hr init c hc h
  | x :: r, init, c, hc, h => by
    obtain ⟨o, e1, e2⟩ := hb init c x _ hc h
    have main : ∀ q : Out, sFg vs body (ρ1 init c x) = some q → (∃ o', goOn (forS g (sFg vs body) (r.map enc)) q = some o' ∧ ∃ o2, thenO rest o' = some o2 ∧ Q o2) → Rn (sSeq (forS g (sFg vs body) ((x :: r).map enc)) rest) (R init c) Q := fun q hq ⟨o', h1, o2, h2, h3⟩ => by
      refine ⟨o2, ?_, h3⟩
      rw [sSeq_eq, List.map_cons, forS_cons, hg]
      show (((sFg vs body (ρ1 init c x)).bind _).bind _) = _
      rw [hq, Option.bind_some, h1]
      exact h2
    have hq : sFg vs body (ρ1 init c x) = some (fgO vs o) := by unfold sFg; rw [e1]; rfl
    have go : ∀ st c', Dr c' → loopW w st r B → ∃ o', forS g (sFg vs body) (r.map enc) (R st c') = some o' ∧ ∃ o2, thenO rest o' = some o2 ∧ Q o2 := fun st c' hc' h' => by
      obtain ⟨o2, h1, h2⟩ := forS_W R ρ1 hg B hb hr r st c' hc' h'
      rw [sSeq_eq] at h1
      obtain ⟨o', h3, h4⟩ := Option.bind_eq_some_iff.mp h1
      exact ⟨o', h3, o2, h4, h2⟩
    refine main _ hq ?_
    cases o with
    | nx ρ2 =>
      obtain ⟨st, c', hc', e3, hk⟩ := e2
      show ∃ o', forS g (sFg vs body) (r.map enc) (fg ρ2 vs) = some o' ∧ _
      rw [e3]
      exact go st c' hc' hk
    | ct ρ2 =>
      obtain ⟨st, c', hc', e3, hk⟩ := e2
      show ∃ o', forS g (sFg vs body) (r.map enc) (fg ρ2 vs) = some o' ∧ _
      rw [e3]
      exact go st c' hc' hk
    | bk ρ2 =>
      obtain ⟨st, c', hc', e3, hk⟩ := e2
      refine ⟨.nx (fg ρ2 vs), rfl, ?_⟩
      rw [e3]
      exact hr st c' hc' hk
    | rt d ρ2 => exact ⟨.rt d ρ2, rfl, _, rfl, e2⟩
theorem rn_loopW {w : σ → α → (σ → Prop) → Prop} {B : σ → Prop} {c : D} (R : σ → D → Rho) (ρ1 : σ → D → α → Rho) (hc : Dr c) (hw : loopW w init xs B) (hb : ∀ st c x K, Dr c → w st x K → Rn body (ρ1 st c x) (bdK vs R K B Q)) (hr : ∀ st c, Dr c → B st → Rn rest (R st c) Q)
    (hρ : ρ = R init c := by rfl) (hg : ∀ st c x, g (enc x) (R st c) = some (ρ1 st c x) := by intro _ _ _; rfl) : Rn (sSeq (forS g (sFg vs body) (xs.map enc)) rest) ρ Q := by
  rw [hρ]
  exact forS_W R ρ1 hg B hb hr xs init c hc hw
/-- a comprehension with draws -/
theorem compS_W {w : α → (β → Prop) → Prop} {e : Ef} (R : D → Rho) (ρ1 : D → α → Rho) (hg : ∀ c x, g (enc x) (R c) = some (ρ1 c x)) (he : ∀ c x (K : β → Prop), Dr c → w x K → Ev e (ρ1 c x) fun d ρ3 => ∃ y c', d = encb y ∧ Dr c' ∧ K y ∧ unwO vs ρ3 = some (R c')) :
    ∀ (xs : List α) (c : D) (K : List β → Prop), Dr c → compW w xs K → ∃ ys c', compS g (liftT tsN) e vs (xs.map enc) (R c) = some (ys.map encb, R c') ∧ Dr c' ∧ K ys ∧ ys.length ≤ xs.length
  | [], c, K, hc, h => ⟨[], c, rfl, hc, h, Nat.le_refl _⟩
  | x :: r, c, K, hc, h => by
    obtain ⟨d, ρ3, e1, y, c', rfl, hc', hk, e2⟩ := he c x _ hc h
    obtain ⟨ys, c2, e3, hc2, hk2, hl⟩ := compS_W R ρ1 hg he r c' _ hc' hk
    refine ⟨y :: ys, c2, ?_, hc2, hk2, by simp; omega⟩
    show (g (enc x) (R c)).bind _ = _
    rw [hg]
    show (e (ρ1 c x)).bind _ = _
    rw [e1]
    show (unwO vs ρ3).bind _ = _
    rw [e2]
    show (compS g (liftT tsN) e vs (r.map enc) (R c')).map _ = _
    rw [e3]
    rfl
theorem ev_compA {p : Tf} {e : Ef} (h : Aw it ρ fun ds ρ1 => Ev (compE (liftA fun _ => some ds) g p e vs) ρ1 QD) : Ev (compE it g p e vs) ρ QD := by
  obtain ⟨ds, ρ1, h1, d, ρ', h2, h3⟩ := h
  refine ⟨d, ρ', ?_, h3⟩
  unfold compE at h2 ⊢
  rw [h1]
  exact h2
theorem ev_compW {w : α → (β → Prop) → Prop} {K : List β → Prop} {c : D} {e : Ef} (R0 R : D → Rho) (ρ1 : D → α → Rho) (hc : Dr c) (hl : xs.length ≤ 16777216) (hw : compW w xs K) (he : ∀ c x (K : β → Prop), Dr c → w x K → Ev e (ρ1 c x) fun d ρ3 => ∃ y c', d = encb y ∧ Dr c' ∧ K y ∧ unwO vs ρ3 = some (R c'))
    (hk : ∀ ys c', Dr c' → K ys → QD (eL encb ys) (R0 c')) (hρ : ρ = R0 c := by rfl) (hu : unwO vs (R0 c) = some (R c) := by rfl) (hr : ∀ c', rst (R0 c) (R c') vs = R0 c' := by intro _; rfl) (hg : ∀ c x, g (enc x) (R c) = some (ρ1 c x) := by intro _ _; rfl) : Ev (compE (liftA fun _ => some (xs.map enc)) g (liftT tsN) e vs) ρ QD := by
  obtain ⟨ys, c', h1, hc', hky, hly⟩ := compS_W R ρ1 hg he xs c K hc hw
  refine ⟨eL encb ys, R0 c', ?_, hk ys c' hc' hky⟩
  unfold compE
  rw [hρ]
  show (unwO vs (R0 c)).bind _ = _
  rw [hu]
  show (compS g (liftT tsN) e vs (xs.map enc) (R c)).bind _ = _
  rw [h1]
  show (if (ys.map encb).length ≤ lim then some (PyData.list (ys.map encb), rst (R0 c) (R c') vs) else none) = _
  rw [if_pos (by rw [List.length_map]; show ys.length ≤ 16777216; omega), hr]
  rfl
/-- .. with a test -/
theorem compS_Wf {w : α → (Option β → Prop) → Prop} {p : Tf} {e : Ef} (R : D → Rho) (ρ1 : D → α → Rho) (hg : ∀ c x, g (enc x) (R c) = some (ρ1 c x)) (he : ∀ c x (K : Option β → Prop), Dr c → w x K → Te p (ρ1 c x) fun q ρ2 => (q = true → Ev e ρ2 fun d ρ3 => ∃ y c', d = encb y ∧ Dr c' ∧ K (some y) ∧ unwO vs ρ3 = some (R c')) ∧ (q = false → ∃ c', Dr c' ∧ K none ∧ unwO vs ρ2 = some (R c'))) :
    ∀ (xs : List α) (c : D) (K : List β → Prop), Dr c → compWf w xs K → ∃ ys c', compS g p e vs (xs.map enc) (R c) = some (ys.map encb, R c') ∧ Dr c' ∧ K ys ∧ ys.length ≤ xs.length
  | [], c, K, hc, h => ⟨[], c, rfl, hc, h, Nat.le_refl _⟩
  | x :: r, c, K, hc, h => by
    obtain ⟨q, ρ2, e0, ht, hf⟩ := he c x _ hc h
    cases q with
    | true =>
      obtain ⟨d, ρ3, e1, y, c', rfl, hc', hk, e2⟩ := ht rfl
      obtain ⟨ys, c2, e3, hc2, hk2, hl⟩ := compS_Wf R ρ1 hg he r c' _ hc' hk
      refine ⟨y :: ys, c2, ?_, hc2, hk2, by simp; omega⟩
      show (g (enc x) (R c)).bind _ = _
      rw [hg]
      show (p (ρ1 c x)).bind _ = _
      rw [e0]
      show (e ρ2).bind _ = _
      rw [e1]
      show (unwO vs ρ3).bind _ = _
      rw [e2]
      show (compS g p e vs (r.map enc) (R c')).map _ = _
      rw [e3]
      rfl
    | false =>
      obtain ⟨c', hc', hk, e2⟩ := hf rfl
      obtain ⟨ys, c2, e3, hc2, hk2, hl⟩ := compS_Wf R ρ1 hg he r c' _ hc' hk
      refine ⟨ys, c2, ?_, hc2, hk2, by simp; omega⟩
      show (g (enc x) (R c)).bind _ = _
      rw [hg]
      show (p (ρ1 c x)).bind _ = _
      rw [e0]
      show (unwO vs ρ2).bind _ = _
      rw [e2]
      show compS g p e vs (r.map enc) (R c') = _
      rw [e3]
theorem ev_compWf {w : α → (Option β → Prop) → Prop} {K : List β → Prop} {c : D} {p : Tf} {e : Ef} (R0 R : D → Rho) (ρ1 : D → α → Rho) (hc : Dr c) (hl : xs.length ≤ 16777216) (hw : compWf w xs K) (he : ∀ c x (K : Option β → Prop), Dr c → w x K → Te p (ρ1 c x) fun q ρ2 => (q = true → Ev e ρ2 fun d ρ3 => ∃ y c', d = encb y ∧ Dr c' ∧ K (some y) ∧ unwO vs ρ3 = some (R c')) ∧ (q = false → ∃ c', Dr c' ∧ K none ∧ unwO vs ρ2 = some (R c')))
    (hk : ∀ ys c', Dr c' → K ys → QD (eL encb ys) (R0 c')) (hρ : ρ = R0 c := by rfl) (hu : unwO vs (R0 c) = some (R c) := by rfl) (hr : ∀ c', rst (R0 c) (R c') vs = R0 c' := by intro _; rfl) (hg : ∀ c x, g (enc x) (R c) = some (ρ1 c x) := by intro _ _; rfl) : Ev (compE (liftA fun _ => some (xs.map enc)) g p e vs) ρ QD := by
  obtain ⟨ys, c', h1, hc', hky, hly⟩ := compS_Wf R ρ1 hg he xs c K hc hw
  refine ⟨eL encb ys, R0 c', ?_, hk ys c' hc' hky⟩
  unfold compE
  rw [hρ]
  show (unwO vs (R0 c)).bind _ = _
  rw [hu]
  show (compS g p e vs (xs.map enc) (R c)).bind _ = _
  rw [h1]
  show (if (ys.map encb).length ≤ lim then some (PyData.list (ys.map encb), rst (R0 c) (R c') vs) else none) = _
  rw [if_pos (by rw [List.length_map]; show ys.length ≤ 16777216; omega), hr]
  rfl
end
end DL
namespace DL
open L2 PyProof.Rows PySem PySem.Spec
/-! ## more for the walk -/
theorem SB.fgN {X : Cx} {kr : Kd} {sts : List Stmt} {f : Sf} (vs : List Nat) (h : SB X kr sts f) : SB X kr sts (sSeq (sFgN vs) f) := by
  obtain ⟨t, h1, h2⟩ := h.ex
  refine ⟨t, h1, fun F σ H ρ o E R hf k => ?_⟩
  obtain ⟨R2, e2⟩ := R.forget vs
  exact h2 F σ H _ o E R2 hf (k.later e2)
theorem nn_last {b : Sf} (h : NoNx b) : NoNx (sSeq b sNx) := fun ρ ρ' e => by
  rw [sSeq_eq] at e
  cases q : b ρ with
  | none => rw [q] at e; cases e
  | some o =>
    rw [q] at e
    cases o with
    | nx ρ2 => exact h ρ ρ2 q
    | bk ρ2 => cases e
    | ct ρ2 => cases e
    | rt d ρ2 => cases e
/-! ## _law_same, typed -/
structure SmE {α : Type} (e : α → D) (n : Nat) (ok : α → Prop) : Prop where
  eq : ∀ a b, ok b → ∀ k, n ≤ k → ∃ c : Bool, m_Lsame (k + 1) [e a, e b] = some (eB c) ∧ (c = true ↔ a = b)
structure SmX {α : Type} (e : α → D) (n : Nat) (ok : α → Prop) : Prop extends SmE e n ok where
  non : ∀ b, ok b → ∀ k, n ≤ k → m_Lsame (k + 1) [.none, e b] = some (eB false)
  nn : NnE e
def okA {α : Type} (_ : α) : Prop := True
def okT {α : Type} (ok : α → Prop) (l : List α) : Prop := l.length ≤ 1000000 ∧ ∀ x, x ∈ l → ok x
def okO {α : Type} (ok : α → Prop) (l : Option α) : Prop := ∀ x, l = some x → ok x
def okP {α β : Type} (oka : α → Prop) (okb : β → Prop) (p : α × β) : Prop := oka p.1 ∧ okb p.2
@[simp] theorem okA_eq {α : Type} (x : α) : okA x = True := rfl
theorem smI : SmX eI 0 okA := ⟨⟨fun a b _ k _ => ⟨decide (a = b), by simp [m_Lsame, b_Lsame, eI, eB], by simp⟩⟩, fun b _ k _ => by simp [m_Lsame, b_Lsame, eI, eB], nnI⟩
theorem smS : SmX eS 0 okA := ⟨⟨fun a b _ k _ => ⟨decide (a = b), by simp [m_Lsame, b_Lsame, eS, eB], by simp⟩⟩, fun b _ k _ => by simp [m_Lsame, b_Lsame, eS, eB], nnS⟩
theorem smB : SmX eB 0 okA := ⟨⟨fun a b _ k _ => ⟨decide (a = b), by simp [m_Lsame, b_Lsame, eB], by simp⟩⟩, fun b _ k _ => by simp [m_Lsame, b_Lsame, eB], nnB⟩
theorem same_rows {k : Nat} (xs ys : List D) (hy : ys.length ≤ 1000000) (cs : List Bool) (hl : xs.length = ys.length) (hc : cs.length = ys.length) (h : ∀ i, (h : i < ys.length) → m_Lsame (k + 1) [xs[i]'(by omega), ys[i]] = some (eB (cs[i]'(by omega)))) :
    m_Lsame (k + 2) [.tuple xs, .tuple ys] = some (eB (cs.all id)) := by
  refine fnP_go [.p (.tuple xs), .p (.tuple ys), .un] rfl ?_
  refine rn_seq (rn_if (te_lift ?_))
  simp
  refine rn_nx ?_
  simp
  refine rn_seq (rn_if (te_lift ?_))
  simp
  refine rn_nx ?_
  simp
  refine rn_seq (rn_if (te_lift ?_))
  simp
  refine rn_nx ?_
  simp
  refine rn_seq (rn_if (te_lift ?_))
  simp
  refine rn_nx ?_
  simp
  refine rn_seq (rn_if (te_lift ?_))
  simp [hl]
  refine rn_nx ?_
  simp
  refine rn_seq (rn_for (aw_lift ?_))
  simp [rng_one (n := ys.length) (by omega)]
  refine rn_forS _ (fun i ρ => ∃ s : Sl, ρ = [.p (.tuple xs), .p (.tuple ys), s] ∧ s.pl = true ∧ (cs.take i).all id = true) _ ⟨.un, rfl, rfl, rfl⟩ ?_ ?_
  · rintro i d ρ hi ⟨s, rfl, hs, hq⟩
    obtain ⟨hlt, hd⟩ := List.getElem?_eq_some_iff.mp hi
    have hlt : i < ys.length := by simpa using hlt
    have hd : d = .int (i : Int) := by simpa using hd.symm
    subst hd
    have hltx : i < xs.length := by omega
    have hltc : i < cs.length := by omega
    refine ⟨[.p (.tuple xs), .p (.tuple ys), .p (.int i)], by simp [hs], ?_⟩
    have hh := h i hlt
    refine rn_if (te_lift ⟨!cs[i], ?_, fun q => ?_, fun q => ?_⟩)
    · exact tt_not (tt_tst (tvA (tvC (tv2 (x := .tuple xs) (y := .int i) rfl rfl (atI_nat hltx)) (tvC (tv2 (x := .tuple ys) (y := .int i) rfl rfl (atI_nat hlt)) tvN)) hh))
    · refine rn_rt (ev_lift ⟨_, rfl, ?_⟩)
      have q : cs[i] = false := by simpa using q
      have : cs.all id = false := by
        rw [Bool.eq_false_iff]
        intro z
        have := List.all_eq_true.mp z _ (List.getElem_mem hltc)
        rw [q] at this
        cases this
      rw [this]
      rfl
    · refine rn_nx ⟨_, rfl, rfl, ?_⟩
      have q : cs[i] = true := by simpa using q
      rw [List.take_succ, List.getElem?_eq_getElem hltc, List.all_append, hq, q]
      rfl
  · rintro ρ ⟨s, rfl, hs, hq⟩
    rw [sq_nx]
    refine rn_rt (ev_lift ⟨_, rfl, ?_⟩)
    have : cs.all id = true := by
      have e : ((List.range ys.length).map fun i : Nat => PyData.int (i : Int)).length = cs.length := by simp [hc]
      first
        | (rw [e, List.take_length] at hq; exact hq)
        | (rw [List.length_map, List.length_range, ← hc, List.take_length] at hq; exact hq)
        | (rw [← hc, List.take_length] at hq; exact hq)
    rw [this]
    rfl
theorem same_len {k : Nat} {xs ys : List D} (hl : xs.length ≠ ys.length) : m_Lsame (k + 1) [.tuple xs, .tuple ys] = some (eB false) := by
  have hl : ¬ (xs.length : Int) = (ys.length : Int) := by omega
  simp [m_Lsame, b_Lsame, hl, eB]
theorem same_non {k : Nat} {ys : List D} : m_Lsame (k + 1) [.none, .tuple ys] = some (eB false) := by simp [m_Lsame, b_Lsame, eB]
theorem smT {α : Type} {e : α → D} {n : Nat} {ok : α → Prop} (h : SmE e n ok) : SmX (eT e) (n + 1) (okT ok) := by
  refine ⟨⟨fun a b hb k hk => ?_⟩, fun b hb k hk => same_non, nnT⟩
  obtain ⟨j, rfl⟩ : ∃ j, k = j + 1 := ⟨k - 1, by omega⟩
  by_cases hl : a.length = b.length
  · have key : ∀ (a b : List α), a.length = b.length → (∀ x, x ∈ b → ok x) → ∃ cs : List Bool, cs.length = b.length ∧ (∀ i (h1 : i < b.length) (h2 : i < a.length) (h3 : i < cs.length), m_Lsame (j + 1) [e a[i], e b[i]] = some (eB cs[i])) ∧ (cs.all id = true ↔ a = b) := by
      intro a
      induction a with
      | nil => intro b hl _; cases b with
        | nil => exact ⟨[], rfl, fun i h => absurd h (by simp), by simp⟩
        | cons _ _ => simp at hl
      | cons x xs ih => intro b hl hb; cases b with
        | nil => simp at hl
        | cons y ys =>
          obtain ⟨cs, c1, c2, c3⟩ := ih ys (by simpa using hl) fun z hz => hb z (List.mem_cons_of_mem _ hz)
          obtain ⟨c, d1, d2⟩ := h.eq x y (hb y List.mem_cons_self) j (by omega)
          refine ⟨c :: cs, by simp [c1], fun i h1 h2 h3 => ?_, ?_⟩
          · cases i with
            | zero => exact d1
            | succ i => exact c2 i (by simpa using h1) (by simpa using h2) (by simpa using h3)
          · rw [List.all_cons, Bool.and_eq_true]
            constructor
            · rintro ⟨q1, q2⟩
              rw [d2.mp q1, c3.mp q2]
            · intro q
              injection q with q1 q2
              exact ⟨d2.mpr q1, c3.mpr q2⟩
    obtain ⟨cs, c1, c2, c3⟩ := key a b hl hb.2
    exact ⟨cs.all id, same_rows (a.map e) (b.map e) (by simpa using hb.1) cs (by simpa using hl) (by simpa using c1) (fun i hi => by
      have h1 : i < b.length := by simpa using hi
      rw [List.getElem_map, List.getElem_map]
      exact c2 i h1 (by omega) (by omega)), c3⟩
  · exact ⟨false, same_len (by simpa using hl), by
      constructor
      · intro z; cases z
      · intro z; exact absurd (congrArg List.length z) hl⟩
theorem smP {α β : Type} {a : α → D} {b : β → D} {n m : Nat} {oka : α → Prop} {okb : β → Prop} (ha : SmE a n oka) (hb : SmE b m okb) : SmX (eP a b) (max n m + 1) (okP oka okb) := by
  refine ⟨⟨fun x y hy k hk => ?_⟩, fun b hb k hk => same_non, nnP⟩
  obtain ⟨j, rfl⟩ : ∃ j, k = j + 1 := ⟨k - 1, by omega⟩
  obtain ⟨c1, d1, e1⟩ := ha.eq x.1 y.1 hy.1 j (by omega)
  obtain ⟨c2, d2, e2⟩ := hb.eq x.2 y.2 hy.2 j (by omega)
  refine ⟨([c1, c2] : List Bool).all id, same_rows [a x.1, b x.2] [a y.1, b y.2] (by simp) [c1, c2] rfl rfl (fun i hi => ?_), ?_⟩
  · match i, hi with
    | 0, _ => exact d1
    | 1, _ => exact d2
  · simp only [List.all_cons, List.all_nil, id, Bool.and_true, Bool.and_eq_true, e1, e2]
    exact ⟨fun ⟨p, q⟩ => Prod.ext p q, fun h => by rw [h]; exact ⟨rfl, rfl⟩⟩
theorem smP3 {α β γ : Type} {a : α → D} {b : β → D} {c : γ → D} {n m l : Nat} {oka : α → Prop} {okb : β → Prop} {okc : γ → Prop} (ha : SmE a n oka) (hb : SmE b m okb) (hc : SmE c l okc) : SmX (eP3 a b c) (max n (max m l) + 1) (okP oka (okP okb okc)) := by
  refine ⟨⟨fun x y hy k hk => ?_⟩, fun b hb k hk => same_non, nnP3⟩
  obtain ⟨j, rfl⟩ : ∃ j, k = j + 1 := ⟨k - 1, by omega⟩
  obtain ⟨c1, d1, e1⟩ := ha.eq x.1 y.1 hy.1 j (by omega)
  obtain ⟨c2, d2, e2⟩ := hb.eq x.2.1 y.2.1 hy.2.1 j (by omega)
  obtain ⟨c3, d3, e3⟩ := hc.eq x.2.2 y.2.2 hy.2.2 j (by omega)
  refine ⟨([c1, c2, c3] : List Bool).all id, same_rows [a x.1, b x.2.1, c x.2.2] [a y.1, b y.2.1, c y.2.2] (by simp) [c1, c2, c3] rfl rfl (fun i hi => ?_), ?_⟩
  · match i, hi with
    | 0, _ => exact d1
    | 1, _ => exact d2
    | 2, _ => exact d3
  · simp only [List.all_cons, List.all_nil, id, Bool.and_true, Bool.and_eq_true, e1, e2, e3]
    exact ⟨fun ⟨p, q, r⟩ => Prod.ext p (Prod.ext q r), fun h => by rw [h]; exact ⟨rfl, rfl, rfl⟩⟩
theorem smP4 {α β γ δ : Type} {a : α → D} {b : β → D} {c : γ → D} {d : δ → D} {n m l k : Nat} {oka : α → Prop} {okb : β → Prop} {okc : γ → Prop} {okd : δ → Prop} (ha : SmE a n oka) (hb : SmE b m okb) (hc : SmE c l okc) (hd : SmE d k okd) : SmX (eP4 a b c d) (max n (max m (max l k)) + 1) (okP oka (okP okb (okP okc okd))) := by
  refine ⟨⟨fun x y hy k hk => ?_⟩, fun b hb k hk => same_non, nnP4⟩
  obtain ⟨j, rfl⟩ : ∃ j, k = j + 1 := ⟨k - 1, by omega⟩
  obtain ⟨c1, d1, e1⟩ := ha.eq x.1 y.1 hy.1 j (by omega)
  obtain ⟨c2, d2, e2⟩ := hb.eq x.2.1 y.2.1 hy.2.1 j (by omega)
  obtain ⟨c3, d3, e3⟩ := hc.eq x.2.2.1 y.2.2.1 hy.2.2.1 j (by omega)
  obtain ⟨c4, d4, e4⟩ := hd.eq x.2.2.2 y.2.2.2 hy.2.2.2 j (by omega)
  refine ⟨([c1, c2, c3, c4] : List Bool).all id, same_rows [a x.1, b x.2.1, c x.2.2.1, d x.2.2.2] [a y.1, b y.2.1, c y.2.2.1, d y.2.2.2] (by simp) [c1, c2, c3, c4] rfl rfl (fun i hi => ?_), ?_⟩
  · match i, hi with
    | 0, _ => exact d1
    | 1, _ => exact d2
    | 2, _ => exact d3
    | 3, _ => exact d4
  · simp only [List.all_cons, List.all_nil, id, Bool.and_true, Bool.and_eq_true, e1, e2, e3, e4]
    exact ⟨fun ⟨p, q, r, s⟩ => Prod.ext p (Prod.ext q (Prod.ext r s)), fun h => by rw [h]; exact ⟨rfl, rfl, rfl, rfl⟩⟩
theorem same_to_none {k : Nat} {d : D} : m_Lsame (k + 1) [d, .none] = some (eB (!notN d)) := by
  simp [m_Lsame, b_Lsame, isN, eB, notN]
theorem smO {α : Type} {e : α → D} {n : Nat} {ok : α → Prop} (h : SmX e n ok) : SmE (eO e) n (okO ok) := by
  refine ⟨fun a b hb k hk => ?_⟩
  cases b with
  | none =>
    refine ⟨!notN (eO e a), same_to_none, ?_⟩
    cases a with
    | none => simp [eO, notN]
    | some a => simp [eO, notN_of (h.nn a)]
  | some b =>
    cases a with
    | none => exact ⟨false, h.non b (hb b rfl) k hk, by simp⟩
    | some a =>
      obtain ⟨c, h1, h2⟩ := h.eq a b (hb b rfl) k hk
      exact ⟨c, h1, by rw [h2]; simp⟩
theorem dv_same {α : Type} [DecidableEq α] {e : α → D} {n : Nat} {ok : α → Prop} (h : SmE e n ok) {a b : α} (hb : ok b) (hn : n ≤ 5 := by decide) : m_Lsame 6 [e a, e b] = some (eB (decide (a = b))) := by
  obtain ⟨c, h1, h2⟩ := h.eq a b hb 5 hn
  rw [h1]
  by_cases q : a = b
  · rw [decide_eq_true q, h2.mpr q]
  · rw [decide_eq_false q, Bool.eq_false_iff.mpr fun z => q (h2.mp z)]
end DL
namespace DL
open L2 PyProof.Rows PySem PySem.Spec
/-! ## small rules that the printer names -/
theorem all_lt {α : Type} {e : α} {s2 : α → Prop} (h : ∀ x, x = e → s2 x) : lt e s2 := h e rfl
theorem toQ {b : Sf} {ρ : Rho} {Q : Out → Prop} (h : Rn b ρ (Kf (fun (_ : Unit) => Q) ())) : Rn b ρ Q := h
theorem foldS_tt {α σ : Type} (step : σ → α → σ) : ∀ (s : σ) (xs : List α), foldS (fun _ _ => True) step s xs
  | _, [] => trivial
  | s, x :: xs => ⟨trivial, foldS_tt step (step s x) xs⟩
theorem loopS_tt {α β σ : Type} (step : σ → α → Ctl σ β) : ∀ (s : σ) (xs : List α), loopS (fun _ _ => True) step s xs
  | _, [] => trivial
  | s, x :: xs => ⟨trivial, by
    cases step s x with
    | nx s' => exact loopS_tt step s' xs
    | bk _ => trivial
    | rt _ => trivial⟩
theorem ctlS_tt {σ β : Type} (c : Ctl σ β) : ctlS c (fun _ => True) := by cases c <;> trivial
section
variable {ρ : Rho} {f : Rho → Option D} {Q : D → Rho → Prop}
theorem vO {α : Type} [Inhabited α] {e : α → D} {x : Option α} (hx : x ≠ none) (h : f ρ = some (eO e x)) : f ρ = some (e (x.getD default)) := by rw [h, eO_get hx]
theorem dv_powN {x : Int} (n : Nat) (h : powOk x (n : Int) = true) : powD (eI x) (eI (n : Int)) = some (eI (x ^ n)) := powD_int h
theorem dv_isiO {α : Type} {e : α → D} {T : Ty4} (h : ∀ a, isiD T (e a) = some (eB true)) (x : Option α) : isiD T (eO e x) = some (eB (!decide (x = none))) := by
  cases x with
  | none => rfl
  | some x => exact h x
theorem dv_isiF {α : Type} {e : α → D} {T : Ty4} (h : ∀ a, isiD T (e a) = some (eB false)) (x : Option α) : isiD T (eO e x) = some (eB false) := by
  cases x with
  | none => rfl
  | some x => exact h x
theorem dv_upper {x : Str} (h : x.length ≤ 5592405) : upperD (eS x) [] = some (eS (Txt.upper x)) := if_pos (Nat.ble_eq.mpr h)
theorem dv_lower {x : Str} (h : x.length ≤ 5592405) : lowerD (eS x) [] = some (eS (Txt.lower x)) := if_pos (Nat.ble_eq.mpr h)
def joinOk (a : Str) (ys : List Str) : Prop := (ys.map (·.length)).sum + ys.length * a.length ≤ 16777216
theorem dv_joinL {a : Str} {ys : List Str} (h : joinOk a ys) : joinD (eS a) [eL eS ys] = some (eS (Txt.join a ys)) := by
  show (strsOf (ys.map .str)).bind _ = _
  rw [strsOf_map]
  exact if_pos (Nat.ble_eq.mpr h)
theorem dv_joinT {a : Str} {ys : List Str} (h : joinOk a ys) : joinD (eS a) [eT eS ys] = some (eS (Txt.join a ys)) := by
  show (strsOf (ys.map .str)).bind _ = _
  rw [strsOf_map]
  exact if_pos (Nat.ble_eq.mpr h)
def splitOk (a b : Str) : Prop := b.length ≠ 0 ∧ a.length + 2 ≤ 16777216
theorem dv_split {a b : Str} (h : splitOk a b) : splitD (eS a) [eS b] = some (eL eS (Txt.split a b)) := by
  refine if_pos ?_
  rw [Bool.and_eq_true]
  exact ⟨by simpa using h.1, ble_lim h.2⟩
def repSt (x : Str) (n : Int) : Str := ⟨((List.replicate n.toNat x.cps.toList).flatten).toArray⟩
theorem dv_repS {x : Str} {n : Int} (h : n.natAbs ≤ 1000000 ∧ x.length * n.toNat ≤ 16777216) : repS (eS x) (eI n) = some (eS (repSt x n)) := by
  refine if_pos ?_
  rw [Bool.and_eq_true]
  exact ⟨Nat.ble_eq.mpr h.1, ble_lim h.2⟩
theorem dv_count {α : Type} [DecidableEq α] {e : α → D} {n : Nat} (h : EqE e n) (l : List α) (x : α) (hn : n ≤ 40 := by decide) : countD (eL e l) [e x] = some (eI ((l.count x : Nat) : Int)) := by
  show (if (plOk (l.map e) && dOk (e x)) = true then _ else _) = _
  rw [if_pos (by rw [plOk_map h l hn, h.ok hn]; rfl)]
  have : (l.map e).countP (fun y => PyData.eqv y (e x)) = l.count x := by
    rw [List.countP_map, List.count]
    refine List.countP_congr fun y _ => ?_
    show PyData.eqv (e y) (e x) = true ↔ _
    rw [h.eqv, beq_iff_eq]
  rw [this]
  rfl
theorem dv_index {α : Type} [DecidableEq α] {e : α → D} {n : Nat} (h : EqE e n) {l : List α} {x : α} (hx : x ∈ l) (hn : n ≤ 40 := by decide) : indexD (eL e l) [e x] = some (eI ((l.idxOf x : Nat) : Int)) := by
  show (if (plOk (l.map e) && dOk (e x)) = true then _ else _) = _
  rw [if_pos (by rw [plOk_map h l hn, h.ok hn]; rfl)]
  have : (l.map e).findIdx? (fun y => PyData.eqv y (e x)) = some (l.idxOf x) := by
    rw [List.findIdx?_map, List.findIdx?_eq_some_iff_getElem]
    have hl := List.idxOf_lt_length_of_mem hx
    refine ⟨hl, ?_, fun j hj => ?_⟩
    · show PyData.eqv (e _) (e x) = true
      rw [h.eqv]
      exact List.getElem_idxOf hl
    · show ¬ PyData.eqv (e _) (e x) = true
      rw [h.eqv]
      intro q
      have := List.not_of_lt_findIdx (p := (· == x)) (xs := l) (show j < l.findIdx (· == x) from hj)
      simp [q] at this
  rw [this]
  rfl
/-! lists of unlike items, as a set lists them -/
def uniqT {α : Type} [DecidableEq α] (l : List α) : List α := l.foldl (fun r x => if x ∈ r then r else r ++ [x]) []
theorem uniq_map {α : Type} [DecidableEq α] (k : α → Key) (hk : ∀ a b, k a = k b → a = b) : ∀ (l r : List α), (l.map k).foldl stepK (r.map k) = (l.foldl (fun r x => if x ∈ r then r else r ++ [x]) r).map k
  | [], _ => rfl
  | x :: l, r => by
    rw [List.map_cons, List.foldl_cons, List.foldl_cons]
    have e : stepK (r.map k) (k x) = (if x ∈ r then r else r ++ [x]).map k := by
      unfold stepK
      by_cases q : x ∈ r
      · rw [if_pos q, if_pos]
        rw [List.any_eq_true]
        exact ⟨k x, List.mem_map_of_mem q, decide_eq_true rfl⟩
      · rw [if_neg q, if_neg, List.map_append]
        · rfl
        · intro z
          obtain ⟨y, hy, e⟩ := List.any_eq_true.mp z
          obtain ⟨w, hw, rfl⟩ := List.mem_map.mp hy
          rw [hk _ _ (of_decide_eq_true e)] at hw
          exact q hw
    rw [e]
    exact uniq_map k hk l _
theorem keysQ_I : ∀ l : List Int, keysQ (l.map eI) = some (l.map Sum.inl)
  | [] => rfl
  | x :: l => by
    show ((keyQ (eI x)).bind fun k => (keysQ (l.map eI)).map fun ks => k :: ks) = _
    rw [keysQ_I l]
    rfl
theorem keysQ_S : ∀ l : List Str, keysQ (l.map eS) = some (l.map Sum.inr)
  | [] => rfl
  | x :: l => by
    show ((keyQ (eS x)).bind fun k => (keysQ (l.map eS)).map fun ks => k :: ks) = _
    rw [keysQ_S l]
    rfl
theorem dv_lensetI {l : List Int} (h : l.length < 4000) : lensetD (eL eI l) = some (eI (((uniqT l).length : Nat) : Int)) := by
  show (if Nat.blt (l.map eI).length 4000 = true then _ else _) = _
  rw [if_pos (by rw [List.length_map]; exact Nat.blt_eq.mpr h), keysQ_I]
  have := uniq_map (Sum.inl : Int → Key) (fun a b e => by injection e) l []
  show some (PyData.int ((uniq (l.map Sum.inl)).length : Int)) = _
  have e : uniq (l.map Sum.inl) = (uniqT l).map Sum.inl := this
  rw [e, List.length_map]
  rfl
theorem dv_lensetS {l : List Str} (h : l.length < 4000) : lensetD (eL eS l) = some (eI (((uniqT l).length : Nat) : Int)) := by
  show (if Nat.blt (l.map eS).length 4000 = true then _ else _) = _
  rw [if_pos (by rw [List.length_map]; exact Nat.blt_eq.mpr h), keysQ_S]
  have := uniq_map (Sum.inr : Str → Key) (fun a b e => by injection e) l []
  show some (PyData.int ((uniq (l.map Sum.inr)).length : Int)) = _
  have e : uniq (l.map Sum.inr) = (uniqT l).map Sum.inr := this
  rw [e, List.length_map]
  rfl
/-! with draws -/
theorem ev_seqM {T : String} {g : D → List D → Option D} {fa : Af} {x : D} (h : f ρ = some x) (ht : tyIs T x = true) (ha : Aw fa ρ fun as ρ1 => ∃ z, g x as = some z ∧ Q z ρ1) : Ev (seqM T g f fa) ρ Q := by
  obtain ⟨as, ρ1, h1, z, h2, h3⟩ := ha
  refine ⟨z, ρ1, ?_, h3⟩
  unfold seqM
  rw [h]
  show (if tyIs T x = true then _ else _) = _
  rw [if_pos ht, h1]
  show (g x as).map _ = _
  rw [h2]
  rfl
def Eo (f : Rho → Option (Option Int × Rho)) (ρ : Rho) (Q : Option Int → Rho → Prop) : Prop := ∃ o ρ', f ρ = some (o, ρ') ∧ Q o ρ'
theorem eo_none {Q : Option Int → Rho → Prop} (hq : Q none ρ) : Eo (oL oN) ρ Q := ⟨none, ρ, rfl, hq⟩
theorem eo_pure {Q : Option Int → Rho → Prop} {i : Int} (h : f ρ = some (eI i)) (hq : Q (some i) ρ) : Eo (oL (oI f)) ρ Q := ⟨some i, ρ, by unfold oL; rw [tvOI h]; rfl, hq⟩
theorem eo_eff {Q : Option Int → Rho → Prop} {fe : Ef} (h : Ev fe ρ fun d ρ1 => ∃ i, d = eI i ∧ Q (some i) ρ1) : Eo (oE fe) ρ Q := by
  obtain ⟨d, ρ1, h1, i, rfl, h2⟩ := h
  exact ⟨some i, ρ1, by unfold oE; rw [h1]; rfl, h2⟩
theorem ev_seqS {g : D → Option Int → Option Int → Option D} {fe : Ef} {fl fh : Rho → Option (Option Int × Rho)} (h : Ev fe ρ fun a ρ1 => Eo fl ρ1 fun l ρ2 => Eo fh ρ2 fun hi ρ3 => ∃ z, g a l hi = some z ∧ Q z ρ3) : Ev (seqS g fe fl fh) ρ Q := by
  obtain ⟨a, ρ1, h1, l, ρ2, h2, hi, ρ3, h3, z, h4, h5⟩ := h
  refine ⟨z, ρ3, ?_, h5⟩
  unfold seqS
  rw [h1]
  show (fl ρ1).bind _ = _
  rw [h2]
  show (fh ρ2).bind _ = _
  rw [h3]
  show (g a l hi).map _ = _
  rw [h4]
  rfl
theorem okp_app {α : Type} {enc : α → D} {l : List α} {x : α} {Q : D → List D → Prop} (hl : l.length < 16777216) (hq : Q .none ((l ++ [x]).map enc)) : OkP (gAppend (l.map enc) [enc x]) Q := by
  have : gAppend (l.map enc) [enc x] = some (.none, l.map enc ++ [enc x]) := if_pos (by rw [List.length_map]; exact hl)
  rw [this, okP_some]
  rw [List.map_append] at hq
  exact hq
theorem rng_1 {n : Int} (h : bndZ n) : rng [eI n] = some ((rg1 n).map eI) := by
  show (if bnd n = true then some (rgI 0 n.toNat) else none) = _
  rw [if_pos (bndZ_iff h), rg1_map]
theorem rng_2 {n m : Int} (h : bndZ n ∧ bndZ m) : rng [eI n, eI m] = some ((rg2 n m).map eI) := by
  show (if (bnd n && bnd m) = true then some (rgI n (m - n).toNat) else none) = _
  rw [bndZ_iff h.1, bndZ_iff h.2, Bool.and_self, if_pos rfl, rg2_map]
theorem sto_k {α : Type} {enc : α → D} {l : List α} {v : α} {n : Int} {i : Nat} {rest : Sf} {Q : Out → Prop} {w : List α → Prop} (ρ2 : List α → Rho) (ho : ownd i ρ = some (eL enc l)) (hx : ixOk l n) (hs : lt (setZ l n v) w) (hk : ∀ x, w x → Rn rest (ρ2 x) Q) (h : ∀ x : List α, wr i (eL enc x) ρ = ρ2 x := by intro _; rfl) :
    ∃ ds k j, eI n = .int k ∧ ownd i ρ = some (.list ds) ∧ ixN ds.length k = some j ∧ Rn rest (wr i (.list (ds.set j (enc v))) ρ) Q := by
  refine ⟨l.map enc, n, _, rfl, ho, ixN_ok (n := (l.map enc).length) (by rw [List.length_map]; exact hx), ?_⟩
  rw [List.length_map, setZ_map]
  have e := h (setZ l n v)
  show Rn rest (wr i (eL enc (setZ l n v)) ρ) Q
  rw [e]
  exact hk _ hs
theorem rn_augW {i : Nat} {gd : D → D → Option D} {fe : Ef} {rest : Sf} {Q : Out → Prop} {a : D} (h0 : vP i ρ = some a) (h : Ev fe ρ fun b ρ1 => ∃ z ρ2, gd a b = some z ∧ setP i z ρ1 = some ρ2 ∧ Rn rest ρ2 Q) : Rn (sSeq (sAug i gd fe) rest) ρ Q := by
  obtain ⟨b, ρ1, h1, z, ρ2, h2, h3, h4⟩ := h
  refine seq_nx ?_ h4
  unfold sAug
  rw [h0]
  show (fe ρ).bind _ = _
  rw [h1]
  show (gd a b).bind _ = _
  rw [h2]
  show (setP i z ρ1).map _ = _
  rw [h3]
  rfl
theorem aug_k {i : Nat} {rest : Sf} {Q : Out → Prop} {e0 e : Int} {w : Int → Prop} (ρ2 : Int → Rho) (hs : lt (e0 + e) w) (hk : ∀ x, w x → Rn rest (ρ2 x) Q) (h : ∀ x : Int, setP i (eI x) ρ = some (ρ2 x) := by intro _; rfl) : ∃ z ρ', augI (eI e0) (eI e) = some z ∧ setP i z ρ = some ρ' ∧ Rn rest ρ' Q :=
  ⟨eI (e0 + e), _, rfl, h _, hk _ hs⟩
theorem rn_draws {i : Nat} {a : Rho → Option (List D)} {g : List D → Option D} {rest : Sf} {Q : Out → Prop} {ds : List D} (ρ2 : D → Rho) (hg : ∃ c, g ds = some c ∧ Dr c) (hk : ∀ c, Dr c → Rn rest (ρ2 c) Q) (ha : a ρ = some ds := by rfl) (h : ∀ c, setO i c ρ = some (ρ2 c) := by intro _; rfl) : Rn (sSeq (sSetO i (lift (puA g a))) rest) ρ Q := by
  obtain ⟨c, h1, h2⟩ := hg
  exact seq_nx (by rw [sSetO_eq, lift_eq, puA_eq, ha]; show (((g ds).map fun d => (d, ρ)).bind _) = _; rw [h1]; show (setO i c ρ).map _ = _; rw [h]; rfl) (hk c h2)
/-- a common point behind both ways of an if -/
def jQ {σ : Type} (R : σ → D → Rho) (K : σ → Prop) (Q : Out → Prop) : Out → Prop
  | .nx ρ => ∃ st c, Dr c ∧ ρ = R st c ∧ K st
  | .rt d ρ => Q (.rt d ρ)
  | .bk ρ => Q (.bk ρ)
  | .ct ρ => Q (.ct ρ)
theorem rn_mid {σ : Type} {s rest : Sf} {Q : Out → Prop} {w : σ → Prop} {wi : (σ → Prop) → Prop} (R : σ → D → Rho) (hw : lt w wi) (hi : ∀ K : σ → Prop, wi K → Rn s ρ (jQ R K Q)) (hr : ∀ st c, Dr c → w st → Rn rest (R st c) Q) : Rn (sSeq s rest) ρ Q := by
  obtain ⟨o, h1, h2⟩ := hi w hw
  cases o with
  | nx ρ' =>
    obtain ⟨st, c, hc, e, hk⟩ := h2
    subst e
    exact seq_nx h1 (hr st c hc hk)
  | bk ρ' => exact ⟨.bk ρ', by unfold sSeq; rw [h1]; rfl, h2⟩
  | ct ρ' => exact ⟨.ct ρ', by unfold sSeq; rw [h1]; rfl, h2⟩
  | rt d ρ' => exact ⟨.rt d ρ', by unfold sSeq; rw [h1]; rfl, h2⟩
end
/-! insert, aug of an item -/
section
variable {α β : Type} {K : β → Out → Prop} {ρ : Rho} {rest : Sf} {i : Nat} {f1 f2 : Rho → Option D}
def insZ (l : List α) (i : Int) (v : α) : List α := l.take i.toNat ++ [v] ++ l.drop i.toNat
def insOk (l : List α) (i : Int) : Prop := l.length < 16777216 ∧ 0 ≤ i ∧ i < 4611686018427387904
theorem rn_ins {enc : α → D} {l : List α} {e : α} {n : Int} {k : List α → β} {s2 : List α → Prop} (ρ2 : List α → Rho) (ho : ownd i ρ = some (eL enc l)) (hn : f1 ρ = some (eI n)) (hf : f2 ρ = some (enc e)) (hl : insOk l n) (hs : lt (insZ l n e) s2) (hk : ∀ x, s2 x → Rn rest (ρ2 x) (Kf K (k x))) (h : ∀ x : List α, wr i (eL enc x) ρ = ρ2 x := by intro _; rfl) :
    Rn (sSeq (sEx (mutE i gInsert (liftA (aC f1 (aC f2 aN))))) rest) ρ (Kf K (lt (insZ l n e) k)) := by
  refine seq_nx ?_ (hk _ hs)
  rw [sEx_eq]
  unfold mutE
  rw [ho]
  show Option.map _ (((liftA (aC f1 (aC f2 aN))) ρ).bind _) = _
  rw [liftA_eq, aC_eq, hn, Option.bind_some, aC_eq, hf]
  show Option.map _ ((ownd i ρ).bind _) = _
  rw [ho]
  show Option.map _ ((gInsert (l.map enc) [.int n, enc e]).map _) = _
  have : gInsert (l.map enc) [.int n, enc e] = some (.none, (l.map enc).take n.toNat ++ [enc e] ++ (l.map enc).drop n.toNat) := if_pos (by
    rw [Bool.and_eq_true, Bool.and_eq_true, Nat.blt_eq, Nat.blt_eq, decide_eq_true_iff, List.length_map]
    exact ⟨⟨hl.1, hl.2.1⟩, by have := hl.2.2; omega⟩)
  rw [this]
  show some (Out.nx (wr i (.list ((l.map enc).take n.toNat ++ [enc e] ++ (l.map enc).drop n.toNat)) ρ)) = _
  have e2 : PyData.list ((l.map enc).take n.toNat ++ [enc e] ++ (l.map enc).drop n.toNat) = eL enc (insZ l n e) := by simp [eL, insZ]
  rw [e2, h]
theorem rn_augS {l : List Int} {e n : Int} {k : List Int → β} {s2 : List Int → Prop} (ρ2 : List Int → Rho) (ho : ownd i ρ = some (eL eI l)) (hn : f1 ρ = some (eI n)) (hf : f2 ρ = some (eI e)) (hx : ixOk l n) (hs : lt (setZ l n (atZ l n + e)) s2) (hk : ∀ x, s2 x → Rn rest (ρ2 x) (Kf K (k x))) (h : ∀ x : List Int, wr i (eL eI x) ρ = ρ2 x := by intro _; rfl) :
    Rn (sSeq (augSt i f1 augI (lift f2)) rest) ρ (Kf K (lt (setZ l n (atZ l n + e)) k)) := by
  refine seq_nx ?_ (hk _ hs)
  unfold augSt
  rw [ho]
  show ((f1 ρ).bind _) = _
  rw [hn]
  show ((atI (l.map eI) n).bind _) = _
  rw [atI_map hx]
  show ((lift f2 ρ).bind _) = _
  rw [lift_eq, hf]
  show ((ownd i ρ).bind _) = _
  rw [ho]
  show ((ixN (l.map eI).length n).map _) = _
  rw [ixN_ok (n := (l.map eI).length) (by rw [List.length_map]; exact hx), List.length_map]
  show some (Out.nx (wr i (.list ((l.map eI).set _ (eI (atZ l n + e)))) ρ)) = _
  rw [setZ_map]
  exact congrArg (fun q => some (Out.nx q)) (h _)
end
end DL
namespace DL
open L2 PyProof.Rows PySem PySem.Spec
/-! ## plain facts on what the typed functions speak of -/
@[simp] theorem lt_app {α β : Type} (a : α) (f : α → β) : lt a f = f a := rfl
theorem mem_rg1 {x n : Int} : x ∈ rg1 n ↔ 0 ≤ x ∧ x < n := by
  unfold rg1
  rw [List.mem_map]
  constructor
  · rintro ⟨i, hi, rfl⟩
    have := List.mem_range.mp hi
    omega
  · rintro ⟨h0, h1⟩
    exact ⟨x.toNat, List.mem_range.mpr (by omega), by omega⟩
theorem mem_rg2 {x lo hi : Int} : x ∈ rg2 lo hi ↔ lo ≤ x ∧ x < hi := by
  unfold rg2
  rw [List.mem_map]
  constructor
  · rintro ⟨i, hi, rfl⟩
    have := List.mem_range.mp hi
    omega
  · rintro ⟨h0, h1⟩
    exact ⟨(x - lo).toNat, List.mem_range.mpr (by omega), by omega⟩
@[simp] theorem len_rg1 {n : Int} : (rg1 n).length = n.toNat := by simp [rg1]
@[simp] theorem len_rg2 {lo hi : Int} : (rg2 lo hi).length = (hi - lo).toNat := by simp [rg2]
theorem rg1_nat (n : Nat) : rg1 (n : Int) = (List.range n).map fun i : Nat => (i : Int) := by simp [rg1]
theorem rg1_succ (n : Nat) : rg1 ((n + 1 : Nat) : Int) = rg1 (n : Int) ++ [(n : Int)] := by rw [rg1_nat, rg1_nat, List.range_succ, List.map_append]; rfl
theorem rg1_zero : rg1 0 = [] := rfl
theorem nodup_rg1 (n : Int) : (rg1 n).Nodup := by
  unfold rg1
  exact List.Pairwise.map _ (fun a b (h : a ≠ b) => by omega) List.nodup_range
section
variable {α β σ : Type}
theorem ixOk_nat {l : List α} {i : Nat} : ixOk l (i : Int) ↔ i < l.length := by unfold ixOk; omega
theorem ixOk_pos {l : List α} {i : Int} (h0 : 0 ≤ i) (h1 : i < l.length) : ixOk l i := ⟨by omega, h1⟩
theorem ixOk_m1 {l : List α} (h : l ≠ []) : ixOk l (-1) := by
  have : 0 < l.length := List.length_pos_iff.mpr h
  exact ⟨by omega, by omega⟩
theorem atZ_nat [Inhabited α] {l : List α} {i : Nat} : atZ l (i : Int) = l.getD i default := by
  unfold atZ
  rw [if_neg (by omega), Int.toNat_natCast]
theorem atZ_pos [Inhabited α] {l : List α} {i : Int} (h : 0 ≤ i) : atZ l i = l.getD i.toNat default := by
  unfold atZ
  rw [if_neg (by omega)]
theorem atZ_get [Inhabited α] {l : List α} {i : Nat} (h : i < l.length) : atZ l (i : Int) = l[i] := by
  rw [atZ_nat, List.getD, List.getElem?_eq_getElem h]
  rfl
theorem atZ_getZ [Inhabited α] {l : List α} {i : Int} (h : 0 ≤ i) (h1 : i.toNat < l.length) : atZ l i = l[i.toNat] := by
  rw [atZ_pos h, List.getD, List.getElem?_eq_getElem h1]
  rfl
theorem atZ_mem [Inhabited α] {l : List α} {i : Int} (h : ixOk l i) : atZ l i ∈ l := by
  obtain ⟨h1, h2⟩ := h
  unfold atZ
  split
  · have e : ((l.length : Int) + i).toNat < l.length := by omega
    rw [List.getD, List.getElem?_eq_getElem e]
    exact List.getElem_mem _
  · have e : i.toNat < l.length := by omega
    rw [List.getD, List.getElem?_eq_getElem e]
    exact List.getElem_mem _
theorem atZ_m1 [Inhabited α] {l : List α} (h : l ≠ []) : atZ l (-1) = l.getLast h := by
  have : 0 < l.length := List.length_pos_iff.mpr h
  have e : ((l.length : Int) + -1).toNat < l.length := by omega
  unfold atZ
  rw [if_pos (by omega), List.getD, List.getElem?_eq_getElem e, List.getLast_eq_getElem]
  show l[_] = l[_]
  congr 1
  omega
theorem atZ_map [Inhabited α] [Inhabited β] {f : α → β} {l : List α} {i : Int} (h : ixOk l i) : atZ (l.map f) i = f (atZ l i) := by
  obtain ⟨h1, h2⟩ := h
  unfold atZ
  rw [List.length_map]
  split
  · have e : ((l.length : Int) + i).toNat < l.length := by omega
    rw [List.getD, List.getD, List.getElem?_map, List.getElem?_eq_getElem e]
    rfl
  · have e : i.toNat < l.length := by omega
    rw [List.getD, List.getD, List.getElem?_map, List.getElem?_eq_getElem e]
    rfl
/-! parts -/
theorem sIx_none' (n d : Nat) : HT.sIx n d none = d := rfl
theorem cut_take {l : List α} {n : Int} (h : 0 ≤ n) : cutD l none (some n) = l.take n.toNat := by
  have e : HT.sIx l.length l.length (some n) = min n.toNat l.length := by
    show (if n < 0 then _ else _) = _
    rw [if_neg (by omega)]
  unfold cutD
  rw [e]
  show (l.drop 0).take (min n.toNat l.length - 0) = _
  rw [List.drop_zero, Nat.sub_zero]
  by_cases q : n.toNat ≤ l.length
  · rw [Nat.min_eq_left q]
  · rw [Nat.min_eq_right (by omega), List.take_length, List.take_of_length_le (by omega)]
theorem cut_drop {l : List α} {n : Int} (h : 0 ≤ n) : cutD l (some n) none = l.drop n.toNat := by
  have e : HT.sIx l.length 0 (some n) = min n.toNat l.length := by
    show (if n < 0 then _ else _) = _
    rw [if_neg (by omega)]
  unfold cutD
  rw [e]
  show (l.drop (min n.toNat l.length)).take (l.length - min n.toNat l.length) = _
  by_cases q : n.toNat ≤ l.length
  · rw [Nat.min_eq_left q, List.take_of_length_le (by rw [List.length_drop]; omega)]
  · rw [Nat.min_eq_right (by omega), List.drop_length, List.drop_of_length_le (by omega), List.take_nil]
theorem cut_last {l : List α} : cutD l none (some (-1)) = l.dropLast := by
  have e : HT.sIx l.length l.length (some (-1)) = l.length - 1 := by
    show (if (-1 : Int) < 0 then (-1 + (l.length : Int)).toNat else min (-1 : Int).toNat l.length) = _
    rw [if_pos (by omega)]
    omega
  unfold cutD
  rw [e]
  show (l.drop 0).take (l.length - 1 - 0) = _
  rw [List.drop_zero, Nat.sub_zero, List.dropLast_eq_take]
theorem cut_mid {l : List α} {n m : Int} (h : 0 ≤ n) (hm : n ≤ m) : cutD l (some n) (some m) = (l.drop n.toNat).take (m.toNat - n.toNat) := by
  have e : HT.sIx l.length 0 (some n) = min n.toNat l.length := by
    show (if n < 0 then _ else _) = _
    rw [if_neg (by omega)]
  have e2 : HT.sIx l.length l.length (some m) = min m.toNat l.length := by
    show (if m < 0 then _ else _) = _
    rw [if_neg (by omega)]
  unfold cutD
  rw [e, e2]
  by_cases q : n.toNat ≤ l.length
  · rw [Nat.min_eq_left q]
    by_cases q2 : m.toNat ≤ l.length
    · rw [Nat.min_eq_left q2]
    · rw [Nat.min_eq_right (by omega), List.take_of_length_le (by rw [List.length_drop]; omega), List.take_of_length_le (by rw [List.length_drop]; omega)]
  · have q3 : min n.toNat l.length = l.length := Nat.min_eq_right (by omega)
    rw [q3, List.drop_length, List.drop_of_length_le (i := n.toNat) (by omega), List.take_nil, List.take_nil]
/-! loops that follow a known function -/
theorem foldl_pre {step : σ → α → σ} (F : List α → σ) : ∀ (l p : List α), (∀ q x r, p ++ l = q ++ x :: r → step (F q) x = F (q ++ [x])) → l.foldl step (F p) = F (p ++ l)
  | [], p, _ => by simp
  | x :: r, p, h => by
    rw [List.foldl_cons, h p x r rfl, foldl_pre F r (p ++ [x]) fun q y s e => h q y s (by rw [← e]; simp)]
    simp
theorem foldl_of {step : σ → α → σ} {init : σ} (F : List α → σ) (l : List α) (h0 : F [] = init) (h : ∀ q x r, l = q ++ x :: r → step (F q) x = F (q ++ [x])) : l.foldl step init = F l := by
  have := foldl_pre F l [] h
  rw [h0] at this
  exact this
theorem foldS_pre {S : σ → α → Prop} {step : σ → α → σ} (F : List α → σ) : ∀ (l p : List α), (∀ q x r, p ++ l = q ++ x :: r → S (F q) x ∧ step (F q) x = F (q ++ [x])) → foldS S step (F p) l
  | [], _, _ => trivial
  | x :: r, p, h => by
    obtain ⟨h1, h2⟩ := h p x r rfl
    refine ⟨h1, ?_⟩
    rw [h2]
    exact foldS_pre F r (p ++ [x]) fun q y s e => h q y s (by rw [← e]; simp)
theorem foldS_of {S : σ → α → Prop} {step : σ → α → σ} {init : σ} (F : List α → σ) (l : List α) (h0 : F [] = init) (h : ∀ q x r, l = q ++ x :: r → S (F q) x ∧ step (F q) x = F (q ++ [x])) : foldS S step init l := by
  have := foldS_pre F l [] h
  rw [h0] at this
  exact this
/-- .. by an invariant -/
theorem foldS_inv {S : σ → α → Prop} {step : σ → α → σ} (I : σ → Prop) : ∀ (l : List α) (s : σ), I s → (∀ s x, x ∈ l → I s → S s x ∧ I (step s x)) → foldS S step s l
  | [], _, _, _ => trivial
  | x :: r, s, h0, h => by
    obtain ⟨h1, h2⟩ := h s x List.mem_cons_self h0
    exact ⟨h1, foldS_inv I r _ h2 fun s y hy => h s y (List.mem_cons_of_mem _ hy)⟩
theorem foldl_inv {step : σ → α → σ} (I : σ → Prop) : ∀ (l : List α) (s : σ), I s → (∀ s x, x ∈ l → I s → I (step s x)) → I (l.foldl step s)
  | [], _, h, _ => h
  | x :: r, s, h0, h => foldl_inv I r _ (h s x List.mem_cons_self h0) fun s y hy => h s y (List.mem_cons_of_mem _ hy)
theorem rg1_split {n : Nat} {q r : List Int} {x : Int} (h : rg1 (n : Int) = q ++ x :: r) : q.length < n ∧ x = (q.length : Int) ∧ q = rg1 (q.length : Int) := by
  have hl : (rg1 (n : Int)).length = n := by simp
  have h2 := congrArg List.length h
  rw [hl] at h2
  simp at h2
  have hx : (rg1 (n : Int))[q.length]? = some x := by rw [h]; simp
  have hq : (rg1 (n : Int)).take q.length = q := by rw [h]; simp
  refine ⟨by omega, ?_, ?_⟩
  · rw [rg1_nat, List.getElem?_map, List.getElem?_range (by omega)] at hx
    simpa using hx.symm
  · have h3 : min q.length n = q.length := Nat.min_eq_left (by omega)
    have h4 := hq
    rw [rg1_nat, ← List.map_take, List.take_range, h3] at h4
    rw [rg1_nat]
    exact h4.symm
theorem fold_rg1 {step : σ → Int → σ} {init : σ} (n : Nat) (F : Nat → σ) (h0 : F 0 = init) (h : ∀ i, i < n → step (F i) (i : Int) = F (i + 1)) : (rg1 (n : Int)).foldl step init = F n := by
  rw [foldl_of (fun q => F q.length) (rg1 (n : Int)) h0 fun q x r e => by
    obtain ⟨h1, h2, _⟩ := rg1_split e
    rw [h2, h _ h1]
    simp]
  simp
theorem foldS_rg1 {S : σ → Int → Prop} {step : σ → Int → σ} {init : σ} (n : Nat) (F : Nat → σ) (h0 : F 0 = init) (h : ∀ i, i < n → S (F i) (i : Int) ∧ step (F i) (i : Int) = F (i + 1)) : foldS S step init (rg1 (n : Int)) :=
  foldS_of (fun q => F q.length) (rg1 (n : Int)) h0 fun q x r e => by
    obtain ⟨h1, h2, _⟩ := rg1_split e
    rw [h2]
    obtain ⟨a, b⟩ := h _ h1
    exact ⟨a, by rw [b]; simp⟩
/-- a loop that leaves at the first item with a property -/
theorem loopC_all {step : σ → α → Ctl σ β} (F : List α → σ) (l : List α) {init : σ} (h0 : F [] = init) (h : ∀ q x r, l = q ++ x :: r → step (F q) x = .nx (F (q ++ [x]))) : loopC step init l = .nx (F l) := by
  have key : ∀ (l p : List α), (∀ q x r, p ++ l = q ++ x :: r → step (F q) x = .nx (F (q ++ [x]))) → loopC step (F p) l = .nx (F (p ++ l)) := by
    intro l
    induction l with
    | nil => intro p _; simp [loopC]
    | cons x r ih =>
      intro p h
      unfold loopC
      rw [h p x r rfl]
      show loopC step (F (p ++ [x])) r = _
      rw [ih (p ++ [x]) fun q y s e => h q y s (by rw [← e]; simp)]
      simp
  have := key l [] h
  rw [h0] at this
  exact this
theorem loopS_inv {S : σ → α → Prop} {step : σ → α → Ctl σ β} (I : σ → Prop) : ∀ (l : List α) (s : σ), I s → (∀ s x, x ∈ l → I s → S s x ∧ ∀ s', step s x = .nx s' → I s') → loopS S step s l
  | [], _, _, _ => trivial
  | x :: r, s, h0, h => by
    obtain ⟨h1, h2⟩ := h s x List.mem_cons_self h0
    refine ⟨h1, ?_⟩
    cases e : step s x with
    | nx s' => exact loopS_inv I r s' (h2 s' e) fun s y hy => h s y (List.mem_cons_of_mem _ hy)
    | bk _ => trivial
    | rt _ => trivial
/-- W-loops whose state is known but for draws -/
theorem loopW_unit {w : Unit → α → (Unit → Prop) → Prop} {K : Unit → Prop} (xs : List α) (h : ∀ x, x ∈ xs → ∀ Q : Unit → Prop, Q () → w () x Q) (hk : K ()) : loopW w () xs K := by
  refine loopW_of (fun r _ => ∀ x, x ∈ r → x ∈ xs) xs () (fun _ h => h) (fun x r s hr Q hq => ?_) fun _ _ => hk
  exact h x (hr x List.mem_cons_self) Q (hq () fun y hy => hr y (List.mem_cons_of_mem _ hy))
theorem loopW_inv {w : σ → α → (σ → Prop) → Prop} (I : σ → Prop) {K : σ → Prop} (xs : List α) (s : σ) (h0 : I s) (h : ∀ s x, x ∈ xs → I s → ∀ Q : σ → Prop, (∀ s', I s' → Q s') → w s x Q) (hk : ∀ s, I s → K s) : loopW w s xs K := by
  refine loopW_of (fun r s => (∀ x, x ∈ r → x ∈ xs) ∧ I s) xs s ⟨fun _ h => h, h0⟩ (fun x r s hr Q hq => ?_) fun s hs => hk s hs.2
  exact h s x (hr.1 x List.mem_cons_self) hr.2 Q fun s' hs' => hq s' ⟨fun y hy => hr.1 y (List.mem_cons_of_mem _ hy), hs'⟩
end
theorem bndZ_len {n : Nat} (h : n ≤ 1000000000) : bndZ (n : Int) := ⟨by omega, by omega⟩
theorem bndZ_small {n : Int} (h : -1000000000 ≤ n) (h1 : n ≤ 1000000000) : bndZ n := ⟨by omega, by omega⟩
theorem not_dec {p : Prop} [Decidable p] (h : p) : (!decide p) = false := by rw [decide_eq_true h]; rfl
/-! uniqT -/
theorem uniq_nodup {α : Type} [DecidableEq α] (l : List α) (h : l.Nodup) : uniqT l = l := by
  have key : ∀ (l r : List α), (r ++ l).Nodup → l.foldl (fun r x => if x ∈ r then r else r ++ [x]) r = r ++ l := by
    intro l
    induction l with
    | nil => intro r _; simp
    | cons x l ih =>
      intro r h
      have hx : ¬ x ∈ r := fun hm => by
        rw [List.nodup_append] at h
        exact h.2.2 x hm x List.mem_cons_self rfl
      rw [List.foldl_cons, if_neg hx, ih (r ++ [x]) (by rw [List.append_assoc]; exact h)]
      simp
  exact key l [] h
theorem uniq_mem {α : Type} [DecidableEq α] (l : List α) {x : α} : x ∈ uniqT l ↔ x ∈ l := by
  have key : ∀ (l r : List α), x ∈ l.foldl (fun r x => if x ∈ r then r else r ++ [x]) r ↔ x ∈ r ∨ x ∈ l := by
    intro l
    induction l with
    | nil => intro r; simp
    | cons y l ih =>
      intro r
      rw [List.foldl_cons, ih]
      by_cases q : y ∈ r
      · rw [if_pos q]
        constructor
        · rintro (h | h)
          · exact .inl h
          · exact .inr (List.mem_cons_of_mem _ h)
        · rintro (h | h)
          · exact .inl h
          · rcases List.mem_cons.mp h with rfl | h
            · exact .inl q
            · exact .inr h
      · rw [if_neg q]
        simp [or_assoc]
  have := key l []
  unfold uniqT
  rw [this]
  simp
theorem uniq_nd {α : Type} [DecidableEq α] (l : List α) : (uniqT l).Nodup := by
  have key : ∀ (l r : List α), r.Nodup → (l.foldl (fun r x => if x ∈ r then r else r ++ [x]) r).Nodup := by
    intro l
    induction l with
    | nil => intro r h; exact h
    | cons y l ih =>
      intro r h
      rw [List.foldl_cons]
      refine ih _ ?_
      by_cases q : y ∈ r
      · rw [if_pos q]; exact h
      · rw [if_neg q, List.nodup_append]
        exact ⟨h, by simp, fun a ha b hb e => q (by rw [← List.mem_singleton.mp hb, ← e]; exact ha)⟩
  exact key l [] List.nodup_nil
end DL
namespace DL
open L2 PyProof.Rows PySem PySem.Spec
/-! ## texts -/
theorem str_len (x : Str) : x.length = x.cps.toList.length := by simp [Str.length]
theorem str_ext {x y : Str} (h : x.cps.toList = y.cps.toList) : x = y := TL.ext_tl h
theorem str_app (x y : Str) : (x ++ y).cps.toList = x.cps.toList ++ y.cps.toList := TL.tl_append x y
theorem str_app_len (x y : Str) : (x ++ y).length = x.length + y.length := by rw [str_len, str_app, List.length_append, ← str_len, ← str_len]
theorem join_tl (a : Str) (ys : List Str) : (Txt.join a ys).cps.toList = TL.joinL a.cps.toList (ys.map fun y => y.cps.toList) := by
  rw [TL.join_eq]
  exact TL.tl_join a ys
theorem joinL_nil : ∀ ys : List (List Nat), TL.joinL [] ys = ys.flatten
  | [] => rfl
  | [p] => by simp [TL.joinL]
  | p :: q :: r => by
    show p ++ ([] ++ TL.joinL [] (q :: r)) = _
    rw [joinL_nil (q :: r)]
    simp
theorem join_empty {a : Str} (ha : a.cps.toList = []) (ys : List Str) : (Txt.join a ys).cps.toList = (ys.map fun y => y.cps.toList).flatten := by rw [join_tl, ha, joinL_nil]
@[simp] theorem chZ_tl (x : Str) (i : Int) : (chZ x i).cps.toList = [atZ x.cps.toList i] := rfl
@[simp] theorem chZ_len (x : Str) (i : Int) : (chZ x i).length = 1 := rfl
theorem sum_len_le {ys : List Str} {k : Nat} (h : ∀ y, y ∈ ys → y.length ≤ k) : (ys.map (·.length)).sum ≤ ys.length * k := by
  induction ys with
  | nil => simp
  | cons y ys ih =>
    have h1 := h y List.mem_cons_self
    have h2 := ih fun z hz => h z (List.mem_cons_of_mem _ hz)
    rw [List.map_cons, List.sum_cons, List.length_cons, Nat.succ_mul]
    omega
theorem join_empty_len {a : Str} (ha : a.cps.toList = []) (ys : List Str) : (Txt.join a ys).length = (ys.map (·.length)).sum := by
  rw [str_len, join_empty ha, List.length_flatten, List.map_map]
  refine congrArg _ (List.map_congr_left fun y _ => ?_)
  exact (str_len y).symm
theorem joinOk_small {a : Str} {ys : List Str} {k : Nat} (h : ∀ y, y ∈ ys → y.length ≤ k) (hk : ys.length * k + ys.length * a.length ≤ 16777216) : joinOk a ys := by
  have := sum_len_le h
  unfold joinOk
  omega
/-! ## orders -/
structure LtOk {α : Type} (lt : α → α → Bool) : Prop where
  asym : ∀ a b, lt a b = true → lt b a = false
  trans : ∀ a b c, lt a b = true → lt b c = true → lt a c = true
  tri : ∀ a b, lt a b = false → lt b a = false → a = b
section
variable {α β : Type} {l : α → α → Bool} {lb : β → β → Bool}
theorem LtOk.irr (h : LtOk l) (a : α) : l a a = false := by
  cases e : l a a with
  | false => rfl
  | true => exact absurd (h.asym a a e) (by rw [e]; exact Bool.noConfusion)
theorem LtOk.ltrans (h : LtOk l) {a b c : α} (h1 : l b a = false) (h2 : l c b = false) : l c a = false := by
  cases e : l c a with
  | false => rfl
  | true =>
    cases e2 : l a b with
    | true => rw [h.trans c a b e e2] at h2; cases h2
    | false =>
      have := h.tri a b e2 h1
      subst this
      rw [e] at h2
      cases h2
theorem loI : LtOk ltI := ⟨fun a b h => by have := of_decide_eq_true h; exact decide_eq_false (by omega), fun a b c h1 h2 => by have := of_decide_eq_true h1; have := of_decide_eq_true h2; exact decide_eq_true (by omega), fun a b h1 h2 => by have := of_decide_eq_false h1; have := of_decide_eq_false h2; omega⟩
theorem loB : LtOk ltB := ⟨by decide, by decide, by decide⟩
theorem loL [DecidableEq α] (h : LtOk l) : LtOk (ltL l) := by
  refine ⟨?_, ?_, ?_⟩
  · intro a
    induction a with
    | nil => intro b e; cases b <;> first | rfl | cases e
    | cons x xs ih =>
      intro b e
      cases b with
      | nil => cases e
      | cons y ys =>
        simp only [ltL] at e ⊢
        by_cases q : x = y
        · subst q
          rw [if_pos rfl] at e ⊢
          exact ih _ e
        · rw [if_neg q] at e
          rw [if_neg fun z => q z.symm]
          exact h.asym _ _ e
  · intro a
    induction a with
    | nil => intro b c e1 e2; cases b <;> cases c <;> first | rfl | (cases e2; done) | (cases e1; done)
    | cons x xs ih =>
      intro b c e1 e2
      cases b with
      | nil => cases e1
      | cons y ys =>
        cases c with
        | nil => cases e2
        | cons z zs =>
          simp only [ltL] at e1 e2 ⊢
          by_cases q : x = y
          · subst q
            rw [if_pos rfl] at e1
            by_cases q2 : x = z
            · subst q2
              rw [if_pos rfl] at e2 ⊢
              exact ih _ _ e1 e2
            · rw [if_neg q2] at e2 ⊢
              exact e2
          · rw [if_neg q] at e1
            by_cases q2 : y = z
            · subst q2
              rw [if_neg q]
              exact e1
            · rw [if_neg q2] at e2
              have e3 := h.trans _ _ _ e1 e2
              by_cases q3 : x = z
              · subst q3
                rw [h.irr] at e3
                cases e3
              · rw [if_neg q3]
                exact e3
  · intro a
    induction a with
    | nil => intro b e1 e2; cases b <;> first | rfl | cases e1 | cases e2
    | cons x xs ih =>
      intro b e1 e2
      cases b with
      | nil => cases e2
      | cons y ys =>
        simp only [ltL] at e1 e2
        by_cases q : x = y
        · subst q
          rw [if_pos rfl] at e1 e2
          rw [ih _ e1 e2]
        · rw [if_neg q] at e1
          rw [if_neg fun z => q z.symm] at e2
          exact absurd (h.tri _ _ e1 e2) q
theorem loP [DecidableEq α] [DecidableEq β] (ha : LtOk l) (hb : LtOk lb) : LtOk (ltP l lb) := by
  refine ⟨fun a b e => ?_, fun a b c e1 e2 => ?_, fun a b e1 e2 => ?_⟩
  · unfold ltP at e ⊢
    by_cases q : a.1 = b.1
    · rw [if_pos q] at e
      rw [if_pos q.symm]
      exact hb.asym _ _ e
    · rw [if_neg q] at e
      rw [if_neg fun z => q z.symm]
      exact ha.asym _ _ e
  · unfold ltP at e1 e2 ⊢
    by_cases q : a.1 = b.1
    · rw [if_pos q] at e1
      by_cases q2 : b.1 = c.1
      · rw [if_pos q2] at e2
        rw [if_pos (q.trans q2)]
        exact hb.trans _ _ _ e1 e2
      · rw [if_neg q2] at e2
        rw [q, if_neg q2]
        exact e2
    · rw [if_neg q] at e1
      by_cases q2 : b.1 = c.1
      · rw [← q2, if_neg q]
        exact e1
      · rw [if_neg q2] at e2
        have e3 := ha.trans _ _ _ e1 e2
        by_cases q3 : a.1 = c.1
        · rw [q3, ha.irr] at e3
          cases e3
        · rw [if_neg q3]
          exact e3
  · unfold ltP at e1 e2
    by_cases q : a.1 = b.1
    · rw [if_pos q] at e1
      rw [if_pos q.symm] at e2
      exact Prod.ext q (hb.tri _ _ e1 e2)
    · rw [if_neg q] at e1
      rw [if_neg fun z => q z.symm] at e2
      exact absurd (ha.tri _ _ e1 e2) q
theorem natlex : ∀ a b : List Nat, decide (a < b) = ltL (fun x y : Nat => decide (x < y)) a b
  | [], [] => by simp [ltL]
  | [], _ :: _ => by simp [ltL]
  | _ :: _, [] => by simp [ltL]
  | x :: xs, y :: ys => by
    simp only [ltL]
    rw [← natlex xs ys]
    by_cases q : x = y
    · subst q
      rw [if_pos rfl, decide_eq_decide, List.cons_lt_cons_iff]
      simp
    · rw [if_neg q, decide_eq_decide, List.cons_lt_cons_iff]
      simp [q]
theorem loN : LtOk (fun x y : Nat => decide (x < y)) := ⟨fun a b h => by have := of_decide_eq_true h; exact decide_eq_false (by omega), fun a b c h1 h2 => by have := of_decide_eq_true h1; have := of_decide_eq_true h2; exact decide_eq_true (by omega), fun a b h1 h2 => by have := of_decide_eq_false h1; have := of_decide_eq_false h2; omega⟩
theorem loS : LtOk ltS := by
  have h := loL loN
  refine ⟨fun a b e => ?_, fun a b c e1 e2 => ?_, fun a b e1 e2 => ?_⟩
  · unfold ltS at e ⊢
    rw [natlex] at e ⊢
    exact h.asym _ _ e
  · unfold ltS at e1 e2 ⊢
    rw [natlex] at e1 e2 ⊢
    exact h.trans _ _ _ e1 e2
  · unfold ltS at e1 e2
    rw [natlex] at e1 e2
    exact str_ext (h.tri _ _ e1 e2)
/-- what sorted gives -/
theorem sort_perm (lt : α → α → Bool) (xs : List α) : (sortT lt xs).Perm xs := List.mergeSort_perm xs _
theorem sort_mem (lt : α → α → Bool) {xs : List α} {x : α} : x ∈ sortT lt xs ↔ x ∈ xs := (sort_perm lt xs).mem_iff
@[simp] theorem sort_len (lt : α → α → Bool) (xs : List α) : (sortT lt xs).length = xs.length := (sort_perm lt xs).length_eq
theorem sort_sorted (h : LtOk l) (xs : List α) : (sortT l xs).Pairwise fun a b => l b a = false := by
  have := List.pairwise_mergeSort (le := fun a b => !l b a) (fun a b c h1 h2 => by
    have h1 : l b a = false := by simpa using h1
    have h2 : l c b = false := by simpa using h2
    simp [h.ltrans h1 h2]) (fun a b => by
    cases e : l b a with
    | false => simp
    | true => simp [h.asym _ _ e]) xs
  exact this.imp fun h => by simpa using h
/-- a sorted row is what sorted gives of it, and of any with the same items -/
theorem sorted_unique (h : LtOk l) : ∀ {xs ys : List α}, xs.Perm ys → xs.Pairwise (fun a b => l b a = false) → ys.Pairwise (fun a b => l b a = false) → xs = ys
  | [], ys, p, _, _ => by rw [List.Perm.nil_eq p]
  | x :: xs, [], p, _, _ => by have := p.length_eq; simp at this
  | x :: xs, y :: ys, p, sx, sy => by
    have e : x = y := by
      rw [List.pairwise_cons] at sx sy
      have hx : x ∈ y :: ys := p.mem_iff.mp List.mem_cons_self
      have hy : y ∈ x :: xs := p.mem_iff.mpr List.mem_cons_self
      rcases List.mem_cons.mp hx with q | q
      · exact q
      · rcases List.mem_cons.mp hy with q2 | q2
        · exact q2.symm
        · exact h.tri _ _ (sy.1 x q) (sx.1 y q2)
    subst e
    rw [sorted_unique h p.cons_inv (List.pairwise_cons.mp sx).2 (List.pairwise_cons.mp sy).2]
theorem sort_of_sorted (h : LtOk l) {xs : List α} (hs : xs.Pairwise fun a b => l b a = false) : sortT l xs = xs := sorted_unique h (sort_perm l xs) (sort_sorted h xs) hs
theorem sort_of_perm (h : LtOk l) {xs ys : List α} (p : xs.Perm ys) : sortT l xs = sortT l ys := sorted_unique h ((sort_perm l xs).trans (p.trans (sort_perm l ys).symm)) (sort_sorted h xs) (sort_sorted h ys)
/-- the first of the least -/
theorem minT_spec [Inhabited α] (h : LtOk l) {xs : List α} (hne : xs ≠ []) : minT l xs ∈ xs ∧ ∀ x, x ∈ xs → l x (minT l xs) = false := by
  cases xs with
  | nil => exact absurd rfl hne
  | cons x xs =>
    have key : ∀ (xs : List α) (m : α), (xs.foldl (fun a y => if l y a = true then y else a) m ∈ m :: xs) ∧ ∀ x, x ∈ m :: xs → l x (xs.foldl (fun a y => if l y a = true then y else a) m) = false := by
      intro xs
      induction xs with
      | nil => intro m; exact ⟨List.mem_cons_self, fun x hx => by rw [List.mem_singleton.mp hx]; exact h.irr m⟩
      | cons y ys ih =>
        intro m
        rw [List.foldl_cons]
        by_cases q : l y m = true
        · rw [if_pos q]
          obtain ⟨h1, h2⟩ := ih y
          refine ⟨List.mem_cons_of_mem _ h1, fun x hx => ?_⟩
          rcases List.mem_cons.mp hx with rfl | hx
          · exact h.ltrans (h2 y List.mem_cons_self) (h.asym _ _ q)
          · exact h2 x hx
        · rw [if_neg q]
          have q : l y m = false := by simpa using q
          obtain ⟨h1, h2⟩ := ih m
          refine ⟨?_, fun x hx => ?_⟩
          · rcases List.mem_cons.mp h1 with e | e
            · rw [e]; exact List.mem_cons_self
            · exact List.mem_cons_of_mem _ (List.mem_cons_of_mem _ e)
          · rcases List.mem_cons.mp hx with rfl | hx
            · exact h2 x List.mem_cons_self
            · rcases List.mem_cons.mp hx with rfl | hx
              · exact h.ltrans (h2 m List.mem_cons_self) q
              · exact h2 x (List.mem_cons_of_mem _ hx)
    exact key xs x
theorem minT_eq [Inhabited α] (h : LtOk l) {xs : List α} {m : α} (hm : m ∈ xs) (hle : ∀ x, x ∈ xs → l x m = false) : minT l xs = m := by
  have hne : xs ≠ [] := fun e => by subst e; cases hm
  obtain ⟨h1, h2⟩ := minT_spec h hne
  exact h.tri _ _ (hle _ h1) (h2 m hm)
end
/-! ints -/
theorem fold_min_mem (ns : List Int) : ∀ n, ns.foldl min n ∈ n :: ns := by
  induction ns with
  | nil => intro n; exact List.mem_cons_self
  | cons k ns ih =>
    intro n
    rw [List.foldl_cons]
    rcases List.mem_cons.mp (ih (min n k)) with h | h
    · rw [h]
      by_cases c : n ≤ k
      · rw [show min n k = n by omega]; exact List.mem_cons_self
      · rw [show min n k = k by omega]; exact List.mem_cons_of_mem _ List.mem_cons_self
    · exact List.mem_cons_of_mem _ (List.mem_cons_of_mem _ h)
theorem fold_max_mem (ns : List Int) : ∀ n, ns.foldl max n ∈ n :: ns := by
  induction ns with
  | nil => intro n; exact List.mem_cons_self
  | cons k ns ih =>
    intro n
    rw [List.foldl_cons]
    rcases List.mem_cons.mp (ih (max n k)) with h | h
    · rw [h]
      by_cases c : k ≤ n
      · rw [show max n k = n by omega]; exact List.mem_cons_self
      · rw [show max n k = k by omega]; exact List.mem_cons_of_mem _ List.mem_cons_self
    · exact List.mem_cons_of_mem _ (List.mem_cons_of_mem _ h)
theorem minI_mem {ns : List Int} (h : ns ≠ []) : minI ns ∈ ns := by
  cases ns with
  | nil => exact absurd rfl h
  | cons n ns => exact fold_min_mem ns n
theorem maxI_mem {ns : List Int} (h : ns ≠ []) : maxI ns ∈ ns := by
  cases ns with
  | nil => exact absurd rfl h
  | cons n ns => exact fold_max_mem ns n
theorem fold_min_le (ns : List Int) : ∀ n, ns.foldl min n ≤ n ∧ ∀ k ∈ ns, ns.foldl min n ≤ k := by
  induction ns with
  | nil => intro n; exact ⟨Int.le_refl _, fun k h => absurd h (by simp)⟩
  | cons a ns ih =>
    intro n
    rw [List.foldl_cons]
    obtain ⟨h1, h2⟩ := ih (min n a)
    refine ⟨by omega, fun k hk => ?_⟩
    rcases List.mem_cons.mp hk with rfl | hk
    · omega
    · exact h2 k hk
theorem fold_max_ge (ns : List Int) : ∀ n, n ≤ ns.foldl max n ∧ ∀ k ∈ ns, k ≤ ns.foldl max n := by
  induction ns with
  | nil => intro n; exact ⟨Int.le_refl _, fun k h => absurd h (by simp)⟩
  | cons a ns ih =>
    intro n
    rw [List.foldl_cons]
    obtain ⟨h1, h2⟩ := ih (max n a)
    refine ⟨by omega, fun k hk => ?_⟩
    rcases List.mem_cons.mp hk with rfl | hk
    · omega
    · exact h2 k hk
theorem minI_le {ns : List Int} {k : Int} (h : k ∈ ns) : minI ns ≤ k := by
  cases ns with
  | nil => cases h
  | cons n ns =>
    rcases List.mem_cons.mp h with rfl | h
    · exact (fold_min_le ns _).1
    · exact (fold_min_le ns n).2 k h
theorem maxI_ge {ns : List Int} {k : Int} (h : k ∈ ns) : k ≤ maxI ns := by
  cases ns with
  | nil => cases h
  | cons n ns =>
    rcases List.mem_cons.mp h with rfl | h
    · exact (fold_max_ge ns _).1
    · exact (fold_max_ge ns n).2 k h
@[simp] theorem sumI_nil : sumI [] = 0 := rfl
@[simp] theorem sumI_cons (x : Int) (xs : List Int) : sumI (x :: xs) = x + sumI xs := rfl
theorem sumI_append (xs ys : List Int) : sumI (xs ++ ys) = sumI xs + sumI ys := by
  induction xs with
  | nil => simp
  | cons x xs ih => rw [List.cons_append, sumI_cons, sumI_cons, ih]; omega
theorem sumI_nonneg {xs : List Int} (h : ∀ x, x ∈ xs → 0 ≤ x) : 0 ≤ sumI xs := by
  induction xs with
  | nil => simp
  | cons x xs ih =>
    have h1 := h x List.mem_cons_self
    have h2 := ih fun z hz => h z (List.mem_cons_of_mem _ hz)
    rw [sumI_cons]; omega
theorem sumI_mul (k : Int) (xs : List Int) : sumI (xs.map fun x => k * x) = k * sumI xs := by
  induction xs with
  | nil => simp
  | cons x xs ih => rw [List.map_cons, sumI_cons, sumI_cons, ih, Int.mul_add]
theorem sumI_perm {xs ys : List Int} (p : xs.Perm ys) : sumI xs = sumI ys := by
  induction p with
  | nil => rfl
  | cons x _ ih => rw [sumI_cons, sumI_cons, ih]
  | swap x y l => rw [sumI_cons, sumI_cons, sumI_cons, sumI_cons]; omega
  | trans _ _ h1 h2 => rw [h1, h2]
theorem mul_ok_of {i j : Int} (h : -18446744073709551616 < j) (h2 : j < 18446744073709551616) : mulOk i j = true := mulOk_r h h2
end DL
namespace DL
open L2 PyProof.Rows PySem PySem.Spec
/-! ## bounds in bits -/
def Bd (k : Nat) (x : Int) : Prop := x.natAbs < 2 ^ k
theorem Bd.mono {a b : Nat} {x : Int} (h : Bd a x) (hk : a ≤ b) : Bd b x := Nat.lt_of_lt_of_le h (Nat.pow_le_pow_right (by decide) hk)
theorem Bd.mul {a b : Nat} {x y : Int} (h : Bd a x) (h2 : Bd b y) : Bd (a + b) (x * y) := by
  unfold Bd at *
  rw [Int.natAbs_mul, Nat.pow_add]
  exact Nat.mul_lt_mul'' h h2
theorem Bd.add {k : Nat} {x y : Int} (h : Bd k x) (h2 : Bd k y) : Bd (k + 1) (x + y) := by
  unfold Bd at *
  rw [Nat.pow_succ]
  omega
theorem Bd.neg {k : Nat} {x : Int} (h : Bd k x) : Bd k (-x) := by unfold Bd at *; omega
theorem Bd.le {k : Nat} {x y : Int} (h : Bd k y) (h0 : 0 ≤ x) (h1 : x ≤ y) : Bd k x := by unfold Bd at *; omega
theorem Bd.sub {k : Nat} {x y : Int} (h : Bd k x) (h2 : Bd k y) : Bd (k + 1) (x - y) := by
  unfold Bd at *
  rw [Nat.pow_succ]
  omega
theorem log2_lt {x : Int} {k : Nat} (h : Bd (k + 1) x) : x.natAbs.log2 < k + 1 := PySem.Flt.log2_lt_of (Nat.succ_pos k) h
theorem Bd.mulOk {a b : Nat} {x y : Int} (h : Bd a x) (h2 : Bd b y) (hk : a + b ≤ 900000 := by decide) : mulOk x y = true :=
  mulOk_wide (a := a + 1) (b := b + 1) (h.mono (Nat.le_succ a)) (h2.mono (Nat.le_succ b)) (by omega) (Nat.succ_pos a) (Nat.succ_pos b)
theorem Bd.divOk {b : Nat} {x y : Int} (h0 : 0 < y) (h2 : Bd b y) (hk : b ≤ 8999 := by decide) : divOk x y = true := by
  unfold DL.divOk
  rw [Bool.and_eq_true, Bool.or_eq_true, Nat.blt_eq, Nat.blt_eq]
  have := log2_lt (h2.mono (Nat.le_succ b))
  exact ⟨decide_eq_true h0, .inr (by omega)⟩
theorem bd_small {k : Nat} {x : Int} (h0 : 0 ≤ x) (h : x < ((2 ^ k : Nat) : Int)) : Bd k x := by unfold Bd; omega
/-! ## fractions in lowest terms -/
theorem gcd_whileN {c : Int × Int → Bool} {step : Int × Int → Int × Int} (hc : ∀ st, c st = decide (0 < st.2)) (hs : ∀ st, step st = (st.2, st.1 % st.2)) : ∀ (n : Nat) (a b : Int), 0 ≤ a → 0 ≤ b → b ≤ n → whileN c step n (a, b) = ((Int.gcd a b : Int), 0)
  | 0, a, b, h0, h1, h2 => by
    have : b = 0 := by omega
    subst this
    show (a, (0 : Int)) = _
    rw [Int.gcd_zero]
    exact Prod.ext (by simp; omega) rfl
  | n + 1, a, b, h0, h1, h2 => by
    unfold whileN
    rw [hc]
    by_cases q : 0 < b
    · have m0 := Int.emod_nonneg a (show b ≠ 0 by omega)
      have m1 := Int.emod_lt_of_pos a q
      rw [if_pos (decide_eq_true q), hs, gcd_whileN hc hs n b (a % b) h1 m0 (by omega)]
      have : Int.gcd b (a % b) = Int.gcd a b := by
        have e := Int.mul_ediv_add_emod a b
        have e2 : a = a % b + b * (a / b) := by omega
        rw [Int.gcd_comm a b]
        conv => rhs; rw [e2]
        rw [Int.gcd_add_mul_left_right]
      rw [this]
    · have : b = 0 := by omega
      subst this
      rw [if_neg (by simp)]
      rw [Int.gcd_zero]
      exact Prod.ext (by simp; omega) rfl
theorem gcd_whileZ {Sc Ss : Int × Int → Prop} {c : Int × Int → Bool} {step : Int × Int → Int × Int} (hc : ∀ st, c st = decide (0 < st.2)) (hs : ∀ st, step st = (st.2, st.1 % st.2)) (h1 : ∀ st, Sc st) (h2 : ∀ st, 0 < st.2 → Ss st) : ∀ (n : Nat) (a b : Int), 0 ≤ b → b ≤ n → whileZ Sc Ss c step n (a, b)
  | 0, a, b, h3, h4 => ⟨h1 _, by rw [hc]; exact decide_eq_false (by show ¬ 0 < b; omega)⟩
  | n + 1, a, b, h3, h4 => ⟨h1 _, fun q => by
    rw [hc] at q
    have q : 0 < b := of_decide_eq_true q
    refine ⟨h2 _ q, ?_⟩
    rw [hs]
    have m0 := Int.emod_nonneg a (show b ≠ 0 by omega)
    have m1 := Int.emod_lt_of_pos a q
    exact gcd_whileZ hc hs h1 h2 n b (a % b) m0 (by omega)⟩
theorem gcd_abs (a b : Int) : Int.gcd (absI a) (absI b) = Int.gcd a b := by
  unfold absI
  split <;> split <;> simp
theorem absI_nonneg (a : Int) : 0 ≤ absI a := by unfold absI; split <;> omega
def low (n d : Int) : Int × Int := (n / (Int.gcd n d : Int), d / (Int.gcd n d : Int))
theorem gcd_pos' {n d : Int} (hd : 0 < d) : (0 : Int) < (Int.gcd n d : Int) := by
  have := Int.gcd_pos_of_ne_zero_right n (b := d) (by omega)
  omega
theorem low_spec {n d : Int} (hd : 0 < d) : n = (Int.gcd n d : Int) * (low n d).1 ∧ d = (Int.gcd n d : Int) * (low n d).2 := by
  have h1 := Int.gcd_dvd_left n d
  have h2 := Int.gcd_dvd_right n d
  exact ⟨(Int.mul_ediv_cancel' h1).symm, (Int.mul_ediv_cancel' h2).symm⟩
theorem low_pos {n d : Int} (hd : 0 < d) : 0 < (low n d).2 := by
  obtain ⟨_, h2⟩ := low_spec (n := n) hd
  have g := gcd_pos' (n := n) hd
  rcases (show 0 < (low n d).2 ∨ (low n d).2 ≤ 0 by omega) with q | q
  · exact q
  · have := Int.mul_nonpos_of_nonneg_of_nonpos (Int.le_of_lt g) q
    omega
theorem low_cross {n d : Int} (hd : 0 < d) : (low n d).1 * d = n * (low n d).2 := by
  obtain ⟨h1, h2⟩ := low_spec (n := n) hd
  generalize low n d = p at *
  generalize (Int.gcd n d : Int) = g at *
  rw [h1, h2]
  ac_rfl
theorem low_eq {n d n' d' : Int} (hd : 0 < d) (hd' : 0 < d') (h : n * d' = n' * d) : low n d = low n' d' := by
  obtain ⟨a1, a2⟩ := low_spec (n := n) hd
  obtain ⟨b1, b2⟩ := low_spec (n := n') hd'
  have g1 := gcd_pos' (n := n) hd
  have g2 := gcd_pos' (n := n') hd'
  have e1 := Int.gcd_mul_right n d' d
  have e2 := Int.gcd_mul_right n' d d'
  have e3 : Int.gcd n d * d'.natAbs = Int.gcd n' d' * d.natAbs := by rw [← e1, ← e2, h, Int.mul_comm d d']
  have e4 : (Int.gcd n d : Int) * d' = (Int.gcd n' d' : Int) * d := by
    have : ((Int.gcd n d * d'.natAbs : Nat) : Int) = ((Int.gcd n' d' * d.natAbs : Nat) : Int) := by rw [e3]
    rw [Int.natCast_mul, Int.natCast_mul] at this
    rwa [show ((d'.natAbs : Nat) : Int) = d' by omega, show ((d.natAbs : Nat) : Int) = d by omega] at this
  have p1 := low_pos (n := n) hd
  have p2 := low_pos (n := n') hd'
  generalize low n d = p at *
  generalize low n' d' = p' at *
  generalize (Int.gcd n d : Int) = g at *
  generalize (Int.gcd n' d' : Int) = g' at *
  have f2 : p.2 = p'.2 := by
    have : g * g' * p'.2 = g * g' * p.2 := by
      have : g * (g' * p'.2) = g' * (g * p.2) := by rw [← b2, ← a2]; exact e4
      rw [Int.mul_assoc, this]; ac_rfl
    exact (Int.eq_of_mul_eq_mul_left (by have := Int.mul_pos g1 g2; omega) this).symm
  have f1 : p.1 = p'.1 := by
    have : g * g' * p'.2 * p.1 = g * g' * p'.2 * p'.1 := by
      have : (g * p.1) * (g' * p'.2) = (g' * p'.1) * (g * p.2) := by rw [← a1, ← b2, ← b1, ← a2]; exact h
      rw [f2] at this
      have l : g * g' * p'.2 * p.1 = (g * p.1) * (g' * p'.2) := by ac_rfl
      have r : g * g' * p'.2 * p'.1 = (g' * p'.1) * (g * p'.2) := by ac_rfl
      rw [l, r]; exact this
    exact Int.eq_of_mul_eq_mul_left (by have := Int.mul_pos (Int.mul_pos g1 g2) p2; omega) this
  exact Prod.ext f1 f2
theorem low_one (n : Int) : low n 1 = (n, 1) := by unfold low; rw [Int.gcd_one]; simp
theorem low_low {n d : Int} (hd : 0 < d) : low (low n d).1 (low n d).2 = low n d := low_eq (low_pos hd) hd (low_cross hd)
theorem low_scale {k n d : Int} (hk : 0 < k) (hd : 0 < d) : low (k * n) (k * d) = low n d := low_eq (Int.mul_pos hk hd) hd (by ac_rfl)
/-- less, in lowest terms or not -/
theorem low_less {n d n' d' : Int} (hd : 0 < d) (hd' : 0 < d') : (low n d).1 * (low n' d').2 < (low n' d').1 * (low n d).2 ↔ n * d' < n' * d := by
  obtain ⟨a1, a2⟩ := low_spec (n := n) hd
  obtain ⟨b1, b2⟩ := low_spec (n := n') hd'
  have g1 := gcd_pos' (n := n) hd
  have g2 := gcd_pos' (n := n') hd'
  generalize low n d = p at *
  generalize low n' d' = p' at *
  generalize (Int.gcd n d : Int) = g at *
  generalize (Int.gcd n' d' : Int) = g' at *
  have gg := Int.mul_pos g1 g2
  rw [a1, a2, b1, b2]
  have l : g * p.1 * (g' * p'.2) = (g * g') * (p.1 * p'.2) := by ac_rfl
  have r : g' * p'.1 * (g * p.2) = (g * g') * (p'.1 * p.2) := by ac_rfl
  rw [l, r]
  exact ⟨fun h => Int.mul_lt_mul_of_pos_left h gg, fun h => Int.lt_of_mul_lt_mul_left h (Int.le_of_lt gg)⟩
end DL
namespace DL
open L2 PyProof.Rows PySem PySem.Spec
/-! ## is of truth values, pop of an item -/
def isTB : D → D → Option D
  | .bool a, .bool b => some (.bool (decide (a = b)))
  | _, _ => none
def isNTB : D → D → Option D
  | .bool a, .bool b => some (.bool (!decide (a = b)))
  | _, _ => none
theorem od_isB {X : Cx} : OpD X .k (compareOp .Is) isTB := by
  intro pins s σ H x y v u Q I rx ry ⟨O, d, e, z, dom, bx, by', hz, k⟩
  unfold isTB at hz
  split at hz
  · cases hz
    exact op_isBl pins s σ H x y v u Q I rx ry ⟨_, _, bx.bool, by'.bool, k _ H (.refl _) (.bl _)⟩
  · cases hz
theorem od_isNB {X : Cx} : OpD X .k (compareOp .IsNot) isNTB := by
  intro pins s σ H x y v u Q I rx ry ⟨O, d, e, z, dom, bx, by', hz, k⟩
  unfold isNTB at hz
  split at hz
  · cases hz
    exact op_notBl pins s σ H x y v u Q I rx ry ⟨_, _, bx.bool, by'.bool, k _ H (.refl _) (.bl _)⟩
  · cases hz
theorem dv_isB (a b : Bool) : isTB (eB a) (eB b) = some (eB (decide (a = b))) := rfl
theorem dv_isNB (a b : Bool) : isNTB (eB a) (eB b) = some (eB (!decide (a = b))) := rfl
def eraseZ {α : Type} (l : List α) (i : Int) : List α := if i < 0 then l.eraseIdx ((l.length : Int) + i).toNat else l.eraseIdx i.toNat
theorem okp_pop {α : Type} [Inhabited α] {enc : α → D} {l : List α} {i : Int} {Q : D → List D → Prop} (h : ixOk l i) (hq : Q (enc (atZ l i)) ((eraseZ l i).map enc)) : OkP (gPop (l.map enc) [eI i]) Q := by
  have h' : -((l.map enc).length : Int) ≤ i ∧ i < (l.map enc).length := by rw [List.length_map]; exact h
  have e1 : gPop (l.map enc) [eI i] = (ixN (l.map enc).length i).bind fun k => (l.map enc)[k]?.map fun d => (d, (l.map enc).eraseIdx k) := rfl
  have e2 := atI_map (a := enc) h
  unfold L2.atI at e2
  rw [e1]
  rw [ixN_ok h'] at e2 ⊢
  rw [Option.bind_some] at e2 ⊢
  have e2 : (l.map enc)[(if i < 0 then (((l.map enc).length : Int) + i).toNat else i.toNat)]? = some (enc (atZ l i)) := e2
  rw [e2, Option.map_some, okP_some]
  have e3 : (l.map enc).eraseIdx (if i < 0 then (((l.map enc).length : Int) + i).toNat else i.toNat) = (eraseZ l i).map enc := by
    unfold eraseZ
    rw [List.length_map]
    split <;> simp [List.eraseIdx_eq_take_drop_succ]
  rw [e3]
  exact hq
theorem vLO {α : Type} {e : α → D} {f : Rho → Option D} {ρ : Rho} {l : List α} (h : f ρ = some (eL e l)) : f ρ = some (eL (eO e) (l.map some)) := by
  rw [h]
  unfold eL
  rw [List.map_map]
  rfl
theorem vTO {α : Type} {e : α → D} {f : Rho → Option D} {ρ : Rho} {l : List α} (h : f ρ = some (eT e l)) : f ρ = some (eT (eO e) (l.map some)) := by
  rw [h]
  unfold eT
  rw [List.map_map]
  rfl
end DL
namespace DL
open L2 PyProof.Rows PySem PySem.Spec
/-! ## sorted(set(..)) of a list of numbers and texts: the set with its members told -/
def kOf (e : Int × Value) : Key := match e.2 with
  | .int k _ => .inl k
  | .str x _ => .inr x
  | _ => .inl 0
def GoodK (P : Program) (w : World) (e : Int × Value) : Prop := RelV (kV (kOf e)) e.2 ∧ e.1 = (mixKind P w).hash (kOf e)
/-- the set at a with the members L -/
def SKo (P : Program) (w : World) (h : Heap) (a : Addr) (L : List Key) : Prop :=
  ∃ o es ep t, h.get? a = some o ∧ o.ExactSet ∧ o.data = .set es ep t ∧ (∀ e ∈ es.toList, GoodK P w e) ∧ (es.toList.map kOf).Perm L ∧ L.Nodup ∧
    es.size < scanBound ∧ t.fits es.size = true ∧ Ris t.place.toList ∧ (w.params.followText "set-order" = true ∨ t.led = true)
section
variable {P : Program} {w : World} {h h' : Heap} {a : Addr} {L : List Key}
theorem kOf_rel {k : Key} {v : Value} {n : Int} (r : RelV (kV k) v) : kOf (n, v) = k := by
  cases k with
  | inl i => obtain ⟨t, rfl⟩ := r; rfl
  | inr x => obtain ⟨t, rfl⟩ := r; rfl
theorem SKo.at (R : SKo P w h a L) (k : ∀ o, h.get? a = some o → h'.get? a = some o) : SKo P w h' a L := by
  obtain ⟨o, es, ep, t, ho, r⟩ := R
  exact ⟨o, es, ep, t, k o ho, r⟩
theorem goodK_elems {l : List (Int × Value)} (g : ∀ e ∈ l, GoodK P w e) : ElemsOf (mixKind P w) l := fun e he =>
  ⟨⟨kOf e, kV_is (g e he).1, (g e he).2⟩, key_scan (g e he).1⟩
theorem goodK_is {e : Int × Value} (g : GoodK P w e) (k : Key) : (mixKind P w).is k e.2 = true ↔ kOf e = k := by
  constructor
  · intro q
    exact (mixKind P w).inj e.2 (kOf e) k (kV_is g.1) q
  · rintro rfl
    exact kV_is g.1
theorem goodK_mem {l : List (Int × Value)} (g : ∀ e ∈ l, GoodK P w e) (k : Key) : k ∈ l.map kOf ↔ ∃ e ∈ l, (mixKind P w).is k e.2 = true := by
  rw [List.mem_map]
  constructor
  · rintro ⟨e, he, q⟩
    exact ⟨e, he, (goodK_is (g e he) k).2 q⟩
  · rintro ⟨e, he, q⟩
    exact ⟨e, he, (goodK_is (g e he) k).1 q⟩
theorem SKo.setOf (R : SKo P w h a L) : h.SetOf (mixKind P w) a (fun k => L.any (fun y => decide (y = k))) L.length := by
  obtain ⟨o, es, ep, t, ho, hx, hd, g, pm, nd, hb, hf, _⟩ := R
  refine ⟨o, es, ep, t, ho, hx, hd, goodK_elems g, fun k => ?_, hb, hf, ?_⟩
  · rw [← goodK_mem g k, pm.mem_iff, List.any_eq_true]
    exact ⟨fun ⟨y, hy, q⟩ => (of_decide_eq_true q) ▸ hy, fun hk => ⟨k, hk, decide_eq_true rfl⟩⟩
  · rw [← pm.length_eq, List.length_map, Array.length_toList]
end
section
variable {P : Program} {w : World} {A : Around} {E : Value → Shared → Prop} {s : Shared} {a : Addr} {L : List Key}
theorem sk_tail {g : Bool → Sem Unit} (hg : ∀ (b : Bool) (s₁ : Shared) (Q' : Unit → Shared → Prop), Q' () s₁ → wpAny (model P w) A (g b) Q' E s₁)
    {o : Obj} {es : Array (Int × Value)} {ep : Nat} {t : SetTable} (ho : s.heap.get? a = some o) (hex : o.ExactSet) (hd : o.data = .set es ep t)
    {es1 : Array (Int × Value)} {t2 : SetTable} {L' : List Key} (g1 : ∀ e ∈ es1.toList, GoodK P w e) (m1 : (es1.toList.map kOf).Perm L') (nd1 : L'.Nodup)
    (hb1 : es1.size < scanBound) (hf2 : t2.fits es1.size = true) (hr : Ris t2.place.toList) (hl : w.params.followText "set-order" = true ∨ t2.led = true) {wasDummy : Bool} {R : Option Bool → Shared → Prop}
    (hR : ∀ h', Heap.SameBut a s.heap h' → SKo P w h' a L' → R (some true) { s with heap := h' }) :
    wpAny (model P w) A (do
        storeSet a es1 t2
        if (!wasDummy && t2.tooFull) = true then do
            g (relayAll t2 es1 (SetTable.grown es1.size)).2.2
            storeSet a (relayAll t2 es1 (SetTable.grown es1.size)).1 (relayAll t2 es1 (SetTable.grown es1.size)).2.1
            pure (some true)
          else pure (some true)) R E s := by
  refine wpAny_bind (wpAny_storeSet_of ho hd ?_ (fits_of_scanBound hb1))
  have ho1 := store_at (es' := es1) (t' := t2) ho hd
  have sb1 := Heap.SameBut.update s.heap a (Obj.putSet es1 t2)
  split
  · have pm := relayAll_perm t2 es1 (SetTable.grown es1.size)
    have hf3 := relayAll_fits t2 es1 (SetTable.grown es1.size)
    have hr3 := relayAll_ris t2 es1 (SetTable.grown es1.size)
    have hl3 := relayAll_led t2 es1 (SetTable.grown es1.size)
    generalize relayAll t2 es1 (SetTable.grown es1.size) = Z at pm hf3 hr3 hl3 ⊢
    obtain ⟨es2, t3, gave⟩ := Z
    dsimp only at pm hf3 hr3 hl3 ⊢
    have hsz : es2.size = es1.size := by rw [← Array.length_toList, pm.length_eq, Array.length_toList]
    have hb2 : es2.size < scanBound := by rw [hsz]; exact hb1
    refine wpAny_bind (hg _ _ _ ?_)
    refine wpAny_bind (wpAny_storeSet_of ho1 rfl ?_ (fits_of_scanBound hb2))
    have ho2 := store_at (es' := es2) (t' := t3) ho1 rfl
    refine wpAny_pure (hR _ (sb1.trans (Heap.SameBut.update _ a _)) ?_)
    exact ⟨_, es2, _, t3, ho2, hex, rfl, fun e he => g1 e (pm.mem_iff.mp he), (pm.map kOf).trans m1, nd1, hb2, hf3, hr3, hl.imp id fun z => by rw [hl3]; exact z⟩
  · exact wpAny_pure (hR _ sb1 ⟨_, es1, _, t2, ho1, hex, rfl, g1, m1, nd1, hb1, hf2, hr, hl⟩)
theorem stepK_mem {L : List Key} {k : Key} (h : k ∈ L) : stepK L k = L := by
  unfold stepK
  rw [if_pos (List.any_eq_true.mpr ⟨k, h, decide_eq_true rfl⟩)]
theorem stepK_new {L : List Key} {k : Key} (h : k ∉ L) : stepK L k = L ++ [k] := by
  unfold stepK
  rw [if_neg fun z => by
    obtain ⟨y, hy, q⟩ := List.any_eq_true.mp z
    exact h ((of_decide_eq_true q) ▸ hy)]
theorem sk_add {k : Key} {x : Value} (rx : RelV (kV k) x) {Q : Bool → Shared → Prop} (R : SKo P w s.heap a L) (room : L.length + 1 < scanBound)
    (hQ : ∀ b h', Heap.SameBut a s.heap h' → SKo P w h' a (stepK L k) → Q b { s with heap := h' }) :
    wpAny (model P w) A (setAddHashed a x ((mixKind P w).hash k)) Q E s := by
  obtain ⟨o, es, ep, t, ho, hex, hd, g, pm0, nd, hb, hf, hr, hl⟩ := R
  have hkey : (mixKind P w).is k x = true := kV_is rx
  have hsc : x.scannable = true := key_scan rx
  have hel : ElemsOf (mixKind P w) es.toList := goodK_elems g
  unfold setAddHashed setAddHashedIn
  refine wpAny_holding (wpAny_bind (wpAny_setState_of ho hd hf ?_))
  dsimp only
  rw [byScan_of hsc hb hel]
  simp only [↓reduceIte]
  unfold setAddByScan
  refine wpAny_bind ?_
  refine wpAny_bind (wpAny_rule ?_)
  refine wpAny_bind (wpAny_setScan_of hkey ho hd hf hel ?_)
  cases hfi : List.findIdx? (fun e => (mixKind P w).is k e.2) es.toList with
  | some j =>
    dsimp only
    obtain ⟨hj, pj, _⟩ := List.findIdx?_eq_some_iff_getElem.mp hfi
    have hm : k ∈ L := pm0.mem_iff.mp ((goodK_mem (P := P) (w := w) g k).2 ⟨es.toList[j], List.getElem_mem hj, pj⟩)
    refine wpAny_pure (wpAny_pure ?_)
    have q := hQ false s.heap (Heap.SameBut.refl a s.heap) (by rw [stepK_mem hm]; exact ⟨o, es, ep, t, ho, hex, hd, g, pm0, nd, hb, hf, hr, hl⟩)
    exact q
  | none =>
    dsimp only
    have hnk : k ∉ es.toList.map kOf := fun z => by
      obtain ⟨e, he, q⟩ := (goodK_mem (P := P) (w := w) g k).1 z
      have c := List.findIdx?_eq_none_iff.mp hfi e he
      rw [q] at c
      cases c
    have hnL : k ∉ L := fun z => hnk (pm0.mem_iff.mpr z)
    have hgw : ∀ (b : Bool) {s₁ : Shared} {Q' : Unit → Shared → Prop}, Q' () s₁ → wpAny (model P w) A (match b with | true => rule "set.scan.the-table-gave-way" | false => pure ()) Q' E s₁ :=
      fun b s₁ Q' q => by cases b <;> first | exact wpAny_pure q | exact wpAny_rule q
    have pm := layNew_perm t es ((mixKind P w).hash k) x
    have hf1 := layNew_fits t es ((mixKind P w).hash k) x
    have hr1 := layNew_ris t es ((mixKind P w).hash k) x hr
    have hl1 := layNew_led t es ((mixKind P w).hash k) x
    generalize layNew t es ((mixKind P w).hash k) x = Z at pm hf1 hr1 hl1 ⊢
    obtain ⟨es1, t1, wasDummy, gave⟩ := Z
    dsimp only at pm hf1 hr1 hl1 ⊢
    rw [Array.toList_push] at pm
    have pc : es1.toList.Perm (((mixKind P w).hash k, x) :: es.toList) := pm.trans (List.perm_append_singleton _ _)
    have ek : kOf ((mixKind P w).hash k, x) = k := kOf_rel rx
    have g1 : ∀ e ∈ es1.toList, GoodK P w e := fun e he => by
      rcases List.mem_cons.mp (pc.mem_iff.mp he) with z | z
      · rw [z]; exact ⟨by rw [ek]; exact rx, by rw [ek]⟩
      · exact g e z
    have m1 : (es1.toList.map kOf).Perm (stepK L k) := by
      rw [stepK_new hnL]
      have q := pc.map kOf
      rw [List.map_cons, ek] at q
      exact q.trans ((pm0.cons k).trans (List.perm_append_singleton k L).symm)
    have nd1 : (stepK L k).Nodup := by
      rw [stepK_new hnL, List.nodup_append]
      exact ⟨nd, by simp, fun x hx y hy e => hnL (by rw [← List.mem_singleton.mp hy, ← e]; exact hx)⟩
    have hn : es.size = L.length := by rw [← pm0.length_eq, List.length_map, Array.length_toList]
    have hsz : es1.size = L.length + 1 := by rw [← Array.length_toList, pc.length_eq, List.length_cons, Array.length_toList, hn]
    have hb1 : es1.size < scanBound := by rw [hsz]; exact room
    have hled : w.params.followText "set-order" = true ∨ t1.led = true := hl.imp id fun z => by rw [hl1]; exact z
    refine wpAny_bind (hgw _ ?_)
    split
    · refine wpAny_bind ?_
      rw [hashByValue_scannable 8 hsc]
      refine wpAny_pure ?_
      refine sk_tail ?_ ho hex hd g1 m1 nd1 hb1 ?_ ?_ ?_ ?_
      · intro b s₁ Q' q; cases b <;> first | exact wpAny_pure q | exact wpAny_rule q
      · first | (split <;> first | exact hf1 | exact SetTable.fits_plain_off hf1) | exact hf1
      · first | (split <;> exact hr1) | exact hr1
      · first | (split <;> exact hled) | exact hled
      · intro h' sb r; dsimp only; exact wpAny_pure (hQ true h' sb r)
    · refine wpAny_bind (wpAny_pure ?_)
      simp only [↓reduceIte]
      refine sk_tail ?_ ho hex hd g1 m1 nd1 hb1 hf1 hr1 hled ?_
      · intro b s₁ Q' q; cases b <;> first | exact wpAny_pure q | exact wpAny_rule q
      · intro h' sb r; dsimp only; exact wpAny_pure (hQ true h' sb r)
theorem sk_fresh {h : Heap} : SKo P w (h.push { cls := .type "set", dict := none, data := .set #[] 0 (.fresh 0 0 (!w.params.followText "set-order")) }) h.objs.size [] :=
  ⟨_, #[], 0, _, Heap.get?_push_size _ rfl, ⟨rfl, rfl, rfl⟩, rfl, (fun e he => by simp at he), (by simp), List.nodup_nil, (by unfold scanBound; simp), (by rfl), List.Pairwise.nil, by
    show _ ∨ (!w.params.followText "set-order") = true
    cases w.params.followText "set-order"
    · exact .inr rfl
    · exact .inl rfl⟩
end
section
variable {prog : Program} {w : World} {A : Around} {R : Result → Shared → Prop} {I : Addr} {fp wr : List Addr} {G : Array GenState → Array GenState → Prop} {n : Nat} {P : Nat → Value → Prop} {St : Nat → Shared → Prop}
theorem loopSK (W : WalksS prog w A.in1 I fp wr G n P St) (S : Addr) (hSf : S ∉ fp) (val : Nat → Key) (hb : n + 1 < scanBound)
    (hval : ∀ i v, P i v → RelV (kV (val i)) v) :
    ∀ (k i : Nat) (s : Shared), n - i = k → i ≤ n → St i s →
      SKo prog w s.heap S (metK val i) →
      (∀ s', Moved (S :: wr) G s s' → SKo prog w s'.heap S (metK val n) → R (.ok (.ret .none)) s') →
      codeAny (model prog w) A (.builtin "set.update.loop" ⟨[.ref S, .ref I], []⟩) R s := by
  have hSw : S ∉ wr := fun h => hSf (W.sub _ h)
  have hsub : ∀ b ∈ wr, b ∈ S :: wr := fun b hb => List.mem_cons_of_mem _ hb
  intro k
  induction k with
  | zero =>
    intro i s hk hi hst hS hR
    have hin : i = n := by omega
    subst hin
    refine codeAny_builtin PyProof.Rows.F.entry_set_update_loop ?_
    rw [Around.under_plainId PyProof.Rows.F.plain_set_update_loop _]
    show wpAny _ A.in1 (pyNext (.ref I) >>= _) _ _ s
    refine wpAny_bind (W.done s _ _ hst fun s' hm => ?_)
    show wpAny _ A.in1 (ret Value.none) _ _ s'
    exact wpAny_pure (hR s' (hm.mono hsub) (hS.at fun o ho => hm.heap S _ hSw ho))
  | succ k ih =>
    intro i s hk hi hst hS hR
    have hlt : i < n := by omega
    refine codeAny_builtin PyProof.Rows.F.entry_set_update_loop ?_
    rw [Around.under_plainId PyProof.Rows.F.plain_set_update_loop _]
    show wpAny _ A.in1 (pyNext (.ref I) >>= _) _ _ s
    refine wpAny_bind (W.item i s _ _ hlt hst fun v s' hP hst' hm => ?_)
    have rv := hval i v hP
    have hS' : SKo prog w s'.heap S (metK val i) := hS.at fun o ho => hm.heap S _ hSw ho
    have hkey : (mixKind prog w).is (val i) v = true := kV_is rv
    show wpAny _ A.in1 (holding [v] (setAdd S v) >>= _) _ _ s'
    refine wpAny_bind (wpAny_holding ?_)
    unfold setAdd
    refine wpAny_holding ?_
    refine wpAny_bind ((mixKind prog w).pyHash (k := val i) hkey ?_)
    have hroom : (metK val i).length + 1 < scanBound := by have := metK_le val i; omega
    refine sk_add (s := { s' with toks := s'.toks + 1 }) rv hS' hroom fun b h' hsb hS2 => ?_
    have hSi : SKo prog w h' S (metK val (i + 1)) := by rw [metK_succ]; exact hS2
    refine wpAny_pure ⟨plainId_quiet PyProof.Rows.F.plain_set_update_loop _, ih (i + 1) _ (by omega) hlt (W.frame _ s' _ _ hst' (Nat.le_succ _) fun b hb o e => ?_) hSi fun s'' hm'' hS'' => ?_⟩
    · rw [hsb.2 b (fun h : b = S => hSf (by rw [← h]; exact hb))]; exact e
    · refine hR s'' (Moved.trans W.gtrans ((hm.mono hsub).then_heap (Nat.le_succ _) fun b o hb e => ?_) hm'') hS''
      rw [hsb.2 b (fun h : b = S => hb (by rw [h]; exact List.mem_cons_self))]; exact e
end
end DL
namespace DL
open L2 PyProof.Rows PySem PySem.Spec
section
variable {prog : Program} {w : World} {A : Around} {E : Value → Shared → Prop} {s : Shared}
set_option maxHeartbeats 3200000 in
theorem call_set_skL {l : Addr} {items : Array Value} (val : Nat → Key) {Q : Value → Shared → Prop}
    (hh : A.handled = none) (hl : s.heap.IsList l items) (hval : ∀ (i : Nat) (v : Value), items[i]? = some v → RelV (kV (val i)) v) (hb : items.size + 1 < scanBound)
    (h : ∀ (h' : Heap) (tk : Nat), SKo prog w h' s.heap.objs.size (metK val items.size) →
      (∀ b o, b < s.heap.objs.size → s.heap.get? b = some o → h'.get? b = some o) → Q (.ref s.heap.objs.size) { s with heap := h', toks := tk }) :
    wpAny (model prog w) A (call (.type "set") [.ref l]) Q E s := by
  obtain ⟨c, tl, hmro⟩ := PySem.F.called_set.mro
  have hmade := PySem.F.called_set.made
  have hsub := PySem.F.called_set.sub
  refine wpAny_call (codeAny_of_tree ?_)
  show wpAny _ _ (callAny (.type "set") _) _ _ _
  refine wpAny_pure ⟨Code.quiet_builtin _ (by decide +kernel), codeAny_builtin PySem.F.entry_type_call ?_⟩
  rw [Around.under_plain (weight_type_call_type "set" [.ref l] []) rfl]
  have h1 := PySem.F.called_set.notType
  have h2 := PySem.F.called_set.canCreate
  have hct := PySem.F.typeCall_set_1 (.ref l)
  repeat (any_goals (first | assumption | wp_step))
  refine codeAny_mono (code_set_led1 (.ref l) (E := E) (Q₁ := fun obj s₁ => obj = .ref s.heap.objs.size ∧ s₁ = { s with heap := s.heap.push { cls := .type "set", dict := none, data := .set #[] 0 (.fresh 0 0 (!w.params.followText "set-order")) } }) ⟨rfl, rfl⟩) fun r s₁ hr => ?_
  cases r with
  | error e => exact hr
  | ok fl =>
    cases fl with
    | ret obj =>
      obtain ⟨rfl, rfl⟩ := hr
      have hS : (s.heap.push { cls := .type "set", dict := none, data := .set #[] 0 (.fresh 0 0 (!w.params.followText "set-order")) }).get? s.heap.objs.size = some { cls := .type "set", dict := none, data := .set #[] 0 (.fresh 0 0 (!w.params.followText "set-order")) } := Heap.get?_push_size _ rfl
      have hT : Shared.TypeIs { s with heap := s.heap.push { cls := .type "set", dict := none, data := .set #[] 0 (.fresh 0 0 (!w.params.followText "set-order")) } } (.ref s.heap.objs.size) "set" := ⟨_, hS, rfl⟩
      have hli := PySem.F.called_set.init.lookup
      have hbi := PySem.F.called_set.init.bind (.ref s.heap.objs.size)
      repeat (any_goals (first | assumption | wp_step))
      refine codeAny_mono (codeAny_call_builtin (R := wants (fun r s₂ => r = .none ∧ ∃ h' tk, s₂ = { s with heap := h', toks := tk } ∧
          SKo prog w h' s.heap.objs.size (metK val items.size) ∧
          (∀ b o, b < s.heap.objs.size → s.heap.get? b = some o → h'.get? b = some o)) E) PySem.F.called_set.init.plain PySem.F.entry_set_init (check_set_init_1 hT ?_)) fun r₂ s₂ hr₂ => ?_
      · obtain ⟨ol, hol, hcl, nl, hdl⟩ := hl
        obtain ⟨ocls, odict, odata, oslots⟩ := ol
        simp only at hcl hdl
        subst hcl; subst hdl
        have hol' : (s.heap.push { cls := .type "set", dict := none, data := .set #[] 0 (.fresh 0 0 (!w.params.followText "set-order")) }).get? l = some { cls := .type "list", dict := odict, data := .seq items nl, slots := oslots } := Heap.get?_push_of_some _ hol
        have hsls := PySem.F.sub_list_set
        have hslf := PySem.F.sub_list_frozenset
        have hne : (Value.type "list" == Value.type "dict") = false := by decide
        have hl1 : (s.heap.push { cls := .type "set", dict := none, data := .set #[] 0 (.fresh 0 0 (!w.params.followText "set-order")) }).IsList l items := ⟨_, hol', rfl, nl, rfl⟩
        unfold Builtin.«set.__init__» noKeywords Builtin.Frozenset.updateFrom
        generalize hPI : pyIter = PI
        wp_walk
        subst hPI
        refine wpAny_pyIter_list hl1 ?_
        refine wpAny_bind (wpAny_runValue ?_)
        have hlS : l < s.heap.objs.size := Heap.lt_size hol
        have hh3 : A.in1.in1.in1.handled = none := by simp [hh]
        have hneI : l ≠ (s.heap.push { cls := .type "set", dict := none, data := .set #[] 0 (.fresh 0 0 (!w.params.followText "set-order")) }).objs.size := by
          rw [Heap.size_push]; exact Nat.ne_of_lt (Nat.lt_succ_of_lt hlS)
        have hSf : s.heap.objs.size ∉ [(s.heap.push { cls := .type "set", dict := none, data := .set #[] 0 (.fresh 0 0 (!w.params.followText "set-order")) }).objs.size, l] := by
          rw [Heap.size_push]; simp only [List.mem_cons, List.mem_singleton, List.not_mem_nil, or_false, not_or]
          exact ⟨Nat.ne_of_lt (Nat.lt_succ_self _), Nat.ne_of_gt hlS⟩
        refine loopSK ((Walks.list hh3 _ l hneI items).toS) s.heap.objs.size
          hSf val hb hval (items.size - 0) 0 _ (by omega) (Nat.zero_le _)
          ⟨⟨_, Heap.get?_push_size _ rfl, rfl, rfl⟩, (hl1.push _)⟩ ?hS0 ?hR
        case hS0 =>
          exact (sk_fresh (P := prog) (w := w) (h := s.heap)).at fun o ho => Heap.get?_push_of_some _ ho
        case hR =>
          intro s' hm hS'
          obtain ⟨h', g', d', tk', os'⟩ := s'
          have eg : g' = s.gens := hm.gens
          have ed : d' = s.drawn := hm.drawn
          have eo : os' = s.os := hm.os
          subst eg; subst ed; subst eo
          show wpAny _ _ _ _ _ _
          refine wpAny_pure ?_
          show wpAny _ _ (ret Value.none) _ _ _
          refine wpAny_pure ⟨rfl, h', tk', rfl, hS', fun b o hb e => ?_⟩
          have hb1 : b ≠ s.heap.objs.size := Nat.ne_of_lt hb
          have hb2 : b ≠ (s.heap.push { cls := .type "set", dict := none, data := .set #[] 0 (.fresh 0 0 (!w.params.followText "set-order")) }).objs.size := by
            rw [Heap.size_push]; exact Nat.ne_of_lt (Nat.lt_succ_of_lt hb)
          exact hm.heap b o (by simp only [List.mem_cons, List.mem_singleton, List.not_mem_nil, or_false, not_or]; exact ⟨hb1, hb2⟩) (Heap.get?_push_of_some _ (Heap.get?_push_of_some _ e))
      · cases r₂ with
        | error e => exact hr₂
        | ok fl₂ =>
          cases fl₂ with
          | ret r =>
            obtain ⟨rfl, h', tk, rfl, hS', hk'⟩ := hr₂
            repeat (any_goals (first | assumption | wp_step))
            exact h _ _ hS' hk'
          | _ => exact hr₂.elim
    | _ => exact hr.elim
set_option maxHeartbeats 3200000 in
theorem call_set_skT {l : Addr} {items : Array Value} (val : Nat → Key) {Q : Value → Shared → Prop}
    (hh : A.handled = none) (hl : s.heap.IsTuple l items) (hval : ∀ (i : Nat) (v : Value), items[i]? = some v → RelV (kV (val i)) v) (hb : items.size + 1 < scanBound)
    (h : ∀ (h' : Heap) (tk : Nat), SKo prog w h' s.heap.objs.size (metK val items.size) →
      (∀ b o, b < s.heap.objs.size → s.heap.get? b = some o → h'.get? b = some o) → Q (.ref s.heap.objs.size) { s with heap := h', toks := tk }) :
    wpAny (model prog w) A (call (.type "set") [.ref l]) Q E s := by
  obtain ⟨c, tl, hmro⟩ := PySem.F.called_set.mro
  have hmade := PySem.F.called_set.made
  have hsub := PySem.F.called_set.sub
  refine wpAny_call (codeAny_of_tree ?_)
  show wpAny _ _ (callAny (.type "set") _) _ _ _
  refine wpAny_pure ⟨Code.quiet_builtin _ (by decide +kernel), codeAny_builtin PySem.F.entry_type_call ?_⟩
  rw [Around.under_plain (weight_type_call_type "set" [.ref l] []) rfl]
  have h1 := PySem.F.called_set.notType
  have h2 := PySem.F.called_set.canCreate
  have hct := PySem.F.typeCall_set_1 (.ref l)
  repeat (any_goals (first | assumption | wp_step))
  refine codeAny_mono (code_set_led1 (.ref l) (E := E) (Q₁ := fun obj s₁ => obj = .ref s.heap.objs.size ∧ s₁ = { s with heap := s.heap.push { cls := .type "set", dict := none, data := .set #[] 0 (.fresh 0 0 (!w.params.followText "set-order")) } }) ⟨rfl, rfl⟩) fun r s₁ hr => ?_
  cases r with
  | error e => exact hr
  | ok fl =>
    cases fl with
    | ret obj =>
      obtain ⟨rfl, rfl⟩ := hr
      have hS : (s.heap.push { cls := .type "set", dict := none, data := .set #[] 0 (.fresh 0 0 (!w.params.followText "set-order")) }).get? s.heap.objs.size = some { cls := .type "set", dict := none, data := .set #[] 0 (.fresh 0 0 (!w.params.followText "set-order")) } := Heap.get?_push_size _ rfl
      have hT : Shared.TypeIs { s with heap := s.heap.push { cls := .type "set", dict := none, data := .set #[] 0 (.fresh 0 0 (!w.params.followText "set-order")) } } (.ref s.heap.objs.size) "set" := ⟨_, hS, rfl⟩
      have hli := PySem.F.called_set.init.lookup
      have hbi := PySem.F.called_set.init.bind (.ref s.heap.objs.size)
      repeat (any_goals (first | assumption | wp_step))
      refine codeAny_mono (codeAny_call_builtin (R := wants (fun r s₂ => r = .none ∧ ∃ h' tk, s₂ = { s with heap := h', toks := tk } ∧
          SKo prog w h' s.heap.objs.size (metK val items.size) ∧
          (∀ b o, b < s.heap.objs.size → s.heap.get? b = some o → h'.get? b = some o)) E) PySem.F.called_set.init.plain PySem.F.entry_set_init (check_set_init_1 hT ?_)) fun r₂ s₂ hr₂ => ?_
      · obtain ⟨ol, hol, hcl, nl, hdl⟩ := hl
        obtain ⟨ocls, odict, odata, oslots⟩ := ol
        simp only at hcl hdl
        subst hcl; subst hdl
        have hol' : (s.heap.push { cls := .type "set", dict := none, data := .set #[] 0 (.fresh 0 0 (!w.params.followText "set-order")) }).get? l = some { cls := .type "tuple", dict := odict, data := .seq items nl, slots := oslots } := Heap.get?_push_of_some _ hol
        have hsls := PySem.F.sub_tuple_set
        have hslf := PySem.F.sub_tuple_frozenset
        have hne : (Value.type "tuple" == Value.type "dict") = false := by decide
        have hl1 : (s.heap.push { cls := .type "set", dict := none, data := .set #[] 0 (.fresh 0 0 (!w.params.followText "set-order")) }).IsTuple l items := ⟨_, hol', rfl, nl, rfl⟩
        unfold Builtin.«set.__init__» noKeywords Builtin.Frozenset.updateFrom
        generalize hPI : pyIter = PI
        wp_walk
        subst hPI
        refine wpAny_pyIter_tuple hl1 ?_
        refine wpAny_bind (wpAny_runValue ?_)
        have hlS : l < s.heap.objs.size := Heap.lt_size hol
        have hh3 : A.in1.in1.in1.handled = none := by simp [hh]
        have hneI : l ≠ (s.heap.push { cls := .type "set", dict := none, data := .set #[] 0 (.fresh 0 0 (!w.params.followText "set-order")) }).objs.size := by
          rw [Heap.size_push]; exact Nat.ne_of_lt (Nat.lt_succ_of_lt hlS)
        have hSf : s.heap.objs.size ∉ [(s.heap.push { cls := .type "set", dict := none, data := .set #[] 0 (.fresh 0 0 (!w.params.followText "set-order")) }).objs.size, l] := by
          rw [Heap.size_push]; simp only [List.mem_cons, List.mem_singleton, List.not_mem_nil, or_false, not_or]
          exact ⟨Nat.ne_of_lt (Nat.lt_succ_self _), Nat.ne_of_gt hlS⟩
        refine loopSK ((Walks.tuple hh3 _ l hneI items).toS) s.heap.objs.size
          hSf val hb hval (items.size - 0) 0 _ (by omega) (Nat.zero_le _)
          ⟨⟨_, Heap.get?_push_size _ rfl, rfl, rfl⟩, (hl1.push _)⟩ ?hS0 ?hR
        case hS0 =>
          exact (sk_fresh (P := prog) (w := w) (h := s.heap)).at fun o ho => Heap.get?_push_of_some _ ho
        case hR =>
          intro s' hm hS'
          obtain ⟨h', g', d', tk', os'⟩ := s'
          have eg : g' = s.gens := hm.gens
          have ed : d' = s.drawn := hm.drawn
          have eo : os' = s.os := hm.os
          subst eg; subst ed; subst eo
          show wpAny _ _ _ _ _ _
          refine wpAny_pure ?_
          show wpAny _ _ (ret Value.none) _ _ _
          refine wpAny_pure ⟨rfl, h', tk', rfl, hS', fun b o hb e => ?_⟩
          have hb1 : b ≠ s.heap.objs.size := Nat.ne_of_lt hb
          have hb2 : b ≠ (s.heap.push { cls := .type "set", dict := none, data := .set #[] 0 (.fresh 0 0 (!w.params.followText "set-order")) }).objs.size := by
            rw [Heap.size_push]; exact Nat.ne_of_lt (Nat.lt_succ_of_lt hb)
          exact hm.heap b o (by simp only [List.mem_cons, List.mem_singleton, List.not_mem_nil, or_false, not_or]; exact ⟨hb1, hb2⟩) (Heap.get?_push_of_some _ (Heap.get?_push_of_some _ e))
      · cases r₂ with
        | error e => exact hr₂
        | ok fl₂ =>
          cases fl₂ with
          | ret r =>
            obtain ⟨rfl, h', tk, rfl, hS', hk'⟩ := hr₂
            repeat (any_goals (first | assumption | wp_step))
            exact h _ _ hS' hk'
          | _ => exact hr₂.elim
    | _ => exact hr.elim
end
end DL
namespace DL
open L2 PyProof.Rows PySem PySem.Spec
def kD : Key → D
  | .inl i => .int i
  | .inr x => .str x
def leftsQ : List Key → Option (List Int)
  | [] => some []
  | .inl i :: l => (leftsQ l).map fun ns => i :: ns
  | .inr _ :: _ => none
def rightsQ : List Key → Option (List Str)
  | [] => some []
  | .inr i :: l => (rightsQ l).map fun ns => i :: ns
  | .inl _ :: _ => none
theorem lefts_eq : ∀ {ks : List Key} {ns : List Int}, leftsQ ks = some ns → ks = ns.map Sum.inl
  | [], _, h => by cases h; rfl
  | .inl i :: l, _, h => by
    obtain ⟨ms, e, rfl⟩ := Option.map_eq_some_iff.mp h
    rw [lefts_eq e]; rfl
  | .inr _ :: _, _, h => by cases h
theorem rights_eq : ∀ {ks : List Key} {ns : List Str}, rightsQ ks = some ns → ks = ns.map Sum.inr
  | [], _, h => by cases h; rfl
  | .inr i :: l, _, h => by
    obtain ⟨ms, e, rfl⟩ := Option.map_eq_some_iff.mp h
    rw [rights_eq e]; rfl
  | .inl _ :: _, _, h => by cases h
theorem lefts_map : ∀ l : List Int, leftsQ (l.map Sum.inl) = some l
  | [] => rfl
  | i :: l => by show (leftsQ (l.map Sum.inl)).map _ = _; rw [lefts_map l]; rfl
theorem rights_map : ∀ l : List Str, rightsQ (l.map Sum.inr) = some l
  | [] => rfl
  | i :: l => by show (rightsQ (l.map Sum.inr)).map _ = _; rw [rights_map l]; rfl
/-- the members in order -/
def sortKs (ks : List Key) : Option (List Key) := match leftsQ ks with
  | some ns => some ((sortT ltI (uniqT ns)).map Sum.inl)
  | none => (rightsQ ks).map fun xs => (sortT ltS (uniqT xs)).map Sum.inr
theorem kD_inl (l : List Int) : (l.map Sum.inl).map kD = l.map eI := by rw [List.map_map]; rfl
theorem kD_inr (l : List Str) : (l.map Sum.inr).map kD = l.map eS := by rw [List.map_map]; rfl
theorem uniq_inl (l : List Int) : uniq (l.map Sum.inl) = (uniqT l).map Sum.inl := uniq_map Sum.inl (fun a b e => Sum.inl.inj e) l []
theorem uniq_inr (l : List Str) : uniq (l.map Sum.inr) = (uniqT l).map Sum.inr := uniq_map Sum.inr (fun a b e => Sum.inr.inj e) l []
theorem perm_map_inv {α β : Type} (f : α → β) (g : β → α) (hg : ∀ a, g (f a) = a) {kk : List β} {l : List α} (p : kk.Perm (l.map f)) : kk = (kk.map g).map f ∧ (kk.map g).Perm l := by
  constructor
  · rw [List.map_map]
    refine (List.map_id kk).symm.trans (List.map_congr_left fun x hx => ?_)
    obtain ⟨a, _, rfl⟩ := List.mem_map.mp (p.mem_iff.mp hx)
    show f a = f (g (f a))
    rw [hg]
  · have q := p.map g
    rw [List.map_map] at q
    have e : l.map (g ∘ f) = l := (List.map_congr_left fun a _ => hg a).trans (List.map_id l)
    rwa [e] at q
theorem sort_keys {ks kk ys : List Key} (h : sortKs ks = some ys) (p : kk.Perm (uniq ks)) : sortOk (kk.map kD) = true ∧ (kk.map kD).mergeSort sortLe = ys.map kD := by
  unfold sortKs at h
  split at h
  · rename_i ns hl
    cases h
    have e := lefts_eq hl
    subst e
    rw [uniq_inl] at p
    obtain ⟨e1, e2⟩ := perm_map_inv Sum.inl (fun k : Key => match k with | .inl i => i | .inr _ => (0 : Int)) (fun _ => rfl) p
    generalize kk.map (fun k : Key => match k with | .inl i => i | .inr _ => (0 : Int)) = mm at e1 e2
    subst e1
    rw [kD_inl, kD_inl]
    exact ⟨sortOk_map rdI mm (soI.on mm), by rw [sortD_map rdI, sort_of_perm loI e2]⟩
  · obtain ⟨xs, hr, rfl⟩ := Option.map_eq_some_iff.mp h
    have e := rights_eq hr
    subst e
    rw [uniq_inr] at p
    obtain ⟨e1, e2⟩ := perm_map_inv Sum.inr (fun k : Key => match k with | .inl _ => Str.empty | .inr x => x) (fun _ => rfl) p
    generalize kk.map (fun k : Key => match k with | .inl _ => Str.empty | .inr x => x) = mm at e1 e2
    subst e1
    rw [kD_inr, kD_inr]
    exact ⟨sortOk_map rdS mm (soS.on mm), by rw [sortD_map rdS, sort_of_perm loS e2]⟩
def sortsetD : D → Option D := fun d => (listOf d).bind fun ds => if Nat.blt ds.length 4000 = true then (keysQ ds).bind fun ks => (sortKs ks).map fun ys => .list (ys.map kD) else none
theorem dv_sortsetLI {l : List Int} (h : l.length < 4000) : sortsetD (eL eI l) = some (eL eI (sortT ltI (uniqT l))) := by
  show (if _ then _ else _) = _
  rw [if_pos (by rw [List.length_map]; exact Nat.ble_eq.mpr h), keysQ_I]
  show (sortKs _).map _ = _
  unfold sortKs
  rw [lefts_map]
  show some (PyData.list _) = _
  rw [kD_inl]; rfl
theorem dv_sortsetTI {l : List Int} (h : l.length < 4000) : sortsetD (eT eI l) = some (eL eI (sortT ltI (uniqT l))) := dv_sortsetLI h
theorem dv_sortsetLS {l : List Str} (h : l.length < 4000) : sortsetD (eL eS l) = some (eL eS (sortT ltS (uniqT l))) := by
  show (if _ then _ else _) = _
  rw [if_pos (by rw [List.length_map]; exact Nat.ble_eq.mpr h), keysQ_S]
  show (sortKs _).map _ = _
  unfold sortKs
  cases l with
  | nil =>
    have e1 : sortT ltI (uniqT []) = [] := List.mergeSort_nil
    have e2 : sortT ltS (uniqT []) = [] := List.mergeSort_nil
    show some (PyData.list _) = some (PyData.list _)
    rw [e1, e2]; rfl
  | cons x l =>
    show ((rightsQ ((x :: l).map Sum.inr)).map _).map _ = _
    rw [rights_map]
    show some (PyData.list _) = _
    rw [kD_inr]; rfl
theorem dv_sortsetTS {l : List Str} (h : l.length < 4000) : sortsetD (eT eS l) = some (eL eS (sortT ltS (uniqT l))) := dv_sortsetLS h
def vk (v : Value) : Key := match v with
  | .int k _ => .inl k
  | .str x _ => .inr x
  | _ => .inl 0
theorem vk_rel {k : Key} {v : Value} (r : RelV (kV k) v) : vk v = k := by
  cases k with
  | inl i => obtain ⟨t, rfl⟩ := r; rfl
  | inr x => obtain ⟨t, rfl⟩ := r; rfl
theorem dn_key (K : Fg) (G : Hp) (k : Key) : Dn K G (kV k) (kD k) := by
  cases k with
  | inl i => exact .int i
  | inr x => exact .str x
theorem dn_keysL (K : Fg) (G : Hp) : ∀ ks : List Key, DnL K G (ks.map kV) (ks.map kD)
  | [] => .nil
  | k :: ks => .cons (dn_key K G k) (dn_keysL K G ks)
theorem each_dn (K : Fg) (G : Hp) : ∀ vs : List Value, (∀ v ∈ vs, RelV (kV (vk v)) v) → PySem.W.EachIs (fun u d => ∃ v, RelV v u ∧ Dn K G v d) vs ((vs.map vk).map kD)
  | [], _ => .nil
  | v :: vs, h => .cons ⟨_, h v (by simp), dn_key K G _⟩ (each_dn K G vs fun u hu => h u (by simp [hu]))
theorem key_reads {h : Heap} {k : Key} {v : Value} (r : RelV (kV k) v) : Reads h v (kD k) [] := by
  cases k with
  | inl i => obtain ⟨t, rfl⟩ := r; exact .int i t
  | inr x => obtain ⟨t, rfl⟩ := r; exact .str x t
theorem each_reads {h : Heap} {a : Addr} : ∀ vs : List Value, (∀ v ∈ vs, RelV (kV (vk v)) v) → PySem.W.EachIs (fun v d => ∃ as, Reads h v d as ∧ a ∉ as) vs ((vs.map vk).map kD)
  | [], _ => .nil
  | v :: vs, h => .cons ⟨[], key_reads (h v (by simp)), by simp⟩ (each_reads vs fun u hu => h u (by simp [hu]))
section
variable {X : Cx}
def tSortSet (K : Fg) (ta : TE) : TE := fun σ H Q => ta σ H fun x H1 => ∃ (l : Addr) (ks ys : List Key), x = .ref l ∧ (SqL K H1 l (ks.map kV) ∨ SqT K H1 l (ks.map kV)) ∧ ks.length < 4000 ∧ sortKs ks = some ys ∧
  ∀ (p : Addr) (vs : List V), H1 p = none → DnL K (fun _ => none) vs (ys.map kD) → Q (.ref p) (upd H1 p (.lst vs))
theorem pe_sortSet {a : Expr} {ta : TE} {p p2 q pos : Pos} (hc : X.calm = true) (hu : X.A.units + 64 < cLine) (hg : Gl X "sorted") (hm : X.mg "sorted" = none) (hg2 : Gl X "set") (hm2 : X.mg "set" = none) (ha : PE X a ta)
    (na : starEach [a] X.env = (false, eval a X.env) :: starEach [] X.env := by rfl)
    (ns : starEach [.Call (.Name "set" p2) [a] [] q] X.env = (false, eval (.Call (.Name "set" p2) [a] [] q) X.env) :: starEach [] X.env := by rfl) : PE X (.Call (.Name "sorted" p) [.Call (.Name "set" p2) [a] [] q] [] pos) (tSortSet X.K ta) := by
  refine ⟨fun pins s σ H Q I h => ?_⟩
  refine Call_ (ld_blt I hg hm PyProof.Rows.boot_sorted ?_)
  refine PyProof.Rows.callWith_builtin1 (PyProof.Rows.args_cons ?_ ns) rfl rfl
  refine Call_ (ld_blt I hg2 hm2 boot_set ?_)
  refine PyProof.Rows.callWith_type1 (PyProof.Rows.args_cons (thn (ha.run pins s σ H _ I h) fun v s1 ⟨x, H1, I1, r1, q1⟩ => PyProof.Rows.args_nil ?_) na) na rfl
  obtain ⟨l, ks, ys, rfl, hq, hlt, hys, q1⟩ := q1
  cases r1
  have key : ∃ its : List Value, its.length = ks.length ∧ Vals (ks.map kV) its ∧ (s1.heap.IsList l its.toArray ∨ s1.heap.IsTuple l its.toArray) := by
    rcases hq with hq | hq
    · obtain ⟨its, r, pl, hz⟩ := I1.list hq
      exact ⟨its, by rw [← r.length, List.length_map], r, .inl pl.isList⟩
    · obtain ⟨its, r, pl, hz⟩ := I1.tuple hq
      exact ⟨its, by rw [← r.length, List.length_map], r, .inr pl⟩
  obtain ⟨its, hl, rv, hs⟩ := key
  have hsz : its.toArray.size = ks.length := by rw [List.size_toArray, hl]
  have hval : ∀ (i : Nat) (v : Value), its.toArray[i]? = some v → RelV (kV (ks.getD i (.inl 0))) v := fun i v e => keys_rel rv i v (by simpa using e)
  have hroom : its.toArray.size + 1 < scanBound := by rw [hsz]; unfold scanBound; omega
  have hcall : ∀ {Q : Value → Shared → Prop} {E : Value → Shared → Prop} {A : Around}, A.handled = none → (∀ (h' : Heap) (tk : Nat), SKo X.prog X.w h' s1.heap.objs.size (uniq ks) → (∀ b o, s1.heap.get? b = some o → h'.get? b = some o) → Q (.ref s1.heap.objs.size) { s1 with heap := h', toks := tk }) → wpAny (model X.prog X.w) A (call (.type "set") [.ref l]) Q E s1 := by
    intro Q E A hh k
    have fin : ∀ (h' : Heap) (tk : Nat), SKo X.prog X.w h' s1.heap.objs.size (metK (fun i => ks.getD i (.inl 0)) its.toArray.size) →
      (∀ b o, b < s1.heap.objs.size → s1.heap.get? b = some o → h'.get? b = some o) → Q (.ref s1.heap.objs.size) { s1 with heap := h', toks := tk } := fun h' tk hS hk => k h' tk (by rw [hsz, metK_uniq] at hS; exact hS) fun b o e => hk b o (Heap.lt_size e) e
    rcases hs with hs | hs
    · exact call_set_skL _ hh hs hval hroom fin
    · exact call_set_skT _ hh hs hval hroom fin
  refine hcall (I1.ok.hd hc) fun h' tk hS hk => ?_
  refine PyProof.Rows.args_nil ?_
  have I2 : Inv X pins σ H1 { s1 with heap := h', toks := tk } := I1.kept hk
  obtain ⟨o, es, ep, t, ho, hex, hd, g, pm, nd, hb, hf, hr, hled⟩ := hS
  refine Calls.call_function_entry kind_sorted plain_sorted entry_sorted (args_sorted1 _) ?_
  unfold Builtin.«sorted»
  refine wpAny_bind (m := PySem.checkCount "sorted" 1 1 _) (wpAny_pure ?_)
  refine wpAny_bind (collect_set (A := X.A.in1) (I1.ok.hd hc) ⟨o, ho, hex.1, hd⟩ hf hb hr hled fun s2 vs k1 hz g1 o1 pv => ?_)
  have hvk : ∀ v ∈ vs, RelV (kV (vk v)) v := fun v hv => by
    obtain ⟨e, he, rfl⟩ := List.mem_map.mp (pv.mem_iff.mp hv)
    have q := (g e he).1
    rw [vk_rel q]
    exact q
  have pk : (vs.map vk).Perm (uniq ks) := by
    have q := pv.map vk
    rw [List.map_map] at q
    have e : es.toList.map (vk ∘ fun x => x.2) = es.toList.map kOf := List.map_congr_left fun x hx => vk_rel (g x hx).1
    rw [e] at q
    exact q.trans pm
  obtain ⟨hc1, hsrt⟩ := sort_keys hys pk
  unfold sortOk at hc1
  rw [Bool.and_eq_true, Bool.and_eq_true, plOk_iff, Bool.or_eq_true] at hc1
  obtain ⟨⟨hal, hp, hdp⟩, hk'⟩ := hc1
  have hu1 : (uniq ks).length ≤ ks.length := by
    have := metK_le (fun i => ks.getD i (.inl 0)) ks.length
    rwa [metK_uniq] at this
  have hvl : vs.length ≤ 4000 := by
    have := pk.length_eq
    rw [List.length_map] at this
    omega
  have hsl := sizeLine_eq
  refine wpAny_bind (wpAny_newList ?_ (by omega))
  have hnew : (s2.heap.push { cls := .type "list", data := .seq vs.toArray }).get? s2.heap.objs.size = some (seqObj "list" vs.toArray 0) := by
    rw [Heap.get?_push_size _ rfl]
  refine wpAny_bind (wpAny_holding ?_)
  refine PySem.W.list_sort_data (enc := fun d : D => d) (vs := vs) hnew (each_dn X.K (fun _ => none) vs hvk) (each_reads vs hvk) (by rw [List.map_id']; exact allAlike_iff hal) (by
      rw [List.map_id']
      rcases hk' with h | h
      · refine .inl fun d hd => ?_
        have := List.all_eq_true.mp h d hd
        unfold tup1 at this
        split at this
        · exact ⟨_, _, rfl⟩
        · cases this
      · refine .inr fun d hd => ?_
        have := List.all_eq_true.mp h d hd
        exact ⟨fun e => (by subst e; cases this), fun xs e => (by subst e; cases this)⟩) (by rw [List.length_map, List.length_map]; omega) (fun b hb => by have := depth_mem hb; show X.A.units + 1 + 1 + _ < _; omega) fun out ho' he => ?_
  have es' : ((vs.map vk).map kD).mergeSort (PySem.W.dataLe false fun d : D => d) = ys.map kD := by
    rw [PySem.W.dataLe_eq, ← hsrt]
    rfl
  rw [es'] at he
  obtain ⟨zs, r1, r2⟩ := eachV_out he
  obtain ⟨e, hx⟩ := PyProof.Rows.sortedHeap_at (out := out.toArray) hnew
  have kp2 : ∀ b u, h'.get? b = some u → s2.heap.get? b = some u := k1
  have kp3 : ∀ b u, h'.get? b = some u → (sortedHeap (s2.heap.push { cls := .type "list", data := .seq vs.toArray }) s2.heap.objs.size vs out.toArray).get? b = some u := fun b u q1 => by
    have q2 := kp2 b u q1
    have hlt := Heap.lt_size q2
    have h2 : b < (s2.heap.push { cls := .type "list", data := .seq vs.toArray }).objs.size := by
      rw [Heap.size_push]
      exact Nat.lt_succ_of_lt hlt
    rw [PyProof.Rows.sortedHeap_old (Nat.ne_of_lt hlt) h2]
    exact Heap.get?_push_of_some _ q2
  have hf2 : H1 s2.heap.objs.size = none := I2.hok.fresh hz
  have hzl : zs.length ≤ sizeLine := by
    have q1 := r2.length
    have q2 := congrArg List.length hsrt
    rw [List.length_mergeSort, List.length_map, List.length_map] at q2
    omega
  refine wpAny_pure ⟨_, rfl, .ref _, upd H1 s2.heap.objs.size (.lst zs), I2.call' (ch := []) o1 (Un.laid kp3 hz hf2) (I2.hok.laid kp3 hz (o := .lst zs) ⟨hzl, out, e, r1, hx⟩) (by show AllBare s2.gens; rw [g1]; exact I2.bare) (fun _ z => nomatch z), rfl, q1 _ zs hf2 r2⟩
theorem ep_sortset {a : Expr} {fa : Rho → Option D} {k1 : Kd} {p p2 q pos : Pos} (hc : X.calm = true) (hu : X.A.units + 64 < cLine) (hg : Gl X "sorted") (hm : X.mg "sorted" = none) (hg2 : Gl X "set") (hm2 : X.mg "set" = none) (ha : EP X k1 a fa)
    (na : starEach [a] X.env = (false, eval a X.env) :: starEach [] X.env := by rfl)
    (ns : starEach [.Call (.Name "set" p2) [a] [] q] X.env = (false, eval (.Call (.Name "set" p2) [a] [] q) X.env) :: starEach [] X.env := by rfl) : EP X .f (.Call (.Name "sorted" p) [.Call (.Name "set" p2) [a] [] q] [] pos) (pu1 sortsetD fa) := by
  obtain ⟨t, h1, h2⟩ := ha.ex
  refine ⟨_, pe_sortSet hc hu hg hm hg2 hm2 h1 na ns, fun F σ H ρ d ρ' Q R hf k => ?_⟩
  obtain ⟨hf, rfl⟩ := lift_some.mp hf
  obtain ⟨x, e1, e2⟩ := Option.bind_eq_some_iff.mp hf
  refine h2 F σ H ρ' x ρ' _ R (lift_some.mpr ⟨e1, rfl⟩) fun v H1 p1 r1 => ?_
  obtain ⟨ds, e3, e4⟩ := Option.bind_eq_some_iff.mp e2
  obtain ⟨ok, e4⟩ : Nat.blt ds.length 4000 = true ∧ (keysQ ds).bind (fun ks => (sortKs ks).map fun ys => PyData.list (ys.map kD)) = some d := by
    cases q : Nat.blt ds.length 4000 with
    | true => rw [if_pos q] at e4; exact ⟨rfl, e4⟩
    | false => rw [if_neg (by rw [q]; decide)] at e4; cases e4
  obtain ⟨ks, e5, e6⟩ := Option.bind_eq_some_iff.mp e4
  obtain ⟨ys, e7, rfl⟩ := Option.map_eq_some_iff.mp e6
  have hseq : ∃ (l : Addr) (xs : List V), v = .ref l ∧ (SqL X.K H1 l xs ∨ SqT X.K H1 l xs) ∧ DnL X.K (hide H1 (Ow F σ ρ')) xs ds := by
    rcases listOf_some e3 with rfl | rfl
    · obtain ⟨l, xs, rfl, g1, g2⟩ := r1.bw.list
      exact ⟨l, xs, rfl, .inl g1, g2⟩
    · obtain ⟨l, xs, rfl, g1, g2⟩ := r1.bw.tuple
      exact ⟨l, xs, rfl, .inr (.inl (.of (hide_some.mp g1).2)), g2⟩
  obtain ⟨l, xs, rfl, g1, g2⟩ := hseq
  have := dn_keys g2 e5
  subst this
  have hlen := g2.length
  rw [List.length_map] at hlen
  refine ⟨l, ks, ys, rfl, g1, ?_, e7, fun q vs hq hv => ?_⟩
  · have := Nat.le_of_ble_eq_true ok
    omega
  · exact k _ _ (p1.more (sameNew hq)) (.of p1.rl (sameNew hq) (newL (kd := .f) trivial hq p1.rl.domL (hv.mono (fun b o z => absurd z (by simp)))) p1.ev.dom)
end
end DL
namespace DL
open L2 PyProof.Rows PySem PySem.Spec
/-- a tuple of a text and two or three numbers -/
abbrev Deed := Str × Int × Int × Option Int
def eQ (d : Deed) : D := match d.2.2.2 with
  | none => .tuple [eS d.1, eI d.2.1, eI d.2.2.1]
  | some c => .tuple [eS d.1, eI d.2.1, eI d.2.2.1, eI c]
def q3 (p : Str × Int × Int) : Deed := (p.1, p.2.1, p.2.2, none)
def q4 (p : Str × Int × Int × Int) : Deed := (p.1, p.2.1, p.2.2.1, some p.2.2.2)
def qFour (d : Deed) : Str × Int × Int × Int := (d.1, d.2.1, d.2.2.1, d.2.2.2.getD 0)
theorem eQ_3 (p : Str × Int × Int) : eP3 eS eI eI p = eQ (q3 p) := rfl
theorem eQ_4 (p : Str × Int × Int × Int) : eP4 eS eI eI eI p = eQ (q4 p) := rfl
theorem dv_q0 (d : Deed) : ixD (eQ d) (eI 0) = some (eS d.1) := by
  obtain ⟨s, a, b, c⟩ := d
  cases c <;> rfl
theorem dv_q1 (d : Deed) : ixD (eQ d) (eI 1) = some (eI d.2.1) := by
  obtain ⟨s, a, b, c⟩ := d
  cases c <;> rfl
theorem dv_q2 (d : Deed) : ixD (eQ d) (eI 2) = some (eI d.2.2.1) := by
  obtain ⟨s, a, b, c⟩ := d
  cases c <;> rfl
section
variable {f : Rho → Option D} {ρ : Rho}
theorem vQ3 {p : Str × Int × Int} (h : f ρ = some (eP3 eS eI eI p)) : f ρ = some (eQ (q3 p)) := h
theorem vQ4 {p : Str × Int × Int × Int} (h : f ρ = some (eP4 eS eI eI eI p)) : f ρ = some (eQ (q4 p)) := h
theorem vQF {d : Deed} (hd : d.2.2.2 ≠ none) (h : f ρ = some (eQ d)) : f ρ = some (eP4 eS eI eI eI (qFour d)) := by
  rw [h]
  obtain ⟨s, a, b, c⟩ := d
  cases c with
  | none => exact absurd rfl hd
  | some c => rfl
end
/-- among, place, number of, told by the equality that the rules speak of -/
abbrev memD {α : Type} [DecidableEq α] (x : α) (l : List α) : Bool := decide (x ∈ l)
abbrev idxD {α : Type} [DecidableEq α] (x : α) (l : List α) : Nat := List.idxOf x l
abbrev cntD {α : Type} [DecidableEq α] (x : α) (l : List α) : Nat := List.count x l
theorem beq_one {α : Type} [d : DecidableEq α] [b : BEq α] [L : @LawfulBEq α b] : b = instBEqOfDecidableEq := by
  have key : ∀ x y, b.beq x y = decide (x = y) := fun x y => by
    rw [Bool.eq_iff_iff]
    exact (@beq_iff_eq α b L x y).trans decide_eq_true_iff.symm
  obtain ⟨f⟩ := b
  congr 1
  funext x y
  exact key x y
theorem idxD_eq {α : Type} [DecidableEq α] [BEq α] [LawfulBEq α] (x : α) (l : List α) : idxD x l = l.idxOf x := by
  unfold idxD
  rw [← beq_one]
theorem memD_eq {α : Type} [DecidableEq α] (x : α) (l : List α) : memD x l = true ↔ x ∈ l := decide_eq_true_iff
end DL
namespace DL
open L2 PyProof.Rows PySem PySem.Spec
/-- a function told by another global name y -/
def DefA (K : Fg) (mg : Str → Option Value) (y x : Str) (st : Stmt) (ps : List Str) : Prop :=
  ∃ (f : Addr) (fd : FuncData), Fun K x x st f fd ∧ mg y = some (.ref f) ∧ Binds K fd ps []
section
variable {P : Program} {w : World} {K : Fg} {mg : Str → Option Value} {base : Heap} {x y : Str} {st : Stmt} {N ps : List Str} {k j : Nat} {kr : Kd}
theorem entA_pure (T : DefA K mg y x st ps) {b : Sf} (S : FnScope N ps (defScope st))
    (hbody : ∀ (f : Addr) (cdv : Value) (A : Around) (outer : List Env) (s : Shared) (H : Hp) (E : XK), Room k (A.deeper (envOfC x (defScope st) s.heap.objs.size f cdv)) → SB (cxOf CX0 P w K mg base N x (defScope st) f cdv A outer s H E).nox .k (defBody st) b) :
    Ent P w K mg base (k + 1) y ps (spP K ps.length .k (fnP N.length b)) := by
  obtain ⟨f, fd, F, hm, hb⟩ := T
  exact ⟨f, fd, fn_pure (.inl rfl) F S (hbody f) (fun h => by cases h), hm, F.kp, hb, fun_at F⟩
theorem entA_fresh (T : DefA K mg y x st ps) {b : Sf} (S : FnScope N ps (defScope st)) (hn : NoNx b)
    (hbody : ∀ (f : Addr) (cdv : Value) (A : Around) (outer : List Env) (s : Shared) (H : Hp) (E : XK), Room k (A.deeper (envOfC x (defScope st) s.heap.objs.size f cdv)) → SB (cxOf CX0 P w K mg base N x (defScope st) f cdv A outer s H E).nox .f (defBody st) b) :
    Ent P w K mg base (k + 1) y ps (spP K ps.length .f (fnP N.length b)) := by
  obtain ⟨f, fd, F, hm, hb⟩ := T
  exact ⟨f, fd, fn_pure (.inr rfl) F S (hbody f) (fun _ => hn), hm, F.kp, hb, fun_at F⟩
end
/-! name += tuple -/
theorem noI_tuple_add : typeLookup (.type "tuple") (dunderI "add") = pure none := by rw [typeLookup_type, builtinLookup_eq_fast]; kernel_rfl
section
variable {prog : Program} {w : World} {A : Around} {E : Value → Shared → Prop} {s : Shared}
theorem icat_tup {t b : Addr} {vs ws : List Value} {Q : Value → Shared → Prop} (ht : IsTup s.heap t vs.toArray) (hb : IsTup s.heap b ws.toArray)
    (h0 : vs = [] → Q (.ref b) s) (h1 : vs ≠ [] → ws = [] → Q (.ref t) s) (h2 : vs ≠ [] → ws ≠ [] → Q (.ref s.heap.objs.size) { s with heap := s.heap.push { cls := .type "tuple", data := .seq (vs ++ ws).toArray } })
    (hsz : vs.length + ws.length ≤ sizeLine) : wpAny (model prog w) A (inplaceOp .Add (.ref t) (.ref b)) Q E s := by
  obtain ⟨⟨cls, dd, data, sl⟩, ho, hc, n, hd⟩ := id ht
  obtain ⟨⟨cls2, dd2, data2, sl2⟩, ho2, hc2, n2, hd2⟩ := id hb
  simp only at hc hd hc2 hd2
  subst hc hd hc2 hd2
  have e : vs.toArray ++ ws.toArray = (vs ++ ws).toArray := by simp
  have T1 : s.TypeIs (.ref t) "tuple" := ⟨_, ho, rfl⟩
  have T2 : s.TypeIs (.ref b) "tuple" := ⟨_, ho2, rfl⟩
  by_cases hv : vs = []
  · exact wpAny_inplaceOp_concat T1 T2 noI_tuple_add noFill_tuple_add seq_tuple_add (call_meets PySem.F.slot_tuple_add T1 PySem.F.entry_tuple_add (PySem.F.args_tuple_add_2 _ _)
      (tuple_addW0 t b vs.toArray ws.toArray n n2 dd dd2 sl sl2 (by simp [hv])) ⟨ho, ho2, h0 hv⟩)
  · by_cases hw : ws = []
    · exact wpAny_inplaceOp_concat T1 T2 noI_tuple_add noFill_tuple_add seq_tuple_add (call_meets PySem.F.slot_tuple_add T1 PySem.F.entry_tuple_add (PySem.F.args_tuple_add_2 _ _)
        (tuple_addW1 t b vs.toArray ws.toArray n n2 dd dd2 sl sl2 (by simpa using hv) (by simp [hw])) ⟨ho, ho2, h1 hv hw⟩)
    · refine wpAny_inplaceOp_concat T1 T2 noI_tuple_add noFill_tuple_add seq_tuple_add (call_meets PySem.F.slot_tuple_add T1 PySem.F.entry_tuple_add (PySem.F.args_tuple_add_2 _ _)
        (tuple_addW2 t b vs.toArray ws.toArray n n2 dd dd2 sl sl2 (by simpa using hv) (by simpa using hw) (by rw [List.size_toArray, List.size_toArray]; exact hsz)) ⟨ho, ho2, ?_⟩)
      rw [e]
      exact h2 hv hw
end
def augT : D → D → Option D
  | .tuple xs, .tuple ys => if Nat.ble (xs.length + ys.length) lim = true then some (.tuple (xs ++ ys)) else none
  | _, _ => none
section
variable {X : Cx}
theorem ia_tup : IpD X .k .Add augT := by
  intro pins s σ H x y v u Q I rx ry ⟨O, d, e, z, dom, bx, by', hz, k⟩
  unfold augT at hz
  split at hz
  · obtain ⟨hl, rfl⟩ := ite_some hz
    obtain ⟨a, xs, rfl, h1, t1⟩ := bx.tuple
    obtain ⟨b, ys, rfl, h2, t2⟩ := by'.tuple
    have tt := t1.append t2
    cases rx
    cases ry
    obtain ⟨its, r1, p1, _⟩ := I.tuple (.inl (.of (hide_sub _ _ h1)))
    obtain ⟨its2, r2, p2, _⟩ := I.tuple (.inl (.of (hide_sub _ _ h2)))
    have hz2 : its.length + its2.length ≤ sizeLine := by rw [← r1.length, ← r2.length, t1.length, t2.length]; exact lim_ble hl
    refine icat_tup p1 p2 (fun z => ?_) (fun _ z => ?_) (fun _ _ => ?_) hz2
    · subst z
      cases r1
      cases t1
      exact ⟨.ref b, H, I, rfl, k _ H (.refl _) (.tup h2 t2)⟩
    · subst z
      cases r2
      cases t2
      refine ⟨.ref a, H, I, rfl, k _ H (.refl _) (.tup h1 ?_)⟩
      rw [List.append_nil]
      exact t1
    · refine ⟨.ref s.heap.objs.size, _, I.laid (t' := s.toks) (o := .tup (xs ++ ys)) (fun b ob q => Heap.get?_push_of_some _ q) (Nat.le_refl _) ?_, rfl, k _ _ (sameNew (I.hok.fresh (Nat.le_refl _))) (newT (I.hok.fresh (Nat.le_refl _)) dom tt)⟩
      exact ⟨by rw [List.length_append, t1.length, t2.length]; exact lim_ble hl, _, r1.append r2, IsTup.new _ _⟩
  · cases hz
end
section
variable {ρ : Rho} {f : Rho → Option D} {i : Nat} {rest : Sf} {α β : Type} {K : β → Out → Prop}
theorem rn_augT {enc : α → D} {e0 e : List α} {k : List α → β} {s2 : List α → Prop} (ρ2 : List α → Rho) (h0 : vP i ρ = some (eT enc e0)) (hf : f ρ = some (eT enc e)) (hl : e0.length + e.length ≤ 16777216) (hs : lt (e0 ++ e) s2) (hk : ∀ x, s2 x → Rn rest (ρ2 x) (Kf K (k x))) (h : ∀ x : List α, setP i (eT enc x) ρ = some (ρ2 x) := by intro _; rfl) : Rn (sSeq (sAug i augT (lift f)) rest) ρ (Kf K (lt (e0 ++ e) k)) := by
  refine seq_nx ?_ (hk _ hs)
  unfold sAug
  rw [h0, Option.bind_some, lift_eq, hf]
  show ((augT (eT enc e0) (eT enc e)).bind _) = _
  have : augT (eT enc e0) (eT enc e) = some (eT enc (e0 ++ e)) := by
    show (if Nat.ble ((e0.map enc).length + (e.map enc).length) lim = true then some (PyData.tuple (e0.map enc ++ e.map enc)) else none) = _
    rw [if_pos (by rw [List.length_map, List.length_map]; exact Nat.ble_eq.mpr hl), ← List.map_append]
    rfl
  rw [this]
  show (setP i (eT enc (e0 ++ e)) ρ).map _ = _
  rw [h]
  rfl
end
/-- a list or a tuple of numbers -/
abbrev Sq := Bool × List Int
def eG (g : Sq) : D := if g.1 = true then eT eI g.2 else eL eI g.2
theorem vGT {ρ : Rho} {f : Rho → Option D} {l : List Int} (h : f ρ = some (eT eI l)) : f ρ = some (eG (true, l)) := h
theorem vGL {ρ : Rho} {f : Rho → Option D} {l : List Int} (h : f ρ = some (eL eI l)) : f ρ = some (eG (false, l)) := h
theorem dv_inG (x : Int) (g : Sq) : inD (eI x) (eG g) = some (eB (decide (x ∈ g.2))) := by
  obtain ⟨b, l⟩ := g
  cases b
  · exact dv_inL eqI x l
  · exact dv_inT eqI x l
theorem dv_ninG (x : Int) (g : Sq) : ninD (eI x) (eG g) = some (eB (!decide (x ∈ g.2))) := by
  obtain ⟨b, l⟩ := g
  cases b
  · exact dv_ninL eqI x l
  · exact dv_ninT eqI x l
end DL
namespace DL
open L2 PyProof.Rows PySem PySem.Spec
/-! a tuple[::-1] -/
section
variable {prog : Program} {w : World} {A : Around} {E : Value → Shared → Prop} {s : Shared}
theorem applied_rev {sl : Addr} {vl vu vs : Value} {n : Nat} {Q : Int × Int × Nat → Shared → Prop} (hs : s.heap.IsSliceOf sl vl vu vs) (pl : IsPart vl none) (pu : IsPart vu none) (ps : IsPart vs (some (-1)))
    (h : Q ((n : Int) - 1, -1, n) s) : wpAny (model prog w) A (Builtin.Slice.sliceApplied (.ref sl) (pure (n : Int))) Q E s := by
  obtain ⟨os, hos, hcs, hds⟩ := id hs
  unfold Builtin.Slice.sliceApplied Builtin.Slice.sliceFields
  refine wpAny_bind (wpAny_bind (wpAny_field hos hds (x := vl) rfl (wpAny_bind (wpAny_field hos hds (x := vu) rfl (wpAny_bind (wpAny_field hos hds (x := vs) rfl (wpAny_pure ?_)))))))
  refine wpAny_bind (HT.slicePart_ ps ?_)
  show wpAny _ _ (if ((-1 : Int) == 0) = true then _ else _) _ _ s
  rw [if_neg (by decide)]
  refine wpAny_bind (HT.slicePart_ pl (wpAny_bind (HT.slicePart_ pu (wpAny_bind (wpAny_pure ?_)))))
  have e1 : Builtin.Slice.sliceAdjust none none (-1) (n : Int) = ((n : Int) - 1, -1) := rfl
  have e2 : Builtin.Slice.slicePlaces ((n : Int) - 1) (-1) (-1) = n := by
    unfold Builtin.Slice.slicePlaces
    have h1 : ¬ ((-1 : Int) > 0) := by omega
    simp only [h1, if_false]
    have e3 : (-(-1) : Int) = 1 := by omega
    rw [e3, Int.ediv_one]
    split <;> omega
  show wpAny _ _ (match Builtin.Slice.sliceAdjust none none (-1) (n : Int) with | (lo, hi) => pure (lo, (-1 : Int), Builtin.Slice.slicePlaces lo hi (-1))) _ _ s
  rw [e1]
  show wpAny _ _ (pure ((n : Int) - 1, (-1 : Int), Builtin.Slice.slicePlaces ((n : Int) - 1) (-1) (-1))) _ _ s
  rw [e2]
  exact wpAny_pure h
theorem pick_rev (xs : Array Value) : ((List.range xs.size).filterMap fun (k : Nat) => xs[((xs.size : Int) - 1 + (k : Int) * -1).toNat]?).toArray = xs.toList.reverse.toArray := by
  congr 1
  have key : ∀ m, m ≤ xs.size → ((List.range m).filterMap fun (k : Nat) => xs[((xs.size : Int) - 1 + (k : Int) * -1).toNat]?) = xs.toList.reverse.take m := by
    intro m
    induction m with
    | zero => intro _; rfl
    | succ m ih =>
      intro hm
      have hi : m < xs.toList.reverse.length := by rw [List.length_reverse, Array.length_toList]; omega
      rw [List.range_succ, List.filterMap_append, ih (by omega), List.take_succ_eq_append_getElem hi]
      congr 1
      have hx : ((xs.size : Int) - 1 + (m : Int) * -1).toNat < xs.size := by omega
      simp only [List.filterMap_cons, List.filterMap_nil]
      rw [Array.getElem?_eq_getElem hx, List.getElem_reverse]
      simp only [Array.getElem_toList]
      congr 2
      rw [Array.length_toList]
      omega
  rw [key xs.size (Nat.le_refl _), List.take_of_length_le (by rw [List.length_reverse, Array.length_toList]; exact Nat.le_refl _)]
theorem getItem_tuple_rev {t sl : Addr} {items : Array Value} {vl vu vs : Value} {Q : Value → Shared → Prop} (ht : IsTup s.heap t items) (hs : s.heap.IsSliceOf sl vl vu vs) (pl : IsPart vl none) (pu : IsPart vu none) (ps : IsPart vs (some (-1)))
    (h : Q (.ref s.heap.objs.size) { s with heap := s.heap.push { cls := .type "tuple", data := .seq items.toList.reverse.toArray } })
    (hsz : items.size ≤ sizeLine) : wpAny (model prog w) A (getItem (.ref t) (.ref sl)) Q E s := by
  have htake : sizeOk (.seq items.toList.reverse.toArray) := by
    show items.toList.reverse.toArray.size ≤ sizeLine
    rw [List.size_toArray, List.length_reverse, Array.length_toList]
    exact hsz
  obtain ⟨os, hos, hcs, hds⟩ := id hs
  have hTs : s.TypeIs (.ref sl) "slice" := ⟨os, hos, hcs⟩
  unfold getItem
  try with_reducible refine wpAny_holding ?_
  first | refine wpAny_bind (wpAny_pure ?_) | skip
  refine wpAny_bind (wpAny_sequenceKey ht.typeIs (by decide) ?_)
  refine wpAny_bind (wpAny_callSpecial?_slot (name := Str.ofString "__getitem__") ht.typeIs PyProof.Rows.slot_tuple_getitem
    (wpAny_call_entry PyProof.Rows.slot_tuple_getitem ht.typeIs entry_tuple_getitem ?_ (args_tuple_getitem _ _)))
  show wpAny _ _ (Builtin.Tuple.tupleItemsOf (.ref t) >>= _) _ _ s
  refine wpAny_bind (tupleItemsOf_ ht ?_)
  refine wpAny_bind (wpAny_typeOf hTs ?_)
  rw [if_pos (by decide)]
  refine wpAny_bind (applied_rev hs pl pu ps ?_)
  have hno : ¬ (((items.size : Int) - 1 == 0 && (-1 : Int) == 1 && items.size == items.size) = true) := by simp
  show wpAny _ _ (if ((items.size : Int) - 1 == 0 && (-1 : Int) == 1 && items.size == items.size) = true then _ else _) _ _ s
  rw [if_neg hno, pick_rev]
  first
    | exact wpAny_bind (m := Builtin.Tuple.tupleExact _) (wpAny_newObj_type (wpAny_pure ⟨_, rfl, wpAny_pure h⟩) htake)
    | exact wpAny_bind (m := Builtin.Tuple.tupleExact _) (wpAny_newObj_type (wpAny_bind (wpAny_pure (wpAny_pure ⟨_, rfl, wpAny_pure h⟩))) htake)
    | exact wpAny_bind (wpAny_bind (m := Builtin.Tuple.tupleExact _) (wpAny_newObj_type (wpAny_pure (wpAny_pure ⟨_, rfl, wpAny_pure h⟩)) htake))
    | exact wpAny_bind (wpAny_bind (m := Builtin.Tuple.tupleExact _) (wpAny_newObj_type (wpAny_pure ⟨_, rfl, wpAny_pure h⟩) htake))
end
section
variable {X : Cx}
def tRevT (K : Fg) (te : TE) : TE := fun σ H Q => te σ H fun x H1 => ∃ a xs, x = .ref a ∧ SqT K H1 a xs ∧ ∀ p, H1 p = none → Q (.ref p) (upd H1 p (.tup xs.reverse))
theorem pe_revT {e : Expr} {te : TE} {k : Nat} {p1 p2 p3 pos : Pos} (he : PE X e te) : PE X (.Subscript e (.Slice none none (some (.UnaryOp .USub (.Constant (.int 1) k p1) p2)) p3) pos) (tRevT X.K te) := by
  refine ⟨fun pins s σ H Q I h => ?_⟩
  refine Subscript_ (thn (he.run pins s σ H _ I h) fun v s1 ⟨x, H1, I1, r1, q1⟩ => ?_)
  obtain ⟨a, xs, ex, hx, q⟩ := q1
  subst ex
  cases r1
  have hst : PO X (some (.UnaryOp .USub (.Constant (.int 1) k p1) p2)) (tPart (tUn (rU fun i => .int (-i)) (tC (.int 1)))) := po_some (pe_un un_neg pe_int)
  refine wpAny_Slice (thn (po_none.run pins s1 σ H1 (fun o H2 => o = none ∧ H2 = H1) I1 ⟨rfl, rfl⟩) fun vl s2 ⟨l, H2, I2, pl, el, e2⟩ => ?_)
  subst el e2
  refine thn (po_none.run pins s2 σ H2 (fun o H3 => o = none ∧ H3 = H2) I2 ⟨rfl, rfl⟩) fun vu s3 ⟨u, H3, I3, pu, eu, e3⟩ => ?_
  subst eu e3
  refine thn (hst.run pins s3 σ H3 (fun o H4 => o = some (-1) ∧ H4 = H3) I3 ⟨1, rfl, -1, rfl, rfl, rfl⟩) fun vs s4 ⟨o, H4, I4, ps, eo, e4⟩ => ?_
  subst eo e4
  have I5 : Inv X pins σ H4 { s4 with heap := s4.heap.push { cls := .type "slice", data := .fields #[vl, vu, vs] } } := I4.kept (t' := s4.toks) fun b ob q => Heap.get?_push_of_some _ q
  obtain ⟨its, r, ht, hz⟩ := I5.tuple hx
  have hlen := r.length
  show wpAny (model X.prog X.w) X.A (subscriptTail e (.Slice none none (some (.UnaryOp .USub (.Constant (.int 1) k p1) p2)) p3) (.ref a) (.ref s4.heap.objs.size)) (L2.EP X pins σ Q) X.xe { s4 with heap := s4.heap.push { cls := .type "slice", data := .fields #[vl, vu, vs] } }
  refine tail_any (ops := [.ref a, .ref s4.heap.objs.size]) ht.typeIs (PyProof.Rows.slot_tuple_getitem.lookup) ?_ (by with_unfolding_all rfl)
  refine getItem_tuple_rev ht (Heap.IsSliceOf.new _ vl vu vs) pl pu ps ?_ (by rw [List.size_toArray]; omega)
  refine ⟨.ref _, _, I5.laid (t' := s4.toks) (o := .tup xs.reverse) (fun b ob q => Heap.get?_push_of_some _ q) (Nat.le_refl _) ?_, rfl, q _ (I5.hok.fresh (Nat.le_refl _))⟩
  exact ⟨by rw [List.length_reverse]; exact hz, _, r.reverse, IsTup.new _ _⟩
def revT : D → Option D
  | .tuple ds => some (.tuple ds.reverse)
  | _ => none
theorem ep_revT {a : Expr} {f : Rho → Option D} {k1 : Kd} {k : Nat} {q1 q2 q3 pos : Pos} (h : EP X k1 a f) : EP X .k (.Subscript a (.Slice none none (some (.UnaryOp .USub (.Constant (.int 1) k q1) q2)) q3) pos) (pu1 revT f) := by
  obtain ⟨t, h1, h2⟩ := h.ex
  refine ⟨_, pe_revT h1, fun F σ H ρ d ρ' Q R hf kk => ?_⟩
  obtain ⟨hf, rfl⟩ := lift_some.mp hf
  obtain ⟨y, e1, e2⟩ := Option.bind_eq_some_iff.mp hf
  refine h2 F σ H ρ' y ρ' _ R (lift_some.mpr ⟨e1, rfl⟩) fun v H1 p1 r1 => ?_
  cases y with
  | tuple ds =>
    cases e2
    obtain ⟨l, xs, rfl, g1, t1⟩ := r1.bw.tuple
    exact ⟨l, xs, rfl, .inl (.of (hide_some.mp g1).2), fun p hp => kk _ _ (p1.more (sameNew hp)) (.of p1.rl (sameNew hp) (newT (H0 := H1) hp p1.rl.domL t1.reverse) p1.ev.dom)⟩
  | _ => cases e2
theorem dv_revT {α : Type} {a : α → D} (x : List α) : revT (eT a x) = some (eT a x.reverse) := by
  show some (PyData.tuple _) = _
  rw [← List.map_reverse]; rfl
end
end DL
namespace DL
open L2 PyProof.Rows PySem PySem.Spec
/-! ## a tuple of texts that the module holds -/
def ModT (K : Fg) (mg : Str → Option Value) (x : Str) (ts : List Str) : Prop :=
  ∃ a o its n, mg x = some (.ref a) ∧ K.lookup a = some o ∧ o.cls = .type "tuple" ∧ o.dict = none ∧ o.data = .seq its n ∧ its.size ≤ sizeLine ∧ Vals (ts.map V.str) its.toList
theorem ModT.at {K : Fg} {mg : Str → Option Value} {x : Str} {ts : List Str} (h : ModT K mg x ts) : ∃ a, mg x = some (.ref a) ∧ (∀ H, SqT K H a (ts.map V.str)) ∧ ∃ o, K.lookup a = some o ∧ o.cls = .type "tuple" ∧ o.dict = none := by
  obtain ⟨a, o, its, n, h1, h2, h3, h4, h5, h6, h7⟩ := h
  exact ⟨a, h1, fun H => .inr ⟨o, its, n, h2, h3, h5, h6, h7⟩, o, h2, h3, h4⟩
def gixT (ts : List Str) : D → Option D
  | .int i => (atI ts i).map .str
  | _ => none
def ginT (ts : List Str) : D → Option D
  | .str y => some (.bool (decide (y ∈ ts)))
  | _ => none
def gninT (ts : List Str) : D → Option D
  | .str y => some (.bool (!decide (y ∈ ts)))
  | _ => none
def gindexT (ts : List Str) : D → Option D
  | .str y => if decide (y ∈ ts) = true then some (.int (idxD y ts : Nat)) else none
  | _ => none
theorem inV_strs (y : Str) : ∀ ts : List Str, inV (.str y) (ts.map V.str) = decide (y ∈ ts)
  | [] => rfl
  | t :: ts => by
    have ih := inV_strs y ts
    show (eqV (.str t) (.str y) || inV (.str y) (ts.map V.str)) = _
    rw [ih]
    show (t == y || _) = _
    by_cases q : t = y
    · subst q; simp
    · have q' : ¬ y = t := fun z => q z.symm
      simp [q, q']
theorem flat_all (ts : List Str) : (ts.map V.str).all flatV = true := by
  rw [List.all_eq_true]
  intro x hx
  obtain ⟨t, _, rfl⟩ := List.mem_map.mp hx
  rfl
section
variable {X : Cx} {x : Str} {ts : List Str} {b : Expr} {k2 : Kd} {p pos apos cpos : Pos} {fb : Rho → Option D}
theorem ep_gixT (hM : ModT X.K X.mg x ts) (hg : Gl X x) (hb : EP X k2 b fb) (hs : PlainIx b := by intro _ _; rfl) (hd : (x == ("__debug__" : Str)) = false := by decide) : EP X .k (.Subscript (.Name x p) b pos) (pu1 (gixT ts) fb) := by
  obtain ⟨a, hm, hq, hT⟩ := hM.at
  obtain ⟨tb, hb1, hb2⟩ := hb.ex
  refine ⟨_, pe_ix ix_tup (pe_glob (v := .ref a) hg hm rfl hd) hb1 hs, fun F σ H ρ d ρ' Q R hf k => ?_⟩
  obtain ⟨hf, rfl⟩ := lift_some.mp hf
  obtain ⟨y, e1, e2⟩ := Option.bind_eq_some_iff.mp hf
  refine hb2 F σ H ρ' y ρ' _ R (lift_some.mpr ⟨e1, rfl⟩) fun v H1 p1 r1 => ?_
  cases y with
  | int i =>
    have ev := r1.bw.int
    subst ev
    obtain ⟨t, e3, rfl⟩ := Option.map_eq_some_iff.mp e2
    refine ⟨a, ts.map V.str, i, .str t, rfl, rfl, hq H1, ?_, k _ H1 p1 (.k (.str _))⟩
    unfold atI at e3 ⊢
    rw [List.length_map]
    obtain ⟨j, h1, h2⟩ := Option.bind_eq_some_iff.mp e3
    rw [h1]
    show (ts.map V.str)[j]? = _
    rw [List.getElem?_map, h2]
    rfl
  | _ => cases e2
theorem gin_run {g : D → Option D} {c : Str → Bool} (hg' : ∀ d z, g d = some z → ∃ y, d = .str y ∧ z = .bool (c y)) {neg : Bool} (hc : ∀ y, c y = if neg then !decide (y ∈ ts) else decide (y ∈ ts)) {a : Addr} (hq : ∀ H, SqT X.K H a (ts.map V.str)) {tb : TE}
    (hb2 : ∀ (F : Fx) (σ : L2.St) (H : Hp) (ρ : Rho) (d : D) (ρ' : Rho) (Q : VK), Rl X.K F σ H ρ → lift fb ρ = some (d, ρ') → (∀ v H', Po X.K F true σ H ρ H' ρ' → Er X.K F σ ρ' k2 H H' v d → Q v H') → tb σ H Q)
    (F : Fx) (σ : L2.St) (H : Hp) (ρ : Rho) (d : D) (ρ' : Rho) (Q : VK) (R : Rl X.K F σ H ρ) (hf : lift (pu1 g fb) ρ = some (d, ρ')) (k : ∀ v H', Po X.K F true σ H ρ H' ρ' → Er X.K F σ ρ' .k H H' v d → Q v H') :
    tOp (rIn X.K neg) tb (tC (.ref a)) σ H Q := by
  obtain ⟨hf, rfl⟩ := lift_some.mp hf
  obtain ⟨y, e1, e2⟩ := Option.bind_eq_some_iff.mp hf
  obtain ⟨y', rfl, rfl⟩ := hg' _ _ e2
  refine hb2 F σ H ρ' _ ρ' _ R (lift_some.mpr ⟨e1, rfl⟩) fun v H1 p1 r1 => ?_
  have ev := r1.bw.str
  subst ev
  refine ⟨a, ts.map V.str, rfl, .inr (hq H1), rfl, flat_all ts, ?_⟩
  rw [inV_strs, ← hc]
  exact k _ H1 p1 (.k (.bl _))
theorem ginT_is {d z : D} (h : ginT ts d = some z) : ∃ y, d = .str y ∧ z = .bool (decide (y ∈ ts)) := by
  cases d <;> simp [ginT] at h
  exact ⟨_, rfl, h.symm⟩
theorem gninT_is {d z : D} (h : gninT ts d = some z) : ∃ y, d = .str y ∧ z = .bool (!decide (y ∈ ts)) := by
  cases d <;> simp [gninT] at h
  exact ⟨_, rfl, by rw [← h]⟩
theorem ep_ginT (hM : ModT X.K X.mg x ts) (hg : Gl X x) (hb : EP X k2 b fb) (hd : (x == ("__debug__" : Str)) = false := by decide) (hm' : behindInMarks .In (.Name x p) = false := by rfl) : EP X .k (.Compare b [.In] [.Name x p] pos) (pu1 (ginT ts) fb) := by
  obtain ⟨a, hm, hq, hT⟩ := hM.at
  obtain ⟨tb, hb1, hb2⟩ := hb.ex
  exact ⟨_, pe_cmpR op_in_seq hb1 (pe_glob (v := .ref a) hg hm rfl hd) hm', gin_run (neg := false) (fun _ _ => ginT_is) (fun _ => rfl) hq hb2⟩
theorem ep_gninT (hM : ModT X.K X.mg x ts) (hg : Gl X x) (hb : EP X k2 b fb) (hd : (x == ("__debug__" : Str)) = false := by decide) (hm' : behindInMarks .NotIn (.Name x p) = false := by rfl) : EP X .k (.Compare b [.NotIn] [.Name x p] pos) (pu1 (gninT ts) fb) := by
  obtain ⟨a, hm, hq, hT⟩ := hM.at
  obtain ⟨tb, hb1, hb2⟩ := hb.ex
  exact ⟨_, pe_cmpR op_notIn_seq hb1 (pe_glob (v := .ref a) hg hm rfl hd) hm', gin_run (neg := true) (fun _ _ => gninT_is) (fun _ => rfl) hq hb2⟩
theorem gin_runT {g : D → Option D} {c : Str → Bool} (hg' : ∀ d z, g d = some z → ∃ y, d = .str y ∧ z = .bool (c y)) {neg : Bool} (hc : ∀ y, c y = if neg then !decide (y ∈ ts) else decide (y ∈ ts)) {a : Addr} (hq : ∀ H, SqT X.K H a (ts.map V.str)) {tb : TE}
    (hb2 : ∀ (F : Fx) (σ : L2.St) (H : Hp) (ρ : Rho) (d : D) (ρ' : Rho) (Q : VK), Rl X.K F σ H ρ → lift fb ρ = some (d, ρ') → (∀ v H', Po X.K F true σ H ρ H' ρ' → Er X.K F σ ρ' k2 H H' v d → Q v H') → tb σ H Q)
    (F : Fx) (σ : L2.St) (H : Hp) (ρ : Rho) (d : Bool) (ρ' : Rho) (Q : Bool → Hp → Prop) (R : Rl X.K F σ H ρ) (hf : liftT (tstP (pu1 g fb)) ρ = some (d, ρ')) (k : ∀ H', Po X.K F true σ H ρ H' ρ' → Q d H') :
    tTest (tOp (rIn X.K neg) tb (tC (.ref a))) σ H Q := by
  obtain ⟨hf, rfl⟩ := liftT_some.mp hf
  obtain ⟨z, e1, e2⟩ := Option.bind_eq_some_iff.mp hf
  have ez := blOf_some e2
  subst ez
  refine gin_run hg' hc hq hb2 F σ H ρ' _ ρ' _ R (lift_some.mpr ⟨e1, rfl⟩) fun v H' p r => ?_
  have e := r.bw.bool
  subst e
  exact ⟨d, rfl, k H' p⟩
theorem tp_ginT (hM : ModT X.K X.mg x ts) (hg : Gl X x) (hb : EP X k2 b fb) (hd : (x == ("__debug__" : Str)) = false := by decide) (hm' : behindInMarks .In (.Name x p) = false := by rfl) : TP X (.Compare b [.In] [.Name x p] pos) (tstP (pu1 (ginT ts) fb)) := by
  obtain ⟨a, hm, hq, hT⟩ := hM.at
  obtain ⟨tb, hb1, hb2⟩ := hb.ex
  exact ⟨_, pt_cmpR op_in_seq hb1 (pe_glob (v := .ref a) hg hm rfl hd) hm', gin_runT (neg := false) (fun _ _ => ginT_is) (fun _ => rfl) hq hb2⟩
theorem tp_gninT (hM : ModT X.K X.mg x ts) (hg : Gl X x) (hb : EP X k2 b fb) (hd : (x == ("__debug__" : Str)) = false := by decide) (hm' : behindInMarks .NotIn (.Name x p) = false := by rfl) : TP X (.Compare b [.NotIn] [.Name x p] pos) (tstP (pu1 (gninT ts) fb)) := by
  obtain ⟨a, hm, hq, hT⟩ := hM.at
  obtain ⟨tb, hb1, hb2⟩ := hb.ex
  exact ⟨_, pt_cmpR op_notIn_seq hb1 (pe_glob (v := .ref a) hg hm rfl hd) hm', gin_runT (neg := true) (fun _ _ => gninT_is) (fun _ => rfl) hq hb2⟩
theorem idxD_at {y : Str} : ∀ {ts : List Str}, y ∈ ts → ts[idxD y ts]? = some y ∧ ∀ m, m < idxD y ts → ts[m]? ≠ some y := by
  intro ts h
  have hlt : idxD y ts < ts.length := List.idxOf_lt_length_of_mem h
  refine ⟨?_, fun m hm z => ?_⟩
  · rw [List.getElem?_eq_getElem hlt]
    congr 1
    exact List.getElem_idxOf hlt
  · obtain ⟨h1, h2⟩ := List.getElem?_eq_some_iff.mp z
    have h3 : m < List.findIdx (· == y) ts := hm
    have := List.not_of_lt_findIdx h3
    rw [h2] at this
    simp at this
theorem ep_gindexT {es : List Expr} {fa : Rho → Option (List D)} (hM : ModT X.K X.mg x ts) (hg : Gl X x) (hb : EP X k2 b fb) (hd : (x == ("__debug__" : Str)) = false := by decide)
    (hsb : starEach [b] X.env = (false, eval b X.env) :: starEach [] X.env := by rfl)
    (hbase : attributeBase (.Name x p) "index" X.env (eval (.Name x p) X.env) = eval (.Name x p) X.env := by rfl)
    (hfew : ((backTo cpos (starEach [b] X.env)).all (fun x => !x.1) && (backToKw cpos (keywordEach [] X.env)).all (fun x => x.1.isSome) && decide (([b] : List Expr).length + ([] : List Keyword).length + (if ([] : List Keyword).isEmpty then 0 else 1) < 30)) = true := by rfl)
    (hline : (apos.endLine == cpos.line) = true := by rfl) (hs : starEach [b] X.env = (false, eval b X.env) :: starEach [] X.env := by rfl) (hplain : (backTo cpos (starEach [] X.env)).any (·.1) = false := by rfl) :
    EP X .k (.Call (.Attribute (.Name x p) "index" apos) [b] [] cpos) (pu1 (gindexT ts) fb) := by
  obtain ⟨a, hm, hq, hT⟩ := hM.at
  obtain ⟨tb, hb1, hb2⟩ := hb.ex
  refine ⟨_, pe_bm PySem.F.plainAttrs_tuple PySem.F.slot_tuple_index PySem.F.type_tuple_index mt_tup_index (pe_glob (v := .ref a) hg hm rfl hd) (pa_cons hb1 pa_nil hsb) hbase hfew hline hs hplain, fun F σ H ρ d ρ' Q R hf k => ?_⟩
  obtain ⟨hf, rfl⟩ := lift_some.mp hf
  obtain ⟨y, e1, e2⟩ := Option.bind_eq_some_iff.mp hf
  refine ⟨.inr (.inl ⟨rfl, hT⟩), ?_⟩
  refine hb2 F σ H ρ' y ρ' _ R (lift_some.mpr ⟨e1, rfl⟩) fun v H1 p1 r1 => ?_
  cases y with
  | str y =>
    have ev := r1.bw.str
    subst ev
    obtain ⟨hmem, ez⟩ := ite_some (c := decide (y ∈ ts)) e2
    subst ez
    obtain ⟨h1, h2⟩ := idxD_at (of_decide_eq_true hmem)
    exact ⟨a, ts, y, _, rfl, rfl, hq H1, h1, h2, k _ H1 p1 (.k (.int _))⟩
  | _ => cases e2
end
/-! typed -/
section
variable {ts : List Str}
theorem dv_gix {i : Int} (h : ixOk ts i) : gixT ts (eI i) = some (eS (atZ ts i)) := by
  have := atI_map (a := eS) h
  unfold atI at this
  rw [List.length_map] at this
  show (atI ts i).map PyData.str = _
  unfold atI
  obtain ⟨j, h1, h2⟩ := Option.bind_eq_some_iff.mp this
  rw [h1]
  show (ts[j]?).map _ = _
  rw [List.getElem?_map] at h2
  exact h2
theorem dv_gin (y : Str) : ginT ts (eS y) = some (eB (memD y ts)) := rfl
theorem dv_gnin (y : Str) : gninT ts (eS y) = some (eB (!memD y ts)) := rfl
theorem dv_gindex {y : Str} (h : y ∈ ts) : gindexT ts (eS y) = some (eI (idxD y ts : Nat)) := if_pos (decide_eq_true h)
end
end DL
namespace DL
open L2 PyProof.Rows PySem PySem.Spec
/-! ## dicts: keys numbers and texts, or tuples of them (then the last pair of the datum is a mark) -/
theorem isSome_no (α : Type) : ¬ ((none : Option α).isSome = true) := Bool.false_ne_true
theorem isSome_yes {α : Type} (a : α) : (some a).isSome = true := rfl
theorem keyQ_keyD (k : Key) : keyQ (keyD k) = some k := by cases k <;> rfl
theorem keysQ_keyD : ∀ ks : List Key, keysQ (ks.map keyD) = some ks
  | [] => rfl
  | k :: ks => by
    show (keyQ (keyD k)).bind _ = _
    rw [keyQ_keyD]
    show (keysQ (ks.map keyD)).map _ = _
    rw [keysQ_keyD]; rfl
def tkeyQ : D → Option (List Key)
  | .tuple ds => keysQ ds
  | _ => none
/-- the mark stands at the end -/
def isTd : List (D × D) → Bool
  | [] => false
  | [p] => match p.1 with
    | .none => true
    | _ => false
  | _ :: q :: r => isTd (q :: r)
def dfind {κ : Type} [DecidableEq κ] (f : D → Option κ) : List (D × D) → κ → Option D
  | [], _ => none
  | p :: r, k => if f p.1 = some k then some p.2 else dfind f r k
/-- what stands at a key: defined at all, there -/
def dGetD : D → D → Option (Option D)
  | .dict ds, y => if isTd ds = true then (tkeyQ y).map (dfind tkeyQ ds) else (keyQ y).map (dfind keyQ ds)
  | _, _ => none
def dIxD (x y : D) : Option D := (dGetD x y).bind id
def dInD (y x : D) : Option D := (dGetD x y).map fun o => .bool o.isSome
def dNinD (y x : D) : Option D := (dGetD x y).map fun o => .bool (!o.isSome)
def drepl {κ : Type} [DecidableEq κ] (f : D → Option κ) (k : κ) (v : D) (ds : List (D × D)) : List (D × D) := ds.map fun p => if f p.1 = some k then (p.1, v) else p
def dPutD : D → D → D → Option D
  | .dict ds, y, v => if Nat.blt ds.length lim = true then
      (if isTd ds = true then (tkeyQ y).map fun k => .dict (if (dfind tkeyQ ds k).isSome = true then drepl tkeyQ k v ds else ds.dropLast ++ [(y, v), (.none, .none)])
       else (keyQ y).map fun k => .dict (if (dfind keyQ ds k).isSome = true then drepl keyQ k v ds else ds ++ [(y, v)])) else none
  | _, _, _ => none
section
variable {K : Fg} {G : Hp}
theorem dnK_isT : ∀ {ks : List (Key × V)} {ds : List (D × D)}, DnK K G ks ds → isTd ds = false
  | _, _, .nil => rfl
  | _, _, .cons (k := k) (ds := ds) h t => by
    have ih := dnK_isT t
    cases ds with
    | nil => cases k <;> rfl
    | cons q r => exact ih
theorem dnT_isT : ∀ {ks : List (List Key × V)} {ds : List (D × D)}, DnT K G ks ds → isTd ds = true
  | _, _, .nil => rfl
  | _, _, .cons (ds := ds) h t => by
    have ih := dnT_isT t
    cases ds with
    | nil => cases ih
    | cons q r => exact ih
theorem dnK_find (k : Key) : ∀ {ks : List (Key × V)} {ds : List (D × D)}, DnK K G ks ds → (valV ks k = none ∧ dfind keyQ ds k = none) ∨ ∃ v d, valV ks k = some v ∧ dfind keyQ ds k = some d ∧ Dn K G v d
  | _, _, .nil => .inl ⟨rfl, rfl⟩
  | _, _, .cons (k := k') (v := v) (vs := vs) (d := d) (ds := ds) h t => by
    by_cases e : k' = k
    · refine .inr ⟨v, d, valV_pos (p := (k', v)) e, ?_, h⟩
      unfold dfind
      rw [if_pos (by rw [← e]; exact keyQ_keyD k')]
    · have e1 : valV ((k', v) :: vs) k = valV vs k := valV_neg (p := (k', v)) e
      have e2 : dfind keyQ ((keyD k', d) :: ds) k = dfind keyQ ds k := if_neg fun z => e (by rw [keyQ_keyD] at z; exact Option.some.inj z)
      rw [e1, e2]
      exact dnK_find k t
theorem dnT_find (k : List Key) : ∀ {ks : List (List Key × V)} {ds : List (D × D)}, DnT K G ks ds → (valV ks k = none ∧ dfind tkeyQ ds k = none) ∨ ∃ v d, valV ks k = some v ∧ dfind tkeyQ ds k = some d ∧ Dn K G v d
  | _, _, .nil => .inl ⟨rfl, rfl⟩
  | _, _, .cons (k := k') (v := v) (vs := vs) (d := d) (ds := ds) h t => by
    by_cases e : k' = k
    · refine .inr ⟨v, d, valV_pos (p := (k', v)) e, ?_, h⟩
      unfold dfind
      rw [if_pos (by rw [← e]; exact keysQ_keyD k')]
    · have e1 : valV ((k', v) :: vs) k = valV vs k := valV_neg (p := (k', v)) e
      have e2 : dfind tkeyQ ((.tuple (k'.map keyD), d) :: ds) k = dfind tkeyQ ds k := if_neg fun z => e (Option.some.inj ((keysQ_keyD k').symm.trans z))
      rw [e1, e2]
      exact dnT_find k t
theorem dnK_snoc {k : Key} {v : V} {d : D} (hv : Dn K G v d) : ∀ {ks : List (Key × V)} {ds : List (D × D)}, DnK K G ks ds → DnK K G (ks ++ [(k, v)]) (ds ++ [(keyD k, d)])
  | _, _, .nil => .cons hv .nil
  | _, _, .cons h t => .cons h (dnK_snoc hv t)
theorem dnT_snoc {k : List Key} {v : V} {d : D} (hv : Dn K G v d) : ∀ {ks : List (List Key × V)} {ds : List (D × D)}, DnT K G ks ds → DnT K G (ks ++ [(k, v)]) (ds.dropLast ++ [(.tuple (k.map keyD), d), (.none, .none)])
  | _, _, .nil => .cons hv .nil
  | _, _, .cons (ds := ds) h t => by
    have ih := dnT_snoc (k := k) hv t
    cases ds with
    | nil => cases t
    | cons q r => exact .cons h ih
theorem dnK_repl {k : Key} {v : V} {d : D} (hv : Dn K G v d) : ∀ {ks : List (Key × V)} {ds : List (D × D)}, DnK K G ks ds → DnK K G (ks.map fun kv => if kv.1 = k then (kv.1, v) else kv) (drepl keyQ k d ds)
  | _, _, .nil => .nil
  | _, _, .cons (k := k') (v := v') (vs := vs) (d := d') (ds := ds) h t => by
    have ih := dnK_repl (k := k) hv t
    show DnK K G ((if k' = k then (k', v) else (k', v')) :: _) ((if keyQ (keyD k') = some k then (keyD k', d) else (keyD k', d')) :: _)
    rw [keyQ_keyD]
    by_cases e : k' = k
    · rw [if_pos e, if_pos (congrArg some e)]; exact .cons hv ih
    · rw [if_neg e, if_neg fun z => e (Option.some.inj z)]; exact .cons h ih
theorem dnT_repl {k : List Key} {v : V} {d : D} (hv : Dn K G v d) : ∀ {ks : List (List Key × V)} {ds : List (D × D)}, DnT K G ks ds → DnT K G (ks.map fun kv => if kv.1 = k then (kv.1, v) else kv) (drepl tkeyQ k d ds)
  | _, _, .nil => .nil
  | _, _, .cons (k := k') (v := v') (vs := vs) (d := d') (ds := ds) h t => by
    have ih := dnT_repl (k := k) hv t
    show DnT K G ((if k' = k then (k', v) else (k', v')) :: _) ((if keysQ (k'.map keyD) = some k then (PyData.tuple (k'.map keyD), d) else (PyData.tuple (k'.map keyD), d')) :: _)
    rw [keysQ_keyD]
    by_cases e : k' = k
    · rw [if_pos e, if_pos (congrArg some e)]; exact .cons hv ih
    · rw [if_neg e, if_neg fun z => e (Option.some.inj z)]; exact .cons h ih
theorem dnK_len : ∀ {ks : List (Key × V)} {ds : List (D × D)}, DnK K G ks ds → ks.length = ds.length
  | _, _, .nil => rfl
  | _, _, .cons _ t => congrArg (· + 1) (dnK_len t)
theorem dnT_len : ∀ {ks : List (List Key × V)} {ds : List (D × D)}, DnT K G ks ds → ks.length + 1 = ds.length
  | _, _, .nil => rfl
  | _, _, .cons _ t => congrArg (· + 1) (dnT_len t)
theorem keyQ_is {y : D} {k : Key} (h : keyQ y = some k) : y = keyD k := by
  cases y <;> simp [keyQ] at h <;> subst h <;> rfl
theorem keysQ_is : ∀ {ys : List D} {ks : List Key}, keysQ ys = some ks → ys = ks.map keyD
  | [], _, h => by cases h; rfl
  | y :: ys, _, h => by
    obtain ⟨k, e1, h⟩ := Option.bind_eq_some_iff.mp h
    obtain ⟨ks, e2, rfl⟩ := Option.map_eq_some_iff.mp h
    rw [keyQ_is e1, keysQ_is e2]; rfl
theorem tkeyQ_is {y : D} {k : List Key} (h : tkeyQ y = some k) : y = .tuple (k.map keyD) := by
  cases y <;> simp [tkeyQ] at h
  rw [keysQ_is h]
end
section
variable {K : Fg} {O : Ad} {H : Hp} {x y : V} {d e : D}
theorem key_bw {k : Key} (h : keyQ e = some k) (b : Bw K O H y e) : y = kV k := by
  have := keyQ_is h
  subst this
  cases k with
  | inl i => exact b.int
  | inr x => exact b.str
theorem tkey_bw {k : List Key} (h : tkeyQ e = some k) (b : Bw K O H y e) : ∃ a, y = .ref a ∧ hide H O a = some (.tup (k.map kV)) := by
  have := tkeyQ_is h
  subst this
  obtain ⟨a, xs, rfl, h1, h2⟩ := b.tuple
  rw [dn_keys h2 (keysQ_keyD k)] at h1
  exact ⟨a, rfl, h1⟩
/-- a look-up -/
theorem dget_bw {o : Option D} (bx : Bw K O H x d) (by' : Bw K O H y e) (h : dGetD d e = some o) : ∃ a u, x = .ref a ∧ DGet H a y u ∧ ((o = none ∧ u = none) ∨ ∃ v w, o = some w ∧ u = some v ∧ Dn K (hide H O) v w) := by
  cases d with
  | dict ds =>
    obtain ⟨a, rfl, hh⟩ := bx.dict
    rcases hh with ⟨ks, h1, h2⟩ | ⟨ks, h1, h2⟩
    · have h : (if isTd ds = true then (tkeyQ e).map (dfind tkeyQ ds) else (keyQ e).map (dfind keyQ ds)) = some o := h
      rw [dnK_isT h2, if_neg Bool.false_ne_true] at h
      obtain ⟨k, e1, rfl⟩ := Option.map_eq_some_iff.mp h
      have := key_bw e1 by'
      subst this
      refine ⟨a, _, rfl, .inl ⟨_, _, h1, rfl, rfl⟩, ?_⟩
      rcases dnK_find k h2 with ⟨q1, q2⟩ | ⟨v, w, q1, q2, q3⟩
      · exact .inl ⟨q2, q1⟩
      · exact .inr ⟨v, w, q2, q1, q3⟩
    · have h : (if isTd ds = true then (tkeyQ e).map (dfind tkeyQ ds) else (keyQ e).map (dfind keyQ ds)) = some o := h
      rw [dnT_isT h2, if_pos rfl] at h
      obtain ⟨k, e1, rfl⟩ := Option.map_eq_some_iff.mp h
      obtain ⟨b, rfl, hb⟩ := tkey_bw e1 by'
      refine ⟨a, _, rfl, .inr ⟨_, _, _, h1, rfl, (hide_some.mp hb).2, rfl⟩, ?_⟩
      rcases dnT_find k h2 with ⟨q1, q2⟩ | ⟨v, w, q1, q2, q3⟩
      · exact .inl ⟨q2, q1⟩
      · exact .inr ⟨v, w, q2, q1, q3⟩
  | _ => cases h
theorem isD_bw {ds : List (D × D)} (bx : Bw K O H x (.dict ds)) : ∃ a, x = .ref a ∧ IsD H a := by
  obtain ⟨a, rfl, hh⟩ := bx.dict
  rcases hh with ⟨ks, h1, h2⟩ | ⟨ks, h1, h2⟩
  · exact ⟨a, rfl, .inl ⟨_, h1⟩⟩
  · exact ⟨a, rfl, .inr ⟨_, h1⟩⟩
end
section
variable {X : Cx} {m m1 m2 m3 : Bool} {kr kd k1 k2 k3 : Kd} {a b : Expr} {fa fb fc : Ef} {pos : Pos}
theorem eg_dget (hu : X.A.units + 64 < cLine) (ha : EG X m1 k1 a fa) (hb : EG X m2 k2 b fb) (w : wait k1 m2 = true := by rfl) (hs : NoSl b := by intro _ _; rfl) : EG X (m1 && m2) .k (.Subscript a b pos) (seq2 dIxD fa fb) := by
  obtain ⟨ta, ha1, ha2⟩ := ha.ex
  obtain ⟨tb, hb1, hb2⟩ := hb.ex
  refine ⟨_, pe_dget (by omega) ha1 hb1 hs, ?_⟩
  refine two_parts (r := fun x y H Q => ∃ a v, x = .ref a ∧ DGet H a y (some v) ∧ Q v H) (fun x y H Q h => ?_) ha2 hb2 w
  obtain ⟨O, d, e, z, dom, bx, by', hz, k⟩ := h
  obtain ⟨o, h1, h2⟩ := Option.bind_eq_some_iff.mp hz
  obtain ⟨a, u, rfl, g, hc⟩ := dget_bw bx by' h1
  rcases hc with ⟨rfl, _⟩ | ⟨v, w', rfl, rfl, dn⟩
  · cases h2
  · cases h2
    exact ⟨a, v, rfl, g, k v H (.refl _) dn⟩
theorem ep_dget {fa fb : Rho → Option D} (hu : X.A.units + 64 < cLine) (ha : EP X k1 a fa) (hb : EP X k2 b fb) (hs : NoSl b := by intro _ _; rfl) : EP X .k (.Subscript a b pos) (pu2 dIxD fa fb) :=
  (eg_dget hu ha hb (by cases k1 <;> rfl) hs).cong (seq2_lift dIxD fa fb).symm
theorem din_run {g : D → D → Option D} {c : Option D → Bool} (hg : ∀ e d, g e d = (dGetD d e).map fun o => .bool (c o)) {cv : Option V → Bool} (hc0 : c none = cv none) (hc1 : ∀ v w, c (some w) = cv (some v)) :
    ∀ (x y : V) (H : Hp) (Q : VK), (∃ (O : Ad) (d e z : D), (∀ a, O a → Live H a) ∧ Bw X.K O H x d ∧ Bw X.K O H y e ∧ g d e = some z ∧ ∀ v H', Same H H' → Vr X.K .k O H H' v z → Q v H') → ∃ a o, y = .ref a ∧ DGet H a x o ∧ Q (.bl (cv o)) H := by
  intro x y H Q ⟨O, d, e, z, dom, bx, by', hz, k⟩
  rw [hg] at hz
  obtain ⟨o, h1, rfl⟩ := Option.map_eq_some_iff.mp hz
  obtain ⟨a, u, rfl, g', hc⟩ := dget_bw by' bx h1
  rcases hc with ⟨rfl, rfl⟩ | ⟨v, w', rfl, rfl, dn⟩
  · exact ⟨a, _, rfl, g', k _ H (.refl _) (by rw [hc0]; exact .bl _)⟩
  · exact ⟨a, _, rfl, g', k _ H (.refl _) (by rw [hc1 v w']; exact .bl _)⟩
theorem eg_din (hu : X.A.units + 64 < cLine) (ha : EG X m1 k1 a fa) (hb : EG X m2 k2 b fb) (w : wait k1 m2 = true := by rfl) (hm : behindInMarks .In b = false := by rfl) : EG X (m1 && m2) .k (.Compare a [.In] [b] pos) (seq2 dInD fa fb) := by
  obtain ⟨ta, ha1, ha2⟩ := ha.ex
  obtain ⟨tb, hb1, hb2⟩ := hb.ex
  exact ⟨_, pe_cmp (pc_din (by omega) ha1 hb1) hm, two_parts (r := fun y x H Q => ∃ a o, x = .ref a ∧ DGet H a y o ∧ Q (.bl o.isSome) H) (din_run (c := fun o => o.isSome) (fun _ _ => rfl) rfl fun _ _ => rfl) ha2 hb2 w⟩
theorem ep_din {fa fb : Rho → Option D} (hu : X.A.units + 64 < cLine) (ha : EP X k1 a fa) (hb : EP X k2 b fb) (hm : behindInMarks .In b = false := by rfl) : EP X .k (.Compare a [.In] [b] pos) (pu2 dInD fa fb) :=
  (eg_din hu ha hb (by cases k1 <;> rfl) hm).cong (seq2_lift _ fa fb).symm
theorem eg_dnin (hu : X.A.units + 64 < cLine) (ha : EG X m1 k1 a fa) (hb : EG X m2 k2 b fb) (w : wait k1 m2 = true := by rfl) (hm : behindInMarks .NotIn b = false := by rfl) : EG X (m1 && m2) .k (.Compare a [.NotIn] [b] pos) (seq2 dNinD fa fb) := by
  obtain ⟨ta, ha1, ha2⟩ := ha.ex
  obtain ⟨tb, hb1, hb2⟩ := hb.ex
  exact ⟨_, pe_cmp (pc_dnotin (by omega) ha1 hb1) hm, two_parts (r := fun y x H Q => ∃ a o, x = .ref a ∧ DGet H a y o ∧ Q (.bl (!o.isSome)) H) (din_run (c := fun o => !o.isSome) (cv := fun o => !o.isSome) (fun _ _ => rfl) rfl fun _ _ => rfl) ha2 hb2 w⟩
theorem ep_dnin {fa fb : Rho → Option D} (hu : X.A.units + 64 < cLine) (ha : EP X k1 a fa) (hb : EP X k2 b fb) (hm : behindInMarks .NotIn b = false := by rfl) : EP X .k (.Compare a [.NotIn] [b] pos) (pu2 dNinD fa fb) :=
  (eg_dnin hu ha hb (by cases k1 <;> rfl) hm).cong (seq2_lift _ fa fb).symm
/-- as a test -/
theorem tp_cmpV {op : CmpOp} {r : Expr} {g : Rho → Option D} (h : EP X kd (.Compare a [op] [r] pos) g) {t : TE} (hp : PC X op a r t) (hm : behindInMarks op r = false)
    (ht : ∀ (F : Fx) (σ : L2.St) (H : Hp) (ρ : Rho) (d : D) (ρ' : Rho) (Q : VK), Rl X.K F σ H ρ → lift g ρ = some (d, ρ') → (∀ v H', Po X.K F true σ H ρ H' ρ' → Er X.K F σ ρ' kd H H' v d → Q v H') → t σ H Q) : TP X (.Compare a [op] [r] pos) (tstP g) := by
  refine ⟨_, pt_cmp hp hm, fun F σ H ρ b ρ' Q R hf k => ?_⟩
  obtain ⟨hf, rfl⟩ := liftT_some.mp hf
  obtain ⟨z, e1, e2⟩ := Option.bind_eq_some_iff.mp hf
  have ez := blOf_some e2
  subst ez
  refine ht F σ H ρ' _ ρ' _ R (lift_some.mpr ⟨e1, rfl⟩) fun v H' p r => ?_
  have e := r.bw.bool
  subst e
  exact ⟨b, rfl, k H' p⟩
theorem tp_din {fa fb : Rho → Option D} (hu : X.A.units + 64 < cLine) (ha : EP X k1 a fa) (hb : EP X k2 b fb) (hm : behindInMarks .In b = false := by rfl) : TP X (.Compare a [.In] [b] pos) (tstP (pu2 dInD fa fb)) := by
  have h := ep_din (pos := pos) hu ha hb hm
  obtain ⟨ta, ha1, ha2⟩ := ha.ex
  obtain ⟨tb, hb1, hb2⟩ := hb.ex
  refine tp_cmpV h (pc_din (by omega) ha1 hb1) hm ?_
  rw [← seq2_lift]
  exact two_parts (r := fun y x H Q => ∃ a o, x = .ref a ∧ DGet H a y o ∧ Q (.bl o.isSome) H) (din_run (c := fun o => o.isSome) (fun _ _ => rfl) rfl fun _ _ => rfl) ha2 hb2 (by cases k1 <;> rfl)
theorem tp_dnin {fa fb : Rho → Option D} (hu : X.A.units + 64 < cLine) (ha : EP X k1 a fa) (hb : EP X k2 b fb) (hm : behindInMarks .NotIn b = false := by rfl) : TP X (.Compare a [.NotIn] [b] pos) (tstP (pu2 dNinD fa fb)) := by
  have h := ep_dnin (pos := pos) hu ha hb hm
  obtain ⟨ta, ha1, ha2⟩ := ha.ex
  obtain ⟨tb, hb1, hb2⟩ := hb.ex
  refine tp_cmpV h (pc_dnotin (by omega) ha1 hb1) hm ?_
  rw [← seq2_lift]
  exact two_parts (r := fun y x H Q => ∃ a o, x = .ref a ∧ DGet H a y o ∧ Q (.bl (!o.isSome)) H) (din_run (c := fun o => !o.isSome) (cv := fun o => !o.isSome) (fun _ _ => rfl) rfl fun _ _ => rfl) ha2 hb2 (by cases k1 <;> rfl)
/-! {} -/
theorem ep_dnewK : EP X .f (.Dict [] [] pos) (cC (.dict [])) := by
  refine ⟨_, pe_dnewK, fun F σ H ρ d ρ' Q R hf k => ?_⟩
  obtain ⟨hf, rfl⟩ := lift_some.mp hf
  cases hf
  intro p hp
  exact k _ _ (.grow R (sameNew hp)) (.of R (sameNew hp) ⟨p, rfl, hp, notOwned R hp, .inl ⟨[], upd_same, .nil⟩⟩ fun _ h => h)
theorem ep_dnewT : EP X .f (.Dict [] [] pos) (cC (.dict [(.none, .none)])) := by
  refine ⟨_, pe_dnewT, fun F σ H ρ d ρ' Q R hf k => ?_⟩
  obtain ⟨hf, rfl⟩ := lift_some.mp hf
  cases hf
  intro p hp
  exact k _ _ (.grow R (sameNew hp)) (.of R (sameNew hp) ⟨p, rfl, hp, notOwned R hp, .inr ⟨[], upd_same, .nil⟩⟩ fun _ h => h)
/-! d[k] = v -/
theorem dput_bw {K : Fg} {G : Hp} {O : Ad} {H : Hp} {a : Addr} {y v : V} {d e w z : D} (t : Top K G H a d) (by' : Bw K O H y e) (hv : Dn K G v w) (h : dPutD d e w = some z) :
    ∃ o, DPut H a y v (upd H a o) ∧ Top K G (upd H a o) a z := by
  cases d with
  | dict ds =>
    have h : (if Nat.blt ds.length lim = true then
      (if isTd ds = true then (tkeyQ e).map fun k => PyData.dict (if (dfind tkeyQ ds k).isSome = true then drepl tkeyQ k w ds else ds.dropLast ++ [(e, w), (.none, .none)])
       else (keyQ e).map fun k => PyData.dict (if (dfind keyQ ds k).isSome = true then drepl keyQ k w ds else ds ++ [(e, w)])) else none) = some z := h
    have hl : Nat.blt ds.length lim = true := by
      cases q : Nat.blt ds.length lim with
      | true => rfl
      | false => rw [if_neg (by rw [q]; decide)] at h; cases h
    rw [if_pos hl] at h
    have hlt : ds.length < lim := Nat.le_of_ble_eq_true hl
    have hsz := sizeLine_eq
    unfold lim at hlt
    rcases t with ⟨ks, h1, h2⟩ | ⟨ks, h1, h2⟩
    · rw [dnK_isT h2, if_neg Bool.false_ne_true] at h
      obtain ⟨k, e1, rfl⟩ := Option.map_eq_some_iff.mp h
      have := key_bw e1 by'
      subst this
      have hlk := dnK_len h2
      refine ⟨_, DPut.k h1 (by omega), .inl ⟨_, upd_same, ?_⟩⟩
      unfold putK
      rw [valV_any]
      have ey := keyQ_is e1
      subst ey
      rcases dnK_find k h2 with ⟨q1, q2⟩ | ⟨v', w', q1, q2, q3⟩
      · rw [q1, q2, if_neg (isSome_no V), if_neg (isSome_no D)]; exact dnK_snoc hv h2
      · rw [q1, q2, if_pos (isSome_yes v'), if_pos (isSome_yes w')]; exact dnK_repl hv h2
    · rw [dnT_isT h2, if_pos rfl] at h
      obtain ⟨k, e1, rfl⟩ := Option.map_eq_some_iff.mp h
      obtain ⟨b, rfl, hb⟩ := tkey_bw e1 by'
      have hlk := dnT_len h2
      refine ⟨_, DPut.t h1 (hide_some.mp hb).2 (by omega), .inr ⟨_, upd_same, ?_⟩⟩
      unfold putK
      rw [valV_any]
      have ey := tkeyQ_is e1
      subst ey
      rcases dnT_find k h2 with ⟨q1, q2⟩ | ⟨v', w', q1, q2, q3⟩
      · rw [q1, q2, if_neg (isSome_no V), if_neg (isSome_no D)]; exact dnT_snoc hv h2
      · rw [q1, q2, if_pos (isSome_yes v'), if_pos (isSome_yes w')]; exact dnT_repl hv h2
  | _ => cases h
def storeD (i : Nat) (fe fi : Ef) : Sf := fun ρ => (fe ρ).bind fun a => (ownd i a.2).bind fun _ => (fi a.2).bind fun b => (ownd i b.2).bind fun c => (dPutD c b.1 a.1).map fun z => .nx (wr i z b.2)
theorem sg_storeD {i : Nat} {x : Str} {p p1 : Pos} {e i' : Expr} {fe fi : Ef} (hu : X.A.units + 64 < cLine) (he : EG X m .k e fe) (ho : PE X (.Name x p) (tVar i)) (hi : EG X m2 kd i' fi)
    (hs : swapsWith e (some (.Subscript (.Name x p) i' p1)) pos.line X.env = pure false := by rfl) : SG X kr (.Assign [.Subscript (.Name x p) i' p1] e pos) (storeD i fe fi) := by
  obtain ⟨te, he1, he2⟩ := he.ex
  obtain ⟨ti, hi1, hi2⟩ := hi.ex
  refine ⟨_, ps_dput (by omega) ho hi1 he1 hs, fun F σ H ρ o E R hf k => ?_⟩
  obtain ⟨⟨d, ρ1⟩, e1, hf⟩ := Option.bind_eq_some_iff.mp hf
  obtain ⟨c0, e2, hf⟩ := Option.bind_eq_some_iff.mp hf
  obtain ⟨⟨ix, ρ2⟩, e3, hf⟩ := Option.bind_eq_some_iff.mp hf
  obtain ⟨c, e4, hf⟩ := Option.bind_eq_some_iff.mp hf
  obtain ⟨z, e5, e6⟩ := Option.map_eq_some_iff.mp hf
  cases e6
  refine he2 F σ H ρ d ρ1 _ R e1 fun v H1 p1 r1 => ?_
  obtain ⟨a, s0, q1, q2, q3, _⟩ := ownd_some p1.rl e2
  refine ⟨.ref a, q3, hi2 F σ H1 ρ1 _ ρ2 _ p1.rl e3 fun u H2 p2 r2 => ?_⟩
  obtain ⟨a', s, g1, g2, g3, t1⟩ := ownd_some p2.rl e4
  rw [q3] at g3
  cases g3
  obtain ⟨ob, hput, ht⟩ := dput_bw t1 r2.bw (Dn.mono p2.ev.kept r1.vr) e5
  obtain ⟨R2, ev2⟩ := p2.rl.write (o := ob) (d := z) g1 g2 q3 ht
  exact ⟨a, _, rfl, hput, k σ _ R2 ((p1.ev.trans p2.ev).trans ev2)⟩
/-! d.get(k), d.get(k, x) -/
def dGet1D (x y : D) : Option D := (dGetD x y).map fun o => o.getD .none
def seqG (fa fb fc : Ef) : Ef := fun ρ => (fa ρ).bind fun a => (dict? a.1).bind fun _ => (fb a.2).bind fun b => (fc b.2).bind fun c => (dGetD a.1 b.1).map fun o => (o.getD c.1, c.2)
where dict? : D → Option Unit
  | .dict _ => some ()
  | _ => none
def puG (fa fb fc : Rho → Option D) : Rho → Option D := fun ρ => (fa ρ).bind fun a => (seqG.dict? a).bind fun _ => (fb ρ).bind fun b => (fc ρ).bind fun c => (dGetD a b).map fun o => o.getD c
def puG1 (fa fb : Rho → Option D) : Rho → Option D := fun ρ => (fa ρ).bind fun a => (seqG.dict? a).bind fun _ => (fb ρ).bind fun b => (dGetD a b).map fun o => o.getD .none
theorem ep_dget2 {e f : Expr} {apos cpos : Pos} {fa fb fc : Rho → Option D} (hu : X.A.units + 64 < cLine) (ha : EP X k1 a fa) (hb : EP X k2 e fb) (hc : EP X .k f fc) (hM : M2 X a "get" apos e f cpos := by exact ⟨rfl, rfl, rfl, rfl⟩) :
    EP X .k (.Call (.Attribute a "get" apos) [e, f] [] cpos) (puG fa fb fc) := by
  obtain ⟨ta, ha1, ha2⟩ := ha.ex
  obtain ⟨tb, hb1, hb2⟩ := hb.ex
  obtain ⟨tc, hc1, hc2⟩ := hc.ex
  refine ⟨_, pe_dget2 (by omega) ha1 hb1 hc1 hM, fun F σ H ρ d ρ' Q R hf k => ?_⟩
  obtain ⟨hf, rfl⟩ := lift_some.mp hf
  obtain ⟨x, e1, hf⟩ := Option.bind_eq_some_iff.mp hf
  obtain ⟨_, e2, hf⟩ := Option.bind_eq_some_iff.mp hf
  obtain ⟨y, e3, hf⟩ := Option.bind_eq_some_iff.mp hf
  obtain ⟨w, e4, hf⟩ := Option.bind_eq_some_iff.mp hf
  obtain ⟨o, e5, rfl⟩ := Option.map_eq_some_iff.mp hf
  cases x with
  | dict ds =>
    refine ha2 F σ H ρ' _ ρ' _ R (lift_some.mpr ⟨e1, rfl⟩) fun v H1 p1 r1 => ?_
    obtain ⟨a', rfl, hd⟩ := isD_bw r1.bw
    refine ⟨a', rfl, hd, hb2 F σ H1 ρ' _ ρ' _ p1.rl (lift_some.mpr ⟨e3, rfl⟩) fun yv H2 p2 r2 => ?_⟩
    refine hc2 F σ H2 ρ' _ ρ' _ p2.rl (lift_some.mpr ⟨e4, rfl⟩) fun zv H3 p3 r3 => ?_
    have bx := r1.bw.mono ((p2.ev.trans p3.ev).kept) ((p2.pu rfl).2.trans (p3.pu rfl).2)
    have by' := r2.bw.mono p3.ev.kept (p3.pu rfl).2
    obtain ⟨a2, u, ea, g, hcs⟩ := dget_bw bx by' e5
    cases ea
    refine ⟨u, g, ?_⟩
    have pp : Po X.K F true σ H ρ' H3 ρ' := (p1.trans (p2.trans p3)).weak (by simp)
    rcases hcs with ⟨rfl, rfl⟩ | ⟨v', w', rfl, rfl, dn⟩
    · exact k _ H3 pp (.k r3.vr)
    · exact k _ H3 pp (.k dn)
  | _ => cases e2
theorem ep_dget1 {e : Expr} {apos cpos : Pos} {fa fb : Rho → Option D} (hu : X.A.units + 64 < cLine) (ha : EP X k1 a fa) (hb : EP X k2 e fb) (hM : M1 X a "get" apos e cpos := by exact ⟨rfl, rfl, rfl, rfl⟩) :
    EP X .k (.Call (.Attribute a "get" apos) [e] [] cpos) (puG1 fa fb) := by
  obtain ⟨ta, ha1, ha2⟩ := ha.ex
  obtain ⟨tb, hb1, hb2⟩ := hb.ex
  refine ⟨_, pe_dget1 (by omega) ha1 hb1 hM, fun F σ H ρ d ρ' Q R hf k => ?_⟩
  obtain ⟨hf, rfl⟩ := lift_some.mp hf
  obtain ⟨x, e1, hf⟩ := Option.bind_eq_some_iff.mp hf
  obtain ⟨_, e2, hf⟩ := Option.bind_eq_some_iff.mp hf
  obtain ⟨y, e3, hf⟩ := Option.bind_eq_some_iff.mp hf
  obtain ⟨o, e5, rfl⟩ := Option.map_eq_some_iff.mp hf
  cases x with
  | dict ds =>
    refine ha2 F σ H ρ' _ ρ' _ R (lift_some.mpr ⟨e1, rfl⟩) fun v H1 p1 r1 => ?_
    obtain ⟨a', rfl, hd⟩ := isD_bw r1.bw
    refine ⟨a', rfl, hd, hb2 F σ H1 ρ' _ ρ' _ p1.rl (lift_some.mpr ⟨e3, rfl⟩) fun yv H2 p2 r2 => ?_⟩
    have bx := r1.bw.mono p2.ev.kept (p2.pu rfl).2
    obtain ⟨a2, u, ea, g, hcs⟩ := dget_bw bx r2.bw e5
    cases ea
    refine ⟨u, g, ?_⟩
    have pp : Po X.K F true σ H ρ' H2 ρ' := (p1.trans p2).weak (by simp)
    rcases hcs with ⟨rfl, rfl⟩ | ⟨v', w', rfl, rfl, dn⟩
    · exact k _ H2 pp (.k .non)
    · exact k _ H2 pp (.k dn)
  | _ => cases e2
/-! {k: v} -/
def mkD1 (fb fc : Rho → Option D) : Rho → Option D := fun ρ => (fb ρ).bind fun b => (fc ρ).bind fun c => (keyQ b).map fun _ => .dict [(b, c)]
theorem ep_disp1 {e f : Expr} {fb fc : Rho → Option D} (hb : EP X k2 e fb) (hc : EP X .k f fc) : EP X .f (.Dict [some e] [f] pos) (mkD1 fb fc) := by
  obtain ⟨tb, hb1, hb2⟩ := hb.ex
  obtain ⟨tc, hc1, hc2⟩ := hc.ex
  refine ⟨_, pe_disp (pps_cons hb1 hc1 pps_nil) (by rfl) (by rfl) (fun z => by cases z) (Nat.le_of_ble_eq_true rfl), fun F σ H ρ d ρ' Q R hf k => ?_⟩
  obtain ⟨hf, rfl⟩ := lift_some.mp hf
  obtain ⟨y, e1, hf⟩ := Option.bind_eq_some_iff.mp hf
  obtain ⟨w, e2, hf⟩ := Option.bind_eq_some_iff.mp hf
  obtain ⟨ky, e3, rfl⟩ := Option.map_eq_some_iff.mp hf
  intro p hp
  have s0 : Same H (upd H p (.dK [])) := sameNew hp
  have R0 : Rl X.K (F.add p) σ (upd H p (.dK [])) ρ' := R.addNew s0 hp ⟨_, upd_same, fun _ z => by cases z⟩
  refine hb2 (F.add p) σ _ ρ' _ ρ' _ R0 (lift_some.mpr ⟨e1, rfl⟩) fun yv H1 p1 r1 => ?_
  refine hc2 (F.add p) σ H1 ρ' _ ρ' _ p1.rl (lift_some.mpr ⟨e2, rfl⟩) fun zv H2 p2 r2 => ?_
  have s1 := (p1.pu rfl).2
  have s2 := (p2.pu rfl).2
  have hp2 : H2 p = some (.dK []) := s2 _ _ (s1 _ _ upd_same)
  have by' := r1.bw.mono p2.ev.kept s2
  have ey := key_bw e3 by'
  subst ey
  refine ⟨hp2, [(ky, zv)], rfl, by simp, ?_⟩
  have sH : Same H (upd H2 p (.dK (mergeK [] [(ky, zv)]))) := fun b o e => by
    have hb : b ≠ p := ne_of_none e hp
    rw [upd_ne hb]
    exact s2 _ _ (s1 _ _ (s0 _ _ e))
  have nO : ¬ Ow F σ ρ' p := notOwned R hp
  refine k _ _ (.grow R sH) (.of R sH ⟨p, rfl, hp, nO, .inl ⟨[(ky, zv)], upd_same, ?_⟩⟩ fun _ h => h)
  have ek := keyQ_is e3
  subst ek
  have dn : Dn X.K (hide H2 (Ow (F.add p) σ ρ')) zv w := r2.vr
  refine .cons (dn.mono fun b o e => ?_) .nil
  obtain ⟨h1, h2⟩ := hide_some.mp e
  exact hide_some.mpr ⟨fun z => h1 (ow_add.mpr z), by rw [upd_ne fun z => h1 (ow_add.mpr (.inr z))]; exact h2⟩
end
end DL
namespace DL
open L2 PyProof.Rows PySem PySem.Spec
/-! ## dicts, typed: pairs of key and value, in the order of insertion -/
def mget {κ β : Type} [DecidableEq κ] : List (κ × β) → κ → Option β
  | [], _ => none
  | p :: r, k => if p.1 = k then some p.2 else mget r k
def mput {κ β : Type} [DecidableEq κ] (l : List (κ × β)) (k : κ) (v : β) : List (κ × β) :=
  if (mget l k).isSome = true then l.map fun p => if p.1 = k then (p.1, v) else p else l ++ [(k, v)]
def eMk {κ β : Type} (kk : κ → D) (e : β → D) (l : List (κ × β)) : D := .dict (l.map fun p => (kk p.1, e p.2))
def eMt {κ β : Type} (kk : κ → D) (e : β → D) (l : List (κ × β)) : D := .dict (l.map (fun p => (kk p.1, e p.2)) ++ [(.none, .none)])
structure KeyE {κ : Type} (kk : κ → D) (f : κ → Key) : Prop where
  q : ∀ a, keyQ (kk a) = some (f a)
  inj : ∀ a b, f a = f b → a = b
structure KeyT {κ : Type} (kk : κ → D) (f : κ → List Key) : Prop where
  q : ∀ a, tkeyQ (kk a) = some (f a)
  inj : ∀ a b, f a = f b → a = b
theorem keI : KeyE eI Sum.inl := ⟨fun _ => rfl, fun _ _ h => Sum.inl.inj h⟩
theorem keS : KeyE eS Sum.inr := ⟨fun _ => rfl, fun _ _ h => Sum.inr.inj h⟩
theorem keysQ_map {κ : Type} {kk : κ → D} {f : κ → Key} (h : KeyE kk f) : ∀ l : List κ, keysQ (l.map kk) = some (l.map f)
  | [] => rfl
  | a :: l => by
    show (keyQ (kk a)).bind _ = _
    rw [h.q]
    show (keysQ (l.map kk)).map _ = _
    rw [keysQ_map h l]; rfl
theorem map_injL {κ : Type} {f : κ → Key} (h : ∀ a b, f a = f b → a = b) : ∀ a b : List κ, a.map f = b.map f → a = b
  | [], [], _ => rfl
  | [], _ :: _, e => by simp at e
  | _ :: _, [], e => by simp at e
  | x :: xs, y :: ys, e => by
    rw [List.map_cons, List.map_cons] at e
    injection e with e1 e2
    rw [h _ _ e1, map_injL h xs ys e2]
theorem ktT {κ : Type} {kk : κ → D} {f : κ → Key} (h : KeyE kk f) : KeyT (eT kk) (List.map f) := ⟨fun l => keysQ_map h l, map_injL h.inj⟩
theorem ktP {κ μ : Type} {kk : κ → D} {f : κ → Key} {km : μ → D} {g : μ → Key} (h : KeyE kk f) (h2 : KeyE km g) : KeyT (eP kk km) (fun p => [f p.1, g p.2]) := by
  refine ⟨fun p => ?_, fun a b e => ?_⟩
  · show (keyQ (kk p.1)).bind _ = _
    rw [h.q]
    show Option.map _ ((keyQ (km p.2)).bind _) = _
    rw [h2.q]
    rfl
  · injection e with e1 e2
    injection e2 with e2 _
    exact Prod.ext (h.inj _ _ e1) (h2.inj _ _ e2)
section
variable {κ β : Type} [DecidableEq κ] {kk : κ → D} {e : β → D} {f : κ → Key} {g : κ → List Key}
theorem isTd_cons {p : D × D} : ∀ {l : List (D × D)}, l ≠ [] → isTd (p :: l) = isTd l
  | [], h => absurd rfl h
  | _ :: _, _ => rfl
theorem isTd_k (h : KeyE kk f) : ∀ l : List (κ × β), isTd (l.map fun p => (kk p.1, e p.2)) = false
  | [] => rfl
  | [p] => by
    show (match kk p.1 with | .none => true | _ => false) = false
    have q := h.q p.1
    split
    · rename_i z; rw [z] at q; cases q
    · rfl
  | p :: q :: r => isTd_k h (q :: r)
theorem isTd_t : ∀ l : List (D × D), isTd (l ++ [(.none, .none)]) = true
  | [] => rfl
  | p :: r => by rw [List.cons_append, isTd_cons (by simp)]; exact isTd_t r
theorem dfind_k (h : KeyE kk f) (k : κ) : ∀ l : List (κ × β), dfind keyQ (l.map fun p => (kk p.1, e p.2)) (f k) = (mget l k).map e
  | [] => rfl
  | p :: r => by
    show (if keyQ (kk p.1) = some (f k) then some (e p.2) else dfind keyQ (r.map fun p => (kk p.1, e p.2)) (f k)) = (if p.1 = k then some p.2 else mget r k).map e
    rw [h.q]
    by_cases c : p.1 = k
    · rw [if_pos (by rw [c]), if_pos c]; rfl
    · rw [if_neg fun z => c (h.inj _ _ (Option.some.inj z)), if_neg c]; exact dfind_k h k r
theorem dfind_t (h : KeyT kk g) (k : κ) : ∀ l : List (κ × β), dfind tkeyQ (l.map (fun p => (kk p.1, e p.2)) ++ [(.none, .none)]) (g k) = (mget l k).map e
  | [] => rfl
  | p :: r => by
    show (if tkeyQ (kk p.1) = some (g k) then some (e p.2) else dfind tkeyQ (r.map (fun p => (kk p.1, e p.2)) ++ [(.none, .none)]) (g k)) = (if p.1 = k then some p.2 else mget r k).map e
    rw [h.q]
    by_cases c : p.1 = k
    · rw [if_pos (by rw [c]), if_pos c]; rfl
    · rw [if_neg fun z => c (h.inj _ _ (Option.some.inj z)), if_neg c]; exact dfind_t h k r
/-- what a typed dict answers -/
structure DcE (em : List (κ × β) → D) (kk : κ → D) (e : β → D) : Prop where
  get : ∀ l k, dGetD (em l) (kk k) = some ((mget l k).map e)
  put : ∀ l k v, l.length < 16777215 → dPutD (em l) (kk k) (e v) = some (em (mput l k v))
  dic : ∀ l, seqG.dict? (em l) = some ()
theorem dcK (h : KeyE kk f) : DcE (eMk kk e) kk e := by
  refine ⟨fun l k => ?_, fun l k v hl => ?_, fun _ => rfl⟩
  · show (if isTd (l.map fun p => (kk p.1, e p.2)) = true then (tkeyQ (kk k)).map _ else (keyQ (kk k)).map (dfind keyQ _)) = _
    rw [isTd_k h, if_neg Bool.false_ne_true, h.q, Option.map_some, dfind_k h]
  · show (if Nat.blt (l.map fun p => (kk p.1, e p.2)).length lim = true then (if isTd (l.map fun p => (kk p.1, e p.2)) = true then (tkeyQ (kk k)).map _ else (keyQ (kk k)).map _) else none) = _
    rw [if_pos (by rw [List.length_map]; exact Nat.ble_eq.mpr (by show l.length + 1 ≤ 16777216; omega)), isTd_k h, if_neg Bool.false_ne_true, h.q, Option.map_some, dfind_k h]
    congr 1
    unfold mput eMk
    cases q : mget l k with
    | none =>
      rw [Option.map_none, if_neg (isSome_no D), if_neg (isSome_no β)]
      simp
    | some w =>
      rw [Option.map_some, if_pos (isSome_yes (e w)), if_pos (isSome_yes w)]
      unfold drepl
      rw [List.map_map, List.map_map]
      congr 1
      refine List.map_congr_left fun p _ => ?_
      show (if keyQ (kk p.1) = some (f k) then (kk p.1, e v) else (kk p.1, e p.2)) = _
      rw [h.q]
      by_cases c : p.1 = k
      · rw [if_pos (by rw [c])]; simp [c]
      · rw [if_neg fun z => c (h.inj _ _ (Option.some.inj z))]; simp [c]
theorem dcT (h : KeyT kk g) : DcE (eMt kk e) kk e := by
  refine ⟨fun l k => ?_, fun l k v hl => ?_, fun _ => rfl⟩
  · show (if isTd (l.map (fun p => (kk p.1, e p.2)) ++ [(.none, .none)]) = true then (tkeyQ (kk k)).map (dfind tkeyQ _) else (keyQ (kk k)).map _) = _
    rw [isTd_t, if_pos rfl, h.q, Option.map_some, dfind_t h]
  · show (if Nat.blt (l.map (fun p => (kk p.1, e p.2)) ++ [(PyData.none, PyData.none)]).length lim = true then (if isTd (l.map (fun p => (kk p.1, e p.2)) ++ [(.none, .none)]) = true then (tkeyQ (kk k)).map _ else (keyQ (kk k)).map _) else none) = _
    rw [if_pos (by rw [List.length_append, List.length_map]; exact Nat.ble_eq.mpr (by show l.length + 1 + 1 ≤ 16777216; omega)), isTd_t, if_pos rfl, h.q, Option.map_some, dfind_t h]
    congr 1
    unfold mput eMt
    cases q : mget l k with
    | none =>
      rw [Option.map_none, if_neg (isSome_no D), if_neg (isSome_no β)]
      simp
    | some w =>
      rw [Option.map_some, if_pos (isSome_yes (e w)), if_pos (isSome_yes w)]
      unfold drepl
      rw [List.map_append, List.map_map, List.map_map]
      congr 1
      congr 1
      refine List.map_congr_left fun p _ => ?_
      show (if tkeyQ (kk p.1) = some (g k) then (kk p.1, e v) else (kk p.1, e p.2)) = _
      rw [h.q]
      by_cases c : p.1 = k
      · rw [if_pos (by rw [c])]; simp [c]
      · rw [if_neg fun z => c (h.inj _ _ (Option.some.inj z))]; simp [c]
variable {em : List (κ × β) → D} {l : List (κ × β)} {k : κ}
theorem dv_mget [Inhabited β] (h : DcE em kk e) (hk : mget l k ≠ none) : dIxD (em l) (kk k) = some (e ((mget l k).getD default)) := by
  unfold dIxD
  rw [h.get]
  cases q : mget l k with
  | none => exact absurd q hk
  | some v => rfl
theorem dv_min (h : DcE em kk e) : dInD (kk k) (em l) = some (eB (mget l k).isSome) := by
  unfold dInD
  rw [h.get]
  cases mget l k <;> rfl
theorem dv_mnin (h : DcE em kk e) : dNinD (kk k) (em l) = some (eB (!(mget l k).isSome)) := by
  unfold dNinD
  rw [h.get]
  cases mget l k <;> rfl
section
variable {ρ : Rho} {fa fb fc : Rho → Option D}
theorem tvG {d : β} (h : DcE em kk e) (ha : fa ρ = some (em l)) (hb : fb ρ = some (kk k)) (hc : fc ρ = some (e d)) : puG fa fb fc ρ = some (e ((mget l k).getD d)) := by
  unfold puG
  rw [ha]
  show (seqG.dict? (em l)).bind _ = _
  rw [h.dic]
  show (fb ρ).bind _ = _
  rw [hb]
  show (fc ρ).bind _ = _
  rw [hc]
  show (dGetD (em l) (kk k)).map _ = _
  rw [h.get]
  cases mget l k <;> rfl
theorem tvG1 (h : DcE em kk e) (ha : fa ρ = some (em l)) (hb : fb ρ = some (kk k)) : puG1 fa fb ρ = some (eO e (mget l k)) := by
  unfold puG1
  rw [ha]
  show (seqG.dict? (em l)).bind _ = _
  rw [h.dic]
  show (fb ρ).bind _ = _
  rw [hb]
  show (dGetD (em l) (kk k)).map _ = _
  rw [h.get]
  cases mget l k <;> rfl
theorem tvD1 {f : κ → Key} (hk : KeyE kk f) {v : β} (hb : fb ρ = some (kk k)) (hc : fc ρ = some (e v)) : mkD1 fb fc ρ = some (eMk kk e [(k, v)]) := by
  unfold mkD1
  rw [hb]
  show (fc ρ).bind _ = _
  rw [hc]
  show (keyQ (kk k)).map _ = _
  rw [hk.q]
  rfl
theorem tvD0 : cC (.dict []) ρ = some (eMk kk e ([] : List (κ × β))) := rfl
theorem tvD0t : cC (.dict [(.none, .none)]) ρ = some (eMt kk e ([] : List (κ × β))) := rfl
variable {γ : Type} {K : γ → Out → Prop} {rest : Sf} {i : Nat}
theorem rn_stoD (h : DcE em kk e) {v : β} {kf : List (κ × β) → γ} {s2 : List (κ × β) → Prop} (ρ2 : List (κ × β) → Rho) (hf : fa ρ = some (e v)) (ho : ownd i ρ = some (em l)) (hn : fb ρ = some (kk k)) (hl : l.length < 16777215) (hs : lt (mput l k v) s2) (hk : ∀ x, s2 x → Rn rest (ρ2 x) (Kf K (kf x))) (hw : ∀ x : List (κ × β), wr i (em x) ρ = ρ2 x := by intro _; rfl) :
    Rn (sSeq (storeD i (lift fa) (lift fb)) rest) ρ (Kf K (lt (mput l k v) kf)) := by
  refine seq_nx ?_ (hk _ hs)
  unfold storeD
  rw [lift_eq, hf]
  show ((ownd i ρ).bind _) = _
  rw [ho]
  show ((lift fb ρ).bind _) = _
  rw [lift_eq, hn]
  show ((ownd i ρ).bind _) = _
  rw [ho]
  show (dPutD (em l) (kk k) (e v)).map _ = _
  rw [h.put _ _ _ hl]
  exact congrArg (fun q => some (Out.nx q)) (hw _)
end
end
end DL
namespace DL
open L2 PyProof.Rows PySem PySem.Spec
/-! ## sorted of a dict whose keys are all numbers or all texts -/
def sortKK (ks : List Key) : Option (List Key) := match leftsQ ks with
  | some ns => some ((sortT ltI ns).map Sum.inl)
  | none => (rightsQ ks).map fun xs => (sortT ltS xs).map Sum.inr
def sortMD : D → Option D
  | .dict ds => if Nat.blt ds.length 64 = true then (keysQ (ds.map (·.1))).bind fun ks => (sortKK ks).map fun ys => .list (ys.map kD) else none
  | _ => none
theorem ltCps_ltS (x y : Str) : ltCps x.cps.toList y.cps.toList = ltS x y := by
  unfold ltS
  rw [ltCps_eq]
theorem risingS_pw : ∀ (l : List Str) (x : Str), risingS x l = true → (x :: l).Pairwise fun a b => ltS b a = false
  | [], x, _ => List.pairwise_singleton _ _
  | y :: l, x, h => by
    unfold risingS at h
    rw [Bool.and_eq_true] at h
    have ih := risingS_pw l y h.2
    have hxy : ltS y x = false := by
      have q := h.1
      rw [Bool.not_eq_true'] at q
      rw [← ltCps_ltS]; exact q
    refine List.pairwise_cons.mpr ⟨fun z hz => ?_, ih⟩
    rcases List.mem_cons.mp hz with rfl | hz
    · exact hxy
    · exact loS.ltrans hxy ((List.pairwise_cons.mp ih).1 z hz)
theorem sortedS_pw {l : List Str} (h : sortedS l = true) : l.Pairwise fun a b => ltS b a = false := by
  cases l with
  | nil => exact List.Pairwise.nil
  | cons x l => exact risingS_pw l x h
section
variable {X : Cx}
theorem dnK_keys {K : Fg} {G : Hp} : ∀ {kvs : List (Key × V)} {ds : List (D × D)}, DnK K G kvs ds → keysQ (ds.map (·.1)) = some (kvs.map (·.1))
  | _, _, .nil => rfl
  | _, _, .cons (k := k) h t => by
    show (keyQ (keyD k)).bind _ = _
    rw [keyQ_keyD]
    show (keysQ _).map _ = _
    rw [dnK_keys t]; rfl
theorem dnT_keys {K : Fg} {G : Hp} : ∀ {kvs : List (List Key × V)} {ds : List (D × D)}, DnT K G kvs ds → keysQ (ds.map (·.1)) = none
  | _, _, .nil => rfl
  | _, _, .cons h t => rfl
theorem cd_sortM {kd : Kd} (hk : isF kd) (hc : X.calm = true) : CallD X kd (.builtin "sorted") (on1 sortMD) := cd_one (fun _ _ h => on1_some h) fun pins s σ H O x v d z Q I rx dom bx hz k => by
  cases d with
  | dict ds =>
    have hz : (if Nat.blt ds.length 64 = true then (keysQ (ds.map (·.1))).bind fun ks => (sortKK ks).map fun ys => PyData.list (ys.map kD) else none) = some z := hz
    obtain ⟨hl, hz⟩ : Nat.blt ds.length 64 = true ∧ ((keysQ (ds.map (·.1))).bind fun ks => (sortKK ks).map fun ys => PyData.list (ys.map kD)) = some z := by
      cases q : Nat.blt ds.length 64 with
      | true => rw [if_pos q] at hz; exact ⟨rfl, hz⟩
      | false => rw [if_neg (by rw [q]; decide)] at hz; cases hz
    have hl : ds.length < 64 := Nat.le_of_ble_eq_true hl
    obtain ⟨a, rfl, hh⟩ := bx.dict
    rcases hh with ⟨kvs, h1, h2⟩ | ⟨kvs, h1, h2⟩
    · rw [dnK_keys h2, Option.bind_some] at hz
      obtain ⟨ys, e1, rfl⟩ := Option.map_eq_some_iff.mp hz
      have hlen := dnK_len h2
      unfold sortKK at e1
      split at e1
      · rename_i ns hn
        cases e1
        have en := lefts_eq hn
        have hnl : ns.length = kvs.length := by have := congrArg List.length en; simpa using this.symm
        refine call_sortedDI hc pins s σ H [.ref a] [v] Q I (.cons rx .nil) ⟨a, kvs, ns, rfl, h1, en, by omega, fun zs p hp hs hn' => k _ _ (sameNew hn') (newL hk hn' dom ?_)⟩
        have e : zs = sortT ltI ns := sorted_unique loI (hp.trans (sort_perm ltI ns).symm) (hs.imp fun h => decide_eq_false (by omega)) (sort_sorted loI ns)
        subst e
        rw [List.map_map]
        have := DnL.ofInts (K := X.K) (G := hide H O) (sortT ltI ns)
        simpa [Function.comp_def, kD] using this
      · obtain ⟨ns, hn, rfl⟩ := Option.map_eq_some_iff.mp e1
        have en := rights_eq hn
        have hnl : ns.length = kvs.length := by have := congrArg List.length en; simpa using this.symm
        refine call_sortedD hc pins s σ H [.ref a] [v] Q I (.cons rx .nil) ⟨a, kvs, ns, rfl, h1, en, by omega, fun zs p hp hs hn' => k _ _ (sameNew hn') (newL hk hn' dom ?_)⟩
        have e : zs = sortT ltS ns := sorted_unique loS (hp.trans (sort_perm ltS ns).symm) (sortedS_pw hs) (sort_sorted loS ns)
        subst e
        rw [List.map_map]
        have := DnL.ofStrs (K := X.K) (G := hide H O) (sortT ltS ns)
        simpa [Function.comp_def, kD] using this
    · rw [dnT_keys h2] at hz
      cases hz
  | _ => cases hz
end
def mkeys {κ β : Type} (l : List (κ × β)) : List κ := l.map (·.1)
section
variable {β : Type} {e : β → D}
theorem dv_sortMI {l : List (Int × β)} (h : l.length < 64) : sortMD (eMk eI e l) = some (eL eI (sortT ltI (mkeys l))) := by
  show (if Nat.blt (l.map fun p => (eI p.1, e p.2)).length 64 = true then _ else none) = _
  rw [if_pos (by rw [List.length_map]; exact Nat.ble_eq.mpr h), List.map_map]
  have e1 : l.map ((fun p : D × D => p.1) ∘ fun p : Int × β => (eI p.1, e p.2)) = (mkeys l).map eI := by unfold mkeys; rw [List.map_map]; rfl
  rw [e1, keysQ_I]
  show (sortKK ((mkeys l).map Sum.inl)).map _ = _
  unfold sortKK
  rw [lefts_map]
  show some (PyData.list _) = _
  rw [kD_inl]; rfl
theorem dv_sortMS {l : List (Str × β)} (h : l.length < 64) : sortMD (eMk eS e l) = some (eL eS (sortT ltS (mkeys l))) := by
  show (if Nat.blt (l.map fun p => (eS p.1, e p.2)).length 64 = true then _ else none) = _
  rw [if_pos (by rw [List.length_map]; exact Nat.ble_eq.mpr h), List.map_map]
  have e1 : l.map ((fun p : D × D => p.1) ∘ fun p : Str × β => (eS p.1, e p.2)) = (mkeys l).map eS := by unfold mkeys; rw [List.map_map]; rfl
  rw [e1, keysQ_S]
  show (sortKK ((mkeys l).map Sum.inr)).map _ = _
  unfold sortKK
  cases q : mkeys l with
  | nil =>
    have e2 : sortT ltI ([] : List Int) = [] := List.length_eq_zero_iff.mp (by rw [sort_len]; rfl)
    have e3 : sortT ltS ([] : List Str) = [] := List.length_eq_zero_iff.mp (by rw [sort_len]; rfl)
    show some (PyData.list (((sortT ltI []).map Sum.inl).map kD)) = _
    rw [e2, e3]; rfl
  | cons x r =>
    show ((rightsQ ((x :: r).map Sum.inr)).map _).map _ = _
    rw [rights_map]
    show some (PyData.list _) = _
    rw [kD_inr]; rfl
end
/-! a tuple of so many items, as a tuple of unlike ones -/
def tp2 {α : Type} [Inhabited α] (l : List α) : α × α := (atZ l 0, atZ l 1)
def tp3 {α : Type} [Inhabited α] (l : List α) : α × α × α := (atZ l 0, atZ l 1, atZ l 2)
def tp4 {α : Type} [Inhabited α] (l : List α) : α × α × α × α := (atZ l 0, atZ l 1, atZ l 2, atZ l 3)
section
variable {α : Type} [Inhabited α] {e : α → D} {f : Rho → Option D} {ρ : Rho} {l : List α}
theorem vTP2 (hl : l.length = 2) (h : f ρ = some (eT e l)) : f ρ = some (eP e e (tp2 l)) := by
  rw [h]
  match l, hl with
  | [a, b], _ => rfl
theorem vTP3 (hl : l.length = 3) (h : f ρ = some (eT e l)) : f ρ = some (eP3 e e e (tp3 l)) := by
  rw [h]
  match l, hl with
  | [a, b, c], _ => rfl
theorem vTP4 (hl : l.length = 4) (h : f ρ = some (eT e l)) : f ρ = some (eP4 e e e e (tp4 l)) := by
  rw [h]
  match l, hl with
  | [a, b, c, d], _ => rfl
end
/-! a list of so many items, unpacked -/
def gLst (n : Nat) (g : List D → Rho → Option Rho) : Gf
  | .list ds, ρ => if ds.length = n then g ds ρ else none
  | _, _ => none
theorem gg_lst {X : Cx} {es : List Expr} {pos : Pos} {n k : Nat} {ws : List Nat} {g : List D → Rho → Option Rho} (hc : X.calm = true) (h : GGs X ws es g) (hn : (assignEach es X.env).length = n := by rfl) (hst : (assignEach es X.env).findIdx? (·.1) = none := by rfl) : GG X ws (.Tuple es k pos) (gLst n g) := by
  obtain ⟨ta, ha1, ha2⟩ := h.ex
  refine ⟨⟨_, pg_unl hc ha1 hn hst, fun F σ H ρ ρ' v d Q R hd hf k => ?_⟩, fun d ρ ρ' hf => ?_⟩
  · cases d with
    | list ds =>
      have hf' : (if ds.length = n then g ds ρ else none) = some ρ' := hf
      by_cases e : ds.length = n
      · rw [if_pos e] at hf'
        cases hd with
        | lst h1 h2 =>
          exact ⟨_, _, rfl, hide_sub.seq h1, by rw [h2.length]; exact e, ha2 F σ H ρ ρ' _ ds Q R h2 hf' k⟩
      · rw [if_neg e] at hf'
        cases hf'
    | _ => cases hf
  · cases d with
    | list ds =>
      have hf' : (if ds.length = n then g ds ρ else none) = some ρ' := hf
      by_cases e : ds.length = n
      · rw [if_pos e] at hf'
        exact h.out _ _ _ hf'
      · rw [if_neg e] at hf'
        cases hf'
    | _ => cases hf
def eLs2 {α : Type} (e : α → D) (p : α × α) : D := .list [e p.1, e p.2]
def eLs3 {α : Type} (e : α → D) (p : α × α × α) : D := .list [e p.1, e p.2.1, e p.2.2]
section
variable {α : Type} [Inhabited α] {e : α → D} {f : Rho → Option D} {ρ : Rho} {l : List α}
theorem vLP2 (hl : l.length = 2) (h : f ρ = some (eL e l)) : f ρ = some (eLs2 e (tp2 l)) := by
  rw [h]
  match l, hl with
  | [a, b], _ => rfl
theorem vLP3 (hl : l.length = 3) (h : f ρ = some (eL e l)) : f ρ = some (eLs3 e (tp3 l)) := by
  rw [h]
  match l, hl with
  | [a, b, c], _ => rfl
end
theorem vD3 {f : Rho → Option D} {ρ : Rho} {p : Int × Option Int × Option Int} (h : p.2.1 ≠ none ∧ p.2.2 ≠ none) (hf : f ρ = some (eP3 eI (eO eI) (eO eI) p)) : f ρ = some (eP3 eI eI eI (p.1, p.2.1.getD default, p.2.2.getD default)) := by
  rw [hf]
  obtain ⟨y, m, d⟩ := p
  cases m with
  | none => exact absurd rfl h.1
  | some m => cases d with
    | none => exact absurd rfl h.2
    | some d => rfl
section
variable {α : Type} [Inhabited α] {e : α → D} {f : Rho → Option D} {ρ : Rho}
theorem unO {l : List (Option α)} (h : ∀ x, x ∈ l → x ≠ none) : l.map (eO e) = (l.map fun x => x.getD default).map e := by
  rw [List.map_map]
  refine List.map_congr_left fun x hx => ?_
  cases x with
  | none => exact absurd rfl (h _ hx)
  | some a => rfl
theorem vTU {l : List (Option α)} (h : ∀ x, x ∈ l → x ≠ none) (hf : f ρ = some (eT (eO e) l)) : f ρ = some (eT e (l.map fun x => x.getD default)) := by
  rw [hf]; unfold eT; rw [unO h]
theorem vLU {l : List (Option α)} (h : ∀ x, x ∈ l → x ≠ none) (hf : f ρ = some (eL (eO e) l)) : f ρ = some (eL e (l.map fun x => x.getD default)) := by
  rw [hf]; unfold eL; rw [unO h]
end
/-! text * number -/
theorem foldl_app_toList : ∀ (l : List (Array Nat)) (acc : Array Nat), (l.foldl (· ++ ·) acc).toList = acc.toList ++ (l.map Array.toList).flatten
  | [], acc => by simp
  | a :: l, acc => by
    rw [List.foldl_cons, foldl_app_toList l, Array.toList_append, List.append_assoc, List.map_cons, List.flatten_cons]
theorem mul_rep (x : Str) (n : Int) : Txt.mul x n = ⟨((List.replicate n.toNat x.cps.toList).flatten).toArray⟩ := by
  refine str_ext ?_
  show _ = (List.replicate n.toNat x.cps.toList).flatten
  unfold Txt.mul
  by_cases h1 : n < 1
  · rw [if_pos h1, show n.toNat = 0 by omega]; rfl
  · rw [if_neg h1]
    split
    · rename_i h2
      rw [Bool.or_eq_true] at h2
      rcases h2 with h2 | h2
      · have : n = 1 := by simpa using h2
        subst this
        show _ = (List.replicate 1 _).flatten
        simp
      · have h3 : x.cps.toList = [] := by
          have : x.length = 0 := by simpa using h2
          rw [str_len] at this
          exact List.length_eq_zero_iff.mp this
        rw [h3]
        simp
    · show ((List.replicate n.toNat x.cps).foldl (· ++ ·) #[]).toList = _
      rw [foldl_app_toList, List.map_replicate]
      simp
theorem od_repS {X : Cx} : OpD X .k (binaryOp .Mult) repS := by
  intro pins s σ H x y v u Q I rx ry ⟨O, d, e, z, dom, bx, by', hz, k⟩
  unfold repS at hz
  split at hz
  · rename_i a n
    obtain ⟨hc, rfl⟩ := ite_some hz
    rw [Bool.and_eq_true, Nat.ble_eq, Nat.ble_eq] at hc
    have e1 := bx.str
    have e2 := by'.int
    subst e1 e2
    obtain ⟨t, rfl⟩ := rx
    obtain ⟨t2, rfl⟩ := ry
    have hl2 : a.length * n.toNat ≤ 16777216 := hc.2
    refine PySem.SB.mul ⟨?_, fun h1 _ => ?_, fun _ _ => ?_⟩ fun t' tk => ⟨.str _, H, I.tok _, ⟨t', rfl⟩, ?_⟩
    · rw [decide_eq_false (by omega), decide_eq_false (by omega)]; rfl
    · have h3 : n.toNat ≤ 1000000 := by omega
      have h4 : a.length ≤ 16777216 := by
        have : a.length * 1 ≤ a.length * n.toNat := Nat.mul_le_mul_left _ (by omega)
        omega
      have h5 : (9223372036854 : Int) ≤ (2 ^ 63 - 1) / n := by
        refine (Int.le_ediv_iff_mul_le (by omega)).mpr ?_
        have : (9223372036854 : Int) * n ≤ 9223372036854 * 1000000 := Int.mul_le_mul_of_nonneg_left (by omega) (by decide)
        omega
      omega
    · unfold Builtin.Str.tooLong
      rw [sizeLine_eq]
      exact decide_eq_false (by omega)
    · rw [mul_rep]
      exact k _ H (.refl _) (.str _)
  · cases hz
theorem rn_exP {rest : Sf} {f : Rho → Option D} {ρ : Rho} {Q : Out → Prop} {x : D} (h : f ρ = some x) (hr : Rn rest ρ Q) : Rn (sSeq (sEx (lift f)) rest) ρ Q :=
  seq_nx (by rw [sEx_eq, lift_eq, h]; rfl) hr
/-! what is never reached: raise -/
def sRaise : Sf := fun _ => none
theorem sg_none {X : Cx} {kr : Kd} {st : Stmt} : SG X kr st sRaise := by
  refine ⟨fun _ _ _ => False, ⟨fun pins s σ H D I h => h.elim⟩, fun F σ H ρ o E R hf k => ?_⟩
  cases hf
end DL
namespace DL
open L2 PyProof.Rows PySem PySem.Spec
/-! ## texts of numbers, texts split -/
abbrev tl (x : Str) : List Nat := x.cps.toList
def isDig (c : Nat) : Bool := decide (48 ≤ c) && decide (c ≤ 57)
theorem tl_digits : tl (PySem.Str.ofString "0123456789") = [48, 49, 50, 51, 52, 53, 54, 55, 56, 57] := rfl
theorem inS_one (x : Str) (c : Nat) : inS ⟨#[c]⟩ x = decide (c ∈ tl x) := StrLaws.found_one x c
theorem dig_in (c : Nat) : decide (c ∈ tl (PySem.Str.ofString "0123456789")) = isDig c := by
  rw [tl_digits, Bool.eq_iff_iff]
  unfold isDig
  rw [decide_eq_true_iff, Bool.and_eq_true, decide_eq_true_iff, decide_eq_true_iff]
  simp only [List.mem_cons, List.not_mem_nil, or_false]
  omega
theorem all_in (w x : Str) : List.all (List.map (fun (sign_ : Str) => (inS sign_ x)) (charsT w)) id = (tl w).all fun c => decide (c ∈ tl x) := by
  unfold charsT
  rw [List.map_map, List.all_map]
  congr 1
  funext c
  exact inS_one x c
theorem all_dig (w : Str) : List.all (List.map (fun (sign_ : Str) => (inS sign_ (PySem.Str.ofString "0123456789"))) (charsT w)) id = (tl w).all isDig := by
  rw [all_in]
  congr 1
  funext c
  exact dig_in c
theorem len_filt_nin (w x : Str) : (List.length (List.map (fun (sign_ : Str) => sign_) (List.filter (fun (sign_ : Str) => (!inS sign_ x)) (charsT w)))) = ((tl w).filter fun c => !decide (c ∈ tl x)).length := by
  rw [List.length_map]
  unfold charsT
  rw [List.filter_map, List.length_map]
  congr 2
  funext c
  show (!inS ⟨#[c]⟩ x) = _
  rw [inS_one]
theorem none_nin (w x : Str) : (decide ((0 : Int) < ((List.length (List.map (fun (sign_ : Str) => sign_) (List.filter (fun (sign_ : Str) => (!inS sign_ x)) (charsT w))) : Nat) : Int))) = !(tl w).all fun c => decide (c ∈ tl x) := by
  rw [len_filt_nin, Bool.eq_iff_iff, decide_eq_true_iff, Bool.not_eq_true', List.all_eq_false]
  constructor
  · intro h
    obtain ⟨c, hc⟩ := List.exists_mem_of_length_pos (by omega : 0 < ((tl w).filter fun c => !decide (c ∈ tl x)).length)
    obtain ⟨h1, h2⟩ := List.mem_filter.mp hc
    exact ⟨c, h1, by simpa using h2⟩
  · rintro ⟨c, h1, h2⟩
    have := List.length_pos_of_mem (List.mem_filter.mpr ⟨h1, by simpa using h2⟩ : c ∈ (tl w).filter fun c => !decide (c ∈ tl x))
    omega
theorem none_ndig (w : Str) : (decide ((0 : Int) < ((List.length (List.map (fun (sign_ : Str) => sign_) (List.filter (fun (sign_ : Str) => (!inS sign_ (PySem.Str.ofString "0123456789"))) (charsT w))) : Nat) : Int))) = !(tl w).all isDig := by
  rw [none_nin]
  congr 2
  funext c
  exact dig_in c
theorem str_eq_iff {x y : Str} : x = y ↔ tl x = tl y := ⟨fun h => by rw [h], str_ext⟩
theorem str_empty_iff {x : Str} : x = PySem.Str.ofString "" ↔ tl x = [] := ⟨fun h => by rw [h]; rfl, fun h => str_ext (show tl x = tl _ by rw [h]; rfl)⟩
theorem intS_ok {w : Str} (h : (tl w).all isDig = true) (hne : tl w ≠ []) (hl : w.length ≤ 640) : PySem.intText? w = some ((NumText.digitsVal (tl w) : Nat) : Int) :=
  intText_digits (x := w) (fun c hc => by
    have z : (decide (48 ≤ c) && decide (c ≤ 57)) = true := List.all_eq_true.mp h c hc
    rw [Bool.and_eq_true, decide_eq_true_eq, decide_eq_true_eq] at z
    exact z) hne (by omega)
theorem intT_ok {w : Str} (h : (tl w).all isDig = true) (hne : tl w ≠ []) (hl : w.length ≤ 640) : intT w = ((NumText.digitsVal (tl w) : Nat) : Int) := by
  unfold intT
  rw [intS_ok h hne hl]
  rfl
/-- the text of a number -/
theorem tl_toString (n : Nat) : tl (toString ((n : Nat) : Int) : Str) = TL.numL n := TL.tl_num n
theorem tl_toStringI {n : Int} (h : 0 ≤ n) : tl (toString n : Str) = TL.numL n.toNat := by
  have := tl_toString n.toNat
  rwa [Int.toNat_of_nonneg h] at this
theorem numL_dig (n : Nat) : (TL.numL n).all isDig = true := by
  rw [List.all_eq_true]
  intro c hc
  have := TL.numL_digits n c hc
  unfold isDig
  rw [Bool.and_eq_true, decide_eq_true_iff, decide_eq_true_iff]
  exact this
theorem numL_head (n : Nat) (h : 0 < n) : ∃ c r, TL.numL n = c :: r ∧ c ≠ 48 := by
  induction n using Nat.strongRecOn with
  | _ n ih =>
    by_cases q : n < 10
    · exact ⟨48 + n, [], TL.numL_lt q, by omega⟩
    · obtain ⟨c, r, e, hc⟩ := ih (n / 10) (by omega) (by omega)
      exact ⟨c, r ++ [48 + n % 10], by rw [TL.numL_step (by omega), e]; rfl, hc⟩
theorem head_getD (x : Str) : atZ (tl x) 0 = (tl x).headD 0 := by
  cases h : tl x with
  | nil => rfl
  | cons a l => rfl
theorem chZ0_eq (x : Str) : (chZ x 0 = PySem.Str.ofString "0") ↔ (tl x).headD 0 = 48 := by
  rw [str_eq_iff]
  show [atZ (tl x) 0] = [48] ↔ _
  rw [head_getD]
  simp
/-- what a word writes: a number without needless 0 -/
def numW (k : Nat) (w : List Nat) : Option Int := if (!w.isEmpty && decide (w.length ≤ k) && decide (w.headD 0 ≠ 48) && w.all isDig) = true then some ((NumText.digitsVal w : Nat) : Int) else none
theorem numW_num {n : Nat} (h : 0 < n) {k : Nat} (hk : (TL.numL n).length ≤ k) : numW k (TL.numL n) = some (n : Int) := by
  obtain ⟨c, r, e, hc⟩ := numL_head n h
  unfold numW
  have h1 : (TL.numL n).isEmpty = false := by rw [e]; rfl
  have h2 : (TL.numL n).headD 0 ≠ 48 := by rw [e]; exact hc
  rw [if_pos (by rw [h1, decide_eq_true hk, decide_eq_true h2, numL_dig]; rfl), TL.numL_val]
/-- a text joined by one sign, split at it -/
theorem split_join1 {c : Nat} (hc : c < 256) {parts : List Str} (hne : parts ≠ []) (hp : ∀ p ∈ parts, c ∉ tl p) {y : Str} (hy : tl y = [c]) : Txt.split (Txt.join y parts) y = parts :=
  TL.split_join (y := y) (s := c) (S := []) hy (by rw [← Array.all_toList]; show (tl y).all _ = true; rw [hy]; simp [hc]) hne hp
end DL
namespace DL
open L2 PyProof.Rows PySem PySem.Spec
/-! ## a dict's keys walked by a comprehension that changes nothing -/
section
variable {X : Cx} {m2 m3 bw : Bool}
theorem lc_use {elt tg iter : Expr} {ifs : List Expr} {scope : Scope} {own : List (Str × Nat)} {pos : Pos} {g : Gf} {p : Tf} {e : Ef} (hc : X.calm = true) (hN : X.N.Nodup) {wi : TI} (hi1 : PI X tg iter wi) (ok : BlkOk X.N X.env.scope scope own)
    (hg : ∀ (s : Shared) (H : Hp) (C : Addr) (cl : List (Str × Addr)) (fp : List Addr), GG (X.blk s H scope (compEnvC scope cl C X.env) fp) (own.map (·.2)) tg g)
    (ht : ∀ (s : Shared) (H : Hp) (C : Addr) (cl : List (Str × Addr)) (fp : List Addr), TsG (X.blk s H scope (compEnvC scope cl C X.env) fp) m2 ifs p)
    (he : ∀ (s : Shared) (H : Hp) (C : Addr) (cl : List (Str × Addr)) (fp : List Addr), EG (X.blk s H scope (compEnvC scope cl C X.env) fp) m3 .k elt e)
    (hb : bw = true → (m2 && m3) = true) (gout : OutOk (own.map (·.2)) g) (hs : ∀ x, foldedSetIterable iter X.env x = pure x := by intro _; rfl) :
    ∃ t, PE X (.ListComp elt [⟨tg, iter, ifs, 0⟩] scope pos) t ∧
      ∀ (F : Fx) (σ : L2.St) (H : Hp) (ρ : Rho) (ds : List D) (d : D) (ρ' : Rho) (Q : VK), Rl X.K F σ H ρ →
        (∀ R, (∀ J H', Po X.K F true σ H ρ H' ρ → ItOk X.K bw (hide H' (Ow F σ ρ)) H' J ds → R J H') → wi σ H R) → compE (fun ρ => some (ds, ρ)) g p e (own.map (·.2)) ρ = some (d, ρ') →
        (∀ v H', Po X.K F (m2 && m3) σ H ρ H' ρ' → Er X.K F σ ρ' .f H H' v d → Q v H') → t σ H Q := by
  refine ⟨tLc wi (canG X.K (own.map (·.2)) g) (canT X.K m2 p) (canE X.K m3 .k e) (own.map (·.2)), pe_lc hc hN hi1 ok (fun s H C cl fp => (hg s H C cl fp).can) (fun s H C cl fp => (ht s H C cl fp).can) (fun s H C cl fp => (he s H C cl fp).can) hs, fun F σ H ρ1 ds d ρ' Q R hi2 hf k => ?_⟩
  generalize hvs : own.map (·.2) = vs at *
  obtain ⟨ρw, e3, e4⟩ := Option.bind_eq_some_iff.mp (show (unwO vs ρ1).bind _ = some (d, ρ') from hf)
  obtain ⟨⟨total, ρe⟩, e5, e6⟩ := Option.bind_eq_some_iff.mp e4
  obtain ⟨hfree, rfl⟩ := unwO_some e3
  have e6 : (if total.length ≤ lim then some (PyData.list total, rst ρ1 ρe vs) else none) = some (d, ρ') := e6
  by_cases hlim : total.length ≤ lim
  case neg => rw [if_neg hlim] at e6; cases e6
  rw [if_pos hlim] at e6
  cases e6
  have hthere : ∀ v ∈ vs, ∃ s, ρ1[v]? = some s := fun v hv => let ⟨s, h1, _⟩ := free_at hfree hv; ⟨s, h1⟩
  refine hi2 _ fun J H1 p1 iok => fun Dd hD => ?_
  have noD : ¬ Ow F σ ρ1 Dd := notOwned p1.rl hD
  -- the start
  have start : LcW X.K F Dd vs σ H1 ρ1 (m2 && m3) g p e ds total ρe 0 ds.length (upd H1 Dd (.lst [])) := by
    have Ra : Rl X.K (F.add Dd) σ (upd H1 Dd (.lst [])) ρ1 := p1.rl.addNew (sameNew hD) hD ⟨_, upd_same, fun _ z => by cases z⟩
    obtain ⟨Rw, ew⟩ := Ra.wiped hthere
    refine ⟨rfl, Nat.zero_le _, ⟨unw ρ1 vs, [], [], total, Rw, ?_, upd_same, .nil, e5, rfl, fun _ => ⟨rfl, sameNew hD⟩⟩, fun a ha => ?_, fun a ha => sameDom (sameNew hD) ha⟩
    · refine Same.trans ?_ ew.kept
      exact hide_both fun b o nb hb => ⟨fun z => (ow_add.mp z).elim nb (ne_of_none hb hD), sameNew hD _ _ hb⟩
    · exact upd_ne fun z => (p1.rl.oc a ha).1.ne (by rw [z]; exact hD)
  refine ⟨fun i n H2 => LcW X.K F Dd vs σ H1 ρ1 (m2 && m3) g p e ds total ρe i n H2, ⟨_, start⟩, fun i n H2 w => ?_⟩
  obtain ⟨hn, hle, ⟨ρi, acc, out, rest, Ri, kept, hacc, hdn, hcomp, happ, hpu⟩, hoc, hdom⟩ := w
  have nb : bw = true → Same H1 H2 := fun z => (hpu (hb z)).2
  by_cases hlt : i < ds.length
  · refine .inr ⟨iok.go i H2 _ kept nb hlt, fun H' => ∃ m', LcW X.K F Dd vs σ H1 ρ1 (m2 && m3) g p e ds total ρe (i + 1) m' H', fun H' ⟨m', w'⟩ => ⟨m', by have := w'.n; omega, w'⟩, fun x H3 y => ?_⟩
    obtain ⟨s3, d, ed, dn⟩ := iok.yld i H2 _ x H3 kept nb Ri.domL hlt y
    rw [List.getElem?_eq_getElem hlt] at ed
    cases ed
    rw [List.drop_eq_getElem_cons hlt] at hcomp
    obtain ⟨ρ2, c1, c2⟩ := Option.bind_eq_some_iff.mp hcomp
    obtain ⟨⟨c, ρ3⟩, c3, c4⟩ := Option.bind_eq_some_iff.mp c2
    have R3 := Ri.grow s3
    have k3 : Same (hide H1 (Ow F σ ρ1)) (hide H3 (Ow (F.add Dd) (wipe σ vs) ρi)) := kept.trans (hide_same s3)
    refine ⟨F.add Dd, ρi, ds[i], ρ2, R3, dn, c1, fun σ2 R4 ev4 o4 => ?_⟩
    have hw : wipe σ2 vs = wipe σ vs := by
      have l2 : σ2.length = (wipe σ vs).length := by rw [R4.len, R3.len]; exact (gout _ _ _ c1).1
      have := wipe_eq l2 o4
      rw [this, wipe_wipe]
    refine ⟨hw, F.add Dd, ρ2, c, ρ3, R4, c3, fun H4 p4 => ?_⟩
    have hD4 : H4 Dd = some (.lst acc) := by rw [p4.ev.oc Dd (.inr rfl), s3 _ _ hacc]
    have k4 : Same (hide H1 (Ow F σ ρ1)) (hide H4 (Ow (F.add Dd) σ2 ρ3)) := (k3.trans ev4.kept).trans p4.ev.kept
    have oc4 : ∀ a, F.Oc a → H4 a = H1 a := fun a ha => ((p4.ev.oc a (.inl ha)).trans (sameAt s3 (by rw [hoc a ha]; exact (p1.rl.oc a ha).1.ne))).trans (hoc a ha)
    have dom4 : ∀ a, H1 a ≠ none → H4 a ≠ none := fun a ha => p4.ev.dom a (sameDom s3 (hdom a ha))
    have dn4 : DnL X.K (hide H4 (Ow (F.add Dd) σ2 ρ3)) acc out := DnL.mono (((hide_same s3).trans ev4.kept).trans p4.ev.kept) hdn
    -- the next turn's state, from a heap H5 and its slots ρ4
    have next : ∀ (H5 : Hp) (ρ4 ρ5 : Rho), Rl X.K (F.add Dd) σ2 H5 ρ4 → unwO vs ρ4 = some ρ5 → Rl X.K (F.add Dd) (wipe σ vs) H5 ρ5 ∧ Same (hide H5 (Ow (F.add Dd) σ2 ρ4)) (hide H5 (Ow (F.add Dd) (wipe σ vs) ρ5)) := fun H5 ρ4 ρ5 R5 hu => by
      obtain ⟨hf4, rfl⟩ := unwO_some hu
      obtain ⟨Rw, ew⟩ := R5.wiped (vs := vs) fun v hv => let ⟨s, h1, _⟩ := free_at hf4 hv; ⟨s, h1⟩
      rw [hw] at Rw
      have := ew.kept
      rw [hw] at this
      exact ⟨Rw, this⟩
    cases c with
    | false =>
      refine L2.iteF ?_
      rw [if_neg Bool.false_ne_true] at c4
      obtain ⟨ρ5, c5, c6⟩ := Option.bind_eq_some_iff.mp c4
      obtain ⟨Rn, kn⟩ := next H4 ρ3 ρ5 p4.rl c5
      refine ⟨_, ⟨rfl, hlt, ⟨ρ5, acc, out, rest, Rn, k4.trans kn, hD4, DnL.mono kn dn4, c6, happ, fun z => ?_⟩, oc4, dom4⟩⟩
      obtain ⟨z1, z2⟩ := Bool.and_eq_true_iff.mp z
      obtain ⟨q1, q2⟩ := p4.pu z1
      obtain ⟨q3, q4⟩ := hpu z
      subst q1
      refine ⟨?_, (q4.trans s3).trans q2⟩
      have u := unwO_of gout c1
      rw [c5] at u
      rw [Option.some.inj u, q3, unw_unw]
    | true =>
      refine L2.iteT ?_
      rw [if_pos rfl] at c4
      obtain ⟨⟨a, ρ4⟩, c5, c6⟩ := Option.bind_eq_some_iff.mp c4
      obtain ⟨ρ5, c7, c8⟩ := Option.bind_eq_some_iff.mp c6
      obtain ⟨⟨r, ρ6⟩, c9, c10⟩ := Option.map_eq_some_iff.mp c8
      cases c10
      refine ⟨F.add Dd, ρ3, a, ρ4, p4.rl, c5, fun yv H5 p5 r5 => ?_⟩
      have hD5 : H5 Dd = some (.lst acc) := by rw [p5.ev.oc Dd (.inr rfl)]; exact hD4
      obtain ⟨Rn, kn⟩ := next H5 ρ4 ρ5 p5.rl c7
      obtain ⟨Ru, ku⟩ := Rn.outer (a := Dd) (o := .lst (acc ++ [yv])) (.inr rfl)
      have dn5 : DnL X.K (hide H5 (Ow (F.add Dd) (wipe σ vs) ρ5)) (acc ++ [yv]) (out ++ [a]) := (DnL.mono (p5.ev.kept.trans kn) dn4).append (.one (Dn.mono kn r5.vr))
      have hlen : acc.length < lim := by
        have h1 := dn4.length
        have h2 := congrArg List.length happ
        rw [List.length_append, List.length_cons] at h2
        omega
      refine ⟨acc, hD5, by rw [sizeLine_eq]; exact hlen, _, ⟨rfl, hlt, ⟨ρ5, _, out ++ [a], r, Ru, ((k4.trans p5.ev.kept).trans kn).trans ku, upd_same, DnL.mono ku dn5, c9, by rw [List.append_assoc]; exact happ, fun z => ?_⟩, fun b hb => ?_, fun b hb => ?_⟩⟩
      · obtain ⟨z1, z2⟩ := Bool.and_eq_true_iff.mp z
        obtain ⟨q1, q2⟩ := p4.pu z1
        obtain ⟨q5, q6⟩ := p5.pu z2
        obtain ⟨q3, q4⟩ := hpu z
        subst q1
        subst q5
        refine ⟨?_, fun b o hb => ?_⟩
        · have u := unwO_of gout c1
          rw [c7] at u
          rw [Option.some.inj u, q3, unw_unw]
        · rw [upd_ne (ne_of_none hb hD)]
          exact q6 _ _ (q2 _ _ (s3 _ _ (q4 _ _ hb)))
      · rw [upd_ne (fun z => (p1.rl.oc b hb).1.ne (by rw [z]; exact hD)), p5.ev.oc b (.inl hb)]
        exact oc4 b hb
      · by_cases z : b = Dd
        · subst z; rw [upd_same]; simp
        · rw [upd_ne z]; exact p5.ev.dom b (dom4 b hb)
  · have ei : i = ds.length := by omega
    subst ei
    rw [List.drop_length] at hcomp
    cases hcomp
    rw [List.append_nil] at happ
    subst happ
    refine .inl ⟨iok.stop _ H2 _ kept nb (Nat.le_refl _), ?_⟩
    obtain ⟨Rr, owE⟩ := p1.rl.restore hfree Ri kept
    have Rf : Rl X.K F σ H2 (rst ρ1 ρe vs) := Rr.drop
    have owF : ∀ b, insA (Ow F σ (rst ρ1 ρe vs)) Dd b ↔ Ow (F.add Dd) σ (rst ρ1 ρe vs) b := fun b => ow_add.symm
    have noD2 : ¬ Ow F σ (rst ρ1 ρe vs) Dd := fun z => by
      rcases z with z | ⟨j, z⟩
      · exact noD (.inl z)
      · exact (Rr.oc Dd (.inr rfl)).2 j z
    have k5 : Same (hide H1 (Ow F σ ρ1)) (hide H2 (Ow F σ (rst ρ1 ρe vs))) := kept.trans (hide_less fun b hb => (owE b).mp (ow_add.mpr (.inl hb)))
    have hDn : H Dd = none := by
      cases q : H Dd with
      | none => rfl
      | some o => exact absurd hD (p1.ev.dom Dd (by rw [q]; simp))
    refine k _ H2 ⟨Rf, ⟨p1.ev.kept.trans k5, fun b hb => (hoc b hb).trans (p1.ev.oc b hb), fun b hb => hdom b (p1.ev.dom b hb)⟩, fun z => ?_⟩ ⟨⟨Dd, rfl, hDn, noD2, acc, hacc, DnL.mono (hide_less fun b hb => (owE b).mp ((owF b).mp hb)) hdn⟩, fun _ b hb => ?_⟩
    · obtain ⟨q1, q2⟩ := p1.pu rfl
      obtain ⟨q3, q4⟩ := hpu z
      rw [q3, rst_unw]
      exact ⟨rfl, q2.trans q4⟩
    · cases hb
      exact Rr
end
/-! a dict locked or not -/
def DicO : HO → Prop
  | .dK _ => True
  | .dT _ => True
  | _ => False
def Lk (G G' : Hp) : Prop := ∀ b o, G b = some o → G' b = some o ∨ (DicO o ∧ ∃ od, G' b = some (.frz od o)) ∨ ∃ od u, DicO u ∧ o = .frz od u ∧ G' b = some u
section
variable {K : Fg} {G G' : Hp}
theorem Lk.rd {a : Addr} {u : HO} (e : Lk G G') (h : Rd G a u) (hu : ∀ od v, u ≠ .frz od v) : Rd G' a u := by
  rcases h with h | ⟨o, h⟩
  · rcases e _ _ h with q | ⟨_, od, q⟩ | ⟨od, v, _, q, _⟩
    · exact .inl q
    · exact .inr ⟨od, q⟩
    · exact absurd q (hu od v)
  · rcases e _ _ h with q | ⟨q, _⟩ | ⟨od, v, _, q, q2⟩
    · exact .inr ⟨o, q⟩
    · exact q.elim
    · cases q; exact .inl q2
theorem Lk.seq {a : Addr} {xs : List V} (e : Lk G G') (h : SqL K G a xs) : SqL K G' a xs := by
  rcases h with h | h
  · exact .inl (e.rd h fun _ _ z => by cases z)
  · exact .inr h
theorem Lk.tup {a : Addr} {xs : List V} (e : Lk G G') (h : G a = some (.tup xs)) : G' a = some (.tup xs) := by
  rcases e _ _ h with q | ⟨q, _⟩ | ⟨od, v, _, q, _⟩
  · exact q
  · exact q.elim
  · cases q
mutual
theorem Dn.lk (e : Lk G G') : ∀ {v : V} {d : D}, Dn K G v d → Dn K G' v d
  | _, _, .non => .non
  | _, _, .bl b => .bl b
  | _, _, .int i => .int i
  | _, _, .str x => .str x
  | _, _, .lst h t => .lst (e.seq h) (DnL.lk e t)
  | _, _, .tup h t => .tup (e.tup h) (DnL.lk e t)
  | _, _, .dic h t => .dic (e.rd h fun _ _ z => by cases z) (DnK.lk e t)
  | _, _, .dct h t => .dct (e.rd h fun _ _ z => by cases z) (DnT.lk e t)
theorem DnL.lk (e : Lk G G') : ∀ {v : List V} {d : List D}, DnL K G v d → DnL K G' v d
  | _, _, .nil => .nil
  | _, _, .cons h t => .cons (Dn.lk e h) (DnL.lk e t)
theorem DnK.lk (e : Lk G G') : ∀ {v : List (Key × V)} {d : List (D × D)}, DnK K G v d → DnK K G' v d
  | _, _, .nil => .nil
  | _, _, .cons h t => .cons (Dn.lk e h) (DnK.lk e t)
theorem DnT.lk (e : Lk G G') : ∀ {v : List (List Key × V)} {d : List (D × D)}, DnT K G v d → DnT K G' v d
  | _, _, .nil => .nil
  | _, _, .cons h t => .cons (Dn.lk e h) (DnT.lk e t)
end
theorem Top.lk {H H' : Hp} {a : Addr} {d : D} (h : Top K G H a d) (e : Lk G G') (k : ∀ o, H a = some o → H' a = some o) : Top K G' H' a d := by
  cases d with
  | list ds => obtain ⟨xs, h1, h2⟩ := h; exact ⟨xs, k _ h1, h2.lk e⟩
  | dict ds =>
    rcases h with ⟨ks, h1, h2⟩ | ⟨ks, h1, h2⟩
    · exact .inl ⟨ks, k _ h1, h2.lk e⟩
    · exact .inr ⟨ks, k _ h1, h2.lk e⟩
  | _ => exact h.elim
end
theorem lk_hide {H H' : Hp} {O : Ad} (e : Lk H H') : Lk (hide H O) (hide H' O) := fun b o h => by
  obtain ⟨n, q⟩ := hide_some.mp h
  rcases e _ _ q with q | ⟨q1, od, q⟩ | ⟨od, u, q1, q2, q⟩
  · exact .inl (hide_some.mpr ⟨n, q⟩)
  · exact .inr (.inl ⟨q1, od, hide_some.mpr ⟨n, q⟩⟩)
  · exact .inr (.inr ⟨od, u, q1, q2, hide_some.mpr ⟨n, q⟩⟩)
theorem lk_lock {H : Hp} {a : Addr} {u : HO} {od : Obj} (h : H a = some u) (hu : DicO u) : Lk H (upd H a (.frz od u)) := fun b o q => by
  by_cases z : b = a
  · subst z; rw [h] at q; cases q; exact .inr (.inl ⟨hu, od, upd_same⟩)
  · exact .inl (by rw [upd_ne z]; exact q)
theorem lk_unlock {H : Hp} {a : Addr} {u : HO} {od : Obj} (h : H a = some (.frz od u)) (hu : DicO u) : Lk H (upd H a u) := fun b o q => by
  by_cases z : b = a
  · subst z; rw [h] at q; cases q; exact .inr (.inr ⟨od, u, hu, rfl, upd_same⟩)
  · exact .inl (by rw [upd_ne z]; exact q)
section
variable {K : Fg} {F : Fx} {σ : L2.St} {H H' : Hp} {ρ : Rho} {a : Addr} {u : HO} {od : Obj}
theorem dom_upd {o : HO} {b : Addr} (hb : H b ≠ none) : upd H a o b ≠ none := by
  by_cases z : b = a
  · subst z; rw [upd_same]; simp
  · rw [upd_ne z]; exact hb
theorem Rl.lock (R : Rl K F σ H ρ) (h : H a = some u) (hu : DicO u) (no : ¬ Ow F σ ρ a) : Rl K F σ (upd H a (.frz od u)) ρ where
  len := R.len
  slot := fun i s e => by
    obtain ⟨x, h1, h2⟩ := R.slot i s e
    refine ⟨x, h1, ?_⟩
    have L : Lk (hide H (Ow F σ ρ)) (hide (upd H a (.frz od u)) (Ow F σ ρ)) := lk_hide (lk_lock h hu)
    cases s with
    | un => trivial
    | p d => obtain ⟨v, q1, q2⟩ := h2; exact ⟨v, q1, q2.lk L⟩
    | o d =>
      obtain ⟨b, q1, q2, q3⟩ := h2
      have nb : b ≠ a := fun z => no (.inr ⟨i, _, e, rfl, by rw [h1, q1, z]⟩)
      exact ⟨b, q1, q2.lk L fun o q => by rw [upd_ne nb]; exact q, q3⟩
    | m d =>
      obtain ⟨b, q1, q2, q3⟩ := h2
      have nb : b ≠ a := fun z => no (.inr ⟨i, _, e, rfl, by rw [h1, q1, z]⟩)
      exact ⟨b, q1, q2.lk L fun o q => by rw [upd_ne nb]; exact q, q3⟩
  inj := R.inj
  oc := fun b hb => ⟨(R.oc b hb).1.upd (fun z => no (by rw [← z]; exact .inl hb)), (R.oc b hb).2⟩
  dom := fun b hb => dom_upd (R.dom b hb)
/-- an owned thing set aside -/
theorem Rl.aside {i : Nat} {d : D} (R : Rl K F σ H ρ) (hi : ρ[i]? = some (.o d)) (ha : σ[i]? = some (some (.ref a))) : Rl K (F.add a) σ H (ρ.set i .un) ∧ ∀ b, Ow (F.add a) σ (ρ.set i .un) b ↔ Ow F σ ρ b := by
  have oi : Own σ ρ i a := ⟨_, hi, rfl, ha⟩
  have old : ∀ j b, Own σ (ρ.set i .un) j b → j ≠ i ∧ Own σ ρ j b := fun j b ⟨s, q1, q2, q3⟩ => by
    by_cases z : j = i
    · subst z
      rw [List.getElem?_set_self (lt_of_some hi)] at q1
      cases q1; cases q2
    · rw [List.getElem?_set_ne (fun y => z y.symm)] at q1
      exact ⟨z, s, q1, q2, q3⟩
  have ow : ∀ b, Ow (F.add a) σ (ρ.set i .un) b ↔ Ow F σ ρ b := fun b => by
    constructor
    · rintro ((h | h) | ⟨j, h⟩)
      · exact .inl h
      · subst h; exact .inr ⟨i, oi⟩
      · exact .inr ⟨j, (old j b h).2⟩
    · rintro (h | ⟨j, s, q1, q2, q3⟩)
      · exact .inl (.inl h)
      · by_cases z : j = i
        · subst z
          rw [ha] at q3
          cases q3
          exact .inl (.inr rfl)
        · exact .inr ⟨j, s, by rw [List.getElem?_set_ne (fun y => z y.symm)]; exact q1, q2, q3⟩
  have hd : hide H (Ow (F.add a) σ (ρ.set i .un)) = hide H (Ow F σ ρ) := by
    congr 1
    funext b
    exact propext (ow b)
  refine ⟨⟨by rw [List.length_set]; exact R.len, fun j s q => ?_, fun j k b h1 h2 => R.inj j k b (old j b h1).2 (old k b h2).2, fun b hb => ?_, R.dom⟩, ow⟩
  · rw [hd]
    by_cases z : j = i
    · subst z
      rw [List.getElem?_set_self (lt_of_some hi)] at q
      cases q
      exact ⟨_, ha, trivial⟩
    · rw [List.getElem?_set_ne (fun y => z y.symm)] at q
      obtain ⟨x, h1, h2⟩ := R.slot j s q
      exact ⟨x, h1, by cases s <;> exact h2⟩
  · rcases hb with hb | hb
    · exact ⟨(R.oc b hb).1, fun j h => (R.oc b hb).2 j (old j b h).2⟩
    · subst hb
      exact ⟨R.domL _ (.inr ⟨i, oi⟩), fun j h => (old j b h).1 (R.inj j i b (old j b h).2 oi)⟩
end
/-! the keys -/
def dkeys : D → Option (List D)
  | .dict ds => some ((if isTd ds = true then ds.dropLast else ds).map (·.1))
  | _ => none
def puK (f : Rho → Option D) (ρ : Rho) : Option (List D) := (f ρ).bind dkeys
theorem dnK_at {K : Fg} {G : Hp} : ∀ {ks : List (Key × V)} {ds : List (D × D)}, DnK K G ks ds → ds.map (·.1) = ks.map fun kv => keyD kv.1
  | _, _, .nil => rfl
  | _, _, .cons _ t => by rw [List.map_cons, List.map_cons, dnK_at t]
theorem dnT_ne {K : Fg} {G : Hp} {ks : List (List Key × V)} {ds : List (D × D)} (h : DnT K G ks ds) : ds ≠ [] := by cases h <;> simp
theorem dnT_at {K : Fg} {G : Hp} : ∀ {ks : List (List Key × V)} {ds : List (D × D)}, DnT K G ks ds → ds.dropLast.map (·.1) = ks.map fun kv => PyData.tuple (kv.1.map keyD)
  | _, _, .nil => rfl
  | _, _, .cons _ t => by rw [List.dropLast_cons_of_ne_nil (dnT_ne t), List.map_cons, List.map_cons, dnT_at t]
theorem keyDn (K : Fg) (G : Hp) (k : Key) : Dn K G (kV k) (keyD k) := by
  cases k with
  | inl i => exact .int i
  | inr x => exact .str x
theorem keysDn (K : Fg) (G : Hp) : ∀ ks : List Key, DnL K G (ks.map kV) (ks.map keyD)
  | [] => .nil
  | k :: ks => .cons (keyDn K G k) (keysDn K G ks)
theorem itOk_keysT {K : Fg} {bw : Bool} {G' H' : Hp} {a : Addr} {od : Obj} {ks : List (List Key × V)} (hq : ∀ H2 O2, Same G' (hide H2 O2) → (bw = true → Same H' H2) → H2 a = some (.frz od (.dT ks))) : ItOk K bw G' H' (Itkt a od ks) (ks.map fun kv => PyData.tuple (kv.1.map keyD)) where
  go := fun i H2 O2 g b hi => ⟨hq H2 O2 g b, by simpa using hi⟩
  stop := fun i H2 O2 g b hi => ⟨hq H2 O2 g b, by simpa using hi⟩
  yld := fun i H2 O2 x H3 g b dl hi y => by
    obtain ⟨e, k, v, q, e2, e3, e4⟩ := y
    subst e e3
    have no : ¬ O2 q := fun z => by
      obtain ⟨o, q1, q2⟩ := dl q z
      rw [q1] at e4
      cases e4
      exact q2 _ rfl
    exact ⟨.refl _, .tuple (k.map keyD), by rw [List.getElem?_map, e2]; rfl, .tup (hide_some.mpr ⟨no, e4⟩) (keysDn _ _ k)⟩
theorem itOk_keys {K : Fg} {bw : Bool} {G' H' : Hp} {a : Addr} {od : Obj} {ks : List (Key × V)} (hq : ∀ H2 O2, Same G' (hide H2 O2) → (bw = true → Same H' H2) → H2 a = some (.frz od (.dK ks))) : ItOk K bw G' H' (Itk a od ks) (ks.map fun kv => keyD kv.1) where
  go := fun i H2 O2 g b hi => ⟨hq H2 O2 g b, by simpa using hi⟩
  stop := fun i H2 O2 g b hi => ⟨hq H2 O2 g b, by simpa using hi⟩
  yld := fun i H2 O2 x H3 g b _ hi y => by
    obtain ⟨e, k, v, e2, e3⟩ := y
    subst e e3
    exact ⟨.refl _, keyD k, by rw [List.getElem?_map, e2]; rfl, keyDn _ _ _⟩
section
variable {X : Cx} {elt tg : Expr} {ifs : List Expr} {scope : Scope} {own : List (Str × Nat)} {pos px : Pos} {g : Gf} {p : Rho → Option Bool} {e : Rho → Option D} {i : Nat} {x : Str} (hc : X.calm = true) (hN : X.N.Nodup) (hx : PE X (.Name x px) (tVar i)) (ok : BlkOk X.N X.env.scope scope own)
    (hg : ∀ (s : Shared) (H : Hp) (C : Addr) (cl : List (Str × Addr)) (fp : List Addr), GG (X.blk s H scope (compEnvC scope cl C X.env) fp) (own.map (·.2)) tg g)
    (ht : ∀ (s : Shared) (H : Hp) (C : Addr) (cl : List (Str × Addr)) (fp : List Addr), TsG (X.blk s H scope (compEnvC scope cl C X.env) fp) true ifs (liftT p))
    (he : ∀ (s : Shared) (H : Hp) (C : Addr) (cl : List (Str × Addr)) (fp : List Addr), EP (X.blk s H scope (compEnvC scope cl C X.env) fp) .k elt e)
    (gout : OutOk (own.map (·.2)) g)
theorem pe_or {X : Cx} {e : Expr} {t1 t2 : TE} (h1 : PE X e t1) (h2 : PE X e t2) : PE X e (fun σ H Q => t1 σ H Q ∨ t2 σ H Q) :=
  ⟨fun pins s σ H Q I h => h.elim (fun h => h1.run pins s σ H Q I h) fun h => h2.run pins s σ H Q I h⟩
theorem comp_at {ds : List D} {vs : List Nat} {ρ : Rho} {d : D} (gout : OutOk vs g) (h : compPE (fun _ => some ds) g p e vs ρ = some d) : compE (fun ρ => some (ds, ρ)) g (liftT p) (lift e) vs ρ = some (d, ρ) := by
  have := congrFun (compE_lift gout (fun _ => some ds) p e) ρ
  unfold lift at this
  rw [h] at this
  exact this
include hc hN hx ok hg ht he gout
/-- over a kept dict, which may be read within -/
theorem ep_compK : EP X .f (.ListComp elt [⟨tg, .Name x px, ifs, 0⟩] scope pos) (compPE (puK (vP i)) g p e (own.map (·.2))) := by
  obtain ⟨t, h1, h3⟩ := lc_use (pos := pos) (bw := false) hc hN (pi_keys (tg := tg) hx) ok hg ht he (fun z => by cases z) gout
  refine ⟨_, pe_or (pe_lock h1) h1, fun F σ H ρ d ρ' Q R hf k => ?_⟩
  obtain ⟨hf, rfl⟩ := lift_some.mp hf
  obtain ⟨ds, e1, e2⟩ := Option.bind_eq_some_iff.mp (show (((vP i ρ').bind dkeys).bind fun ds => (unwO (own.map (·.2)) ρ').bind _) = some d from hf)
  obtain ⟨d0, e3, e4⟩ := Option.bind_eq_some_iff.mp e1
  have hcomp := comp_at (p := p) (e := e) gout (ds := ds) (ρ := ρ') (d := d) e2
  unfold vP at e3
  split at e3
  case h_2 => cases e3
  rename_i d1 es
  cases e3
  obtain ⟨y, q1, v, q2, dn⟩ := R.slot i _ es
  subst q2
  cases dn with
  | dic hr hK =>
    rename_i a ks dd
    have e4 : some ((if isTd dd = true then dd.dropLast else dd).map (·.1)) = some ds := e4
    rw [dnK_isT hK, if_neg Bool.false_ne_true] at e4
    have e4 := Option.some.inj e4
    rw [dnK_at hK] at e4
    subst e4
    rcases hr with hr | ⟨o, hr⟩
    · obtain ⟨no, ha⟩ := hide_some.mp hr
      refine .inl ⟨a, .dK ks, ha, trivial, fun od => ?_⟩
      have Rk : Rl X.K F σ (upd H a (.frz od (.dK ks))) ρ' := R.lock ha trivial no
      refine h3 F σ _ ρ' _ d ρ' _ Rk (fun R' k' => ⟨_, q1, a, od, rfl, .inl ⟨ks, upd_same, k' _ _ (.refl Rk) (itOk_keys fun H2 O2 g' _ => (hide_some.mp (g' a _ (hide_some.mpr ⟨no, upd_same⟩))).2)⟩⟩) hcomp fun v' H' po er => ?_
      have sm := (po.pu rfl).2
      have ha' : H' a = some (.frz od (.dK ks)) := sm _ _ upd_same
      have same : Same H (upd H' a (.dK ks)) := fun b o hb => by
        by_cases z : b = a
        · subst z; rw [ha] at hb; cases hb; exact upd_same
        · rw [upd_ne z]; exact sm _ _ (by rw [upd_ne z]; exact hb)
      refine ⟨ha', k v' _ (.grow R same) (.of R same ?_ fun _ z => z)⟩
      obtain ⟨D, w1, w2, w3, w4⟩ := er.vr
      have nD : D ≠ a := fun z => by rw [z, upd_same] at w2; cases w2
      exact ⟨D, w1, by rw [upd_ne nD] at w2; exact w2, w3, w4.lk (lk_hide (lk_unlock ha' trivial)) fun o q => by rw [upd_ne nD]; exact q⟩
    · obtain ⟨no, ha⟩ := hide_some.mp hr
      exact .inr (h3 F σ _ ρ' _ d ρ' _ R (fun R' k' => ⟨_, q1, a, o, rfl, .inl ⟨ks, ha, k' _ _ (.refl R) (itOk_keys fun H2 O2 g' _ => (hide_some.mp (g' a _ (hide_some.mpr ⟨no, ha⟩))).2)⟩⟩) hcomp fun v' H' po er => k v' H' po er)
  | dct hr hK =>
    rename_i a ks dd
    have e4 : some ((if isTd dd = true then dd.dropLast else dd).map (·.1)) = some ds := e4
    rw [dnT_isT hK, if_pos rfl] at e4
    have e4 := Option.some.inj e4
    rw [dnT_at hK] at e4
    subst e4
    rcases hr with hr | ⟨o, hr⟩
    · obtain ⟨no, ha⟩ := hide_some.mp hr
      refine .inl ⟨a, .dT ks, ha, trivial, fun od => ?_⟩
      have Rk : Rl X.K F σ (upd H a (.frz od (.dT ks))) ρ' := R.lock ha trivial no
      refine h3 F σ _ ρ' _ d ρ' _ Rk (fun R' k' => ⟨_, q1, a, od, rfl, .inr ⟨ks, upd_same, k' _ _ (.refl Rk) (itOk_keysT fun H2 O2 g' _ => (hide_some.mp (g' a _ (hide_some.mpr ⟨no, upd_same⟩))).2)⟩⟩) hcomp fun v' H' po er => ?_
      have sm := (po.pu rfl).2
      have ha' : H' a = some (.frz od (.dT ks)) := sm _ _ upd_same
      have same : Same H (upd H' a (.dT ks)) := fun b o hb => by
        by_cases z : b = a
        · subst z; rw [ha] at hb; cases hb; exact upd_same
        · rw [upd_ne z]; exact sm _ _ (by rw [upd_ne z]; exact hb)
      refine ⟨ha', k v' _ (.grow R same) (.of R same ?_ fun _ z => z)⟩
      obtain ⟨D, w1, w2, w3, w4⟩ := er.vr
      have nD : D ≠ a := fun z => by rw [z, upd_same] at w2; cases w2
      exact ⟨D, w1, by rw [upd_ne nD] at w2; exact w2, w3, w4.lk (lk_hide (lk_unlock ha' trivial)) fun o q => by rw [upd_ne nD]; exact q⟩
    · obtain ⟨no, ha⟩ := hide_some.mp hr
      exact .inr (h3 F σ _ ρ' _ d ρ' _ R (fun R' k' => ⟨_, q1, a, o, rfl, .inr ⟨ks, ha, k' _ _ (.refl R) (itOk_keysT fun H2 O2 g' _ => (hide_some.mp (g' a _ (hide_some.mpr ⟨no, ha⟩))).2)⟩⟩) hcomp fun v' H' po er => k v' H' po er)
  | _ => cases e4
/-- over an owned dict, which is not read within -/
def compOK (i : Nat) (g : Gf) (p : Rho → Option Bool) (e : Rho → Option D) (vs : List Nat) (ρ : Rho) : Option D := match ρ[i]? with
  | some (.o d) => (dkeys d).bind fun ds => compPE (fun _ => some ds) g p e vs (ρ.set i .un)
  | _ => none
theorem ep_compO : EP X .f (.ListComp elt [⟨tg, .Name x px, ifs, 0⟩] scope pos) (compOK i g p e (own.map (·.2))) := by
  obtain ⟨t, h1, h3⟩ := lc_use (pos := pos) (bw := true) hc hN (pi_keys (tg := tg) hx) ok hg ht he (fun _ => rfl) gout
  refine ⟨_, pe_lock h1, fun F σ H ρ d ρ' Q R hf k => ?_⟩
  obtain ⟨hf, rfl⟩ := lift_some.mp hf
  unfold compOK at hf
  split at hf
  case h_2 => cases hf
  rename_i d1 es
  obtain ⟨ds, e4, hf⟩ := Option.bind_eq_some_iff.mp hf
  have hcomp := comp_at (p := p) (e := e) gout (ds := ds) (ρ := ρ'.set i .un) (d := d) hf
  obtain ⟨y, q1, a, q2, tp, _⟩ := R.slot i _ es
  subst q2
  obtain ⟨Ra, ow⟩ := R.aside es q1
  cases d1 with
  | dict dd =>
    rcases tp with ⟨ks, ha, hK⟩ | ⟨ks, ha, hK⟩
    · have e4 : some ((if isTd dd = true then dd.dropLast else dd).map (·.1)) = some ds := e4
      rw [dnK_isT hK, if_neg Bool.false_ne_true] at e4
      have e4 := Option.some.inj e4
      rw [dnK_at hK] at e4
      subst e4
      refine ⟨a, .dK ks, ha, trivial, fun od => ?_⟩
      have Rk := (Ra.outer (a := a) (o := .frz od (.dK ks)) (.inr rfl)).1
      refine h3 (F.add a) σ _ _ _ d _ _ Rk (fun R' k' => ⟨_, q1, a, od, rfl, .inl ⟨ks, upd_same, k' _ _ (.refl Rk) (itOk_keys fun H2 O2 _ b => b rfl _ _ upd_same)⟩⟩) hcomp fun v' H' po er => ?_
      have sm := (po.pu rfl).2
      have ha' : H' a = some (.frz od (.dK ks)) := sm _ _ upd_same
      have same : Same H (upd H' a (.dK ks)) := fun b o hb => by
        by_cases z : b = a
        · subst z; rw [ha] at hb; cases hb; exact upd_same
        · rw [upd_ne z]; exact sm _ _ (by rw [upd_ne z]; exact hb)
      refine ⟨ha', k v' _ (.grow R same) (.of R same ?_ fun _ z => z)⟩
      obtain ⟨D, w1, w2, w3, w4⟩ := er.vr
      have nD : D ≠ a := fun z => by rw [z, upd_same] at w2; cases w2
      have ha2 : Ow F σ ρ' a := (ow a).mp (.inl (.inr rfl))
      refine ⟨D, w1, by rw [upd_ne nD] at w2; exact w2, fun z => w3 ((ow D).mpr z), w4.mono (hide_both fun b o nb hb => ?_) fun o q => by rw [upd_ne nD]; exact q⟩
      have nb2 : ¬ insA (Ow F σ ρ') D b := fun z => nb (z.elim (fun z => .inl ((ow b).mpr z)) .inr)
      exact ⟨nb2, by rw [upd_ne (fun z => nb2 (.inl (by rw [z]; exact ha2)))]; exact hb⟩
    · have e4 : some ((if isTd dd = true then dd.dropLast else dd).map (·.1)) = some ds := e4
      rw [dnT_isT hK, if_pos rfl] at e4
      have e4 := Option.some.inj e4
      rw [dnT_at hK] at e4
      subst e4
      refine ⟨a, .dT ks, ha, trivial, fun od => ?_⟩
      have Rk := (Ra.outer (a := a) (o := .frz od (.dT ks)) (.inr rfl)).1
      refine h3 (F.add a) σ _ _ _ d _ _ Rk (fun R' k' => ⟨_, q1, a, od, rfl, .inr ⟨ks, upd_same, k' _ _ (.refl Rk) (itOk_keysT fun H2 O2 _ b => b rfl _ _ upd_same)⟩⟩) hcomp fun v' H' po er => ?_
      have sm := (po.pu rfl).2
      have ha' : H' a = some (.frz od (.dT ks)) := sm _ _ upd_same
      have same : Same H (upd H' a (.dT ks)) := fun b o hb => by
        by_cases z : b = a
        · subst z; rw [ha] at hb; cases hb; exact upd_same
        · rw [upd_ne z]; exact sm _ _ (by rw [upd_ne z]; exact hb)
      refine ⟨ha', k v' _ (.grow R same) (.of R same ?_ fun _ z => z)⟩
      obtain ⟨D, w1, w2, w3, w4⟩ := er.vr
      have nD : D ≠ a := fun z => by rw [z, upd_same] at w2; cases w2
      have ha2 : Ow F σ ρ' a := (ow a).mp (.inl (.inr rfl))
      refine ⟨D, w1, by rw [upd_ne nD] at w2; exact w2, fun z => w3 ((ow D).mpr z), w4.mono (hide_both fun b o nb hb => ?_) fun o q => by rw [upd_ne nD]; exact q⟩
      have nb2 : ¬ insA (Ow F σ ρ') D b := fun z => nb (z.elim (fun z => .inl ((ow b).mpr z)) .inr)
      exact ⟨nb2, by rw [upd_ne (fun z => nb2 (.inl (by rw [z]; exact ha2)))]; exact hb⟩
  | _ => cases e4
end
/-! typed -/
theorem isTd_map {κ β : Type} {kk : κ → D} {e : β → D} (hk : ∀ a, kk a ≠ .none) : ∀ l : List (κ × β), isTd (l.map fun p => (kk p.1, e p.2)) = false
  | [] => rfl
  | [p] => by
    show (match kk p.1 with | .none => true | _ => false) = false
    cases h : kk p.1 with
    | none => exact absurd h (hk _)
    | _ => rfl
  | p :: q :: r => isTd_map hk (q :: r)
theorem dkeys_mk {κ β : Type} {kk : κ → D} {e : β → D} (hk : ∀ a, kk a ≠ .none) (l : List (κ × β)) : dkeys (eMk kk e l) = some ((mkeys l).map kk) := by
  show some ((if isTd (l.map fun p => (kk p.1, e p.2)) = true then (l.map fun p => (kk p.1, e p.2)).dropLast else l.map fun p => (kk p.1, e p.2)).map (·.1)) = _
  rw [isTd_map hk, if_neg Bool.false_ne_true, List.map_map]
  unfold mkeys
  rw [List.map_map]
  rfl
theorem isTd_end : ∀ l : List (D × D), isTd (l ++ [(PyData.none, PyData.none)]) = true
  | [] => rfl
  | [p] => rfl
  | p :: q :: r => isTd_end (q :: r)
theorem dkeys_mt {κ β : Type} {kk : κ → D} {e : β → D} (l : List (κ × β)) : dkeys (eMt kk e l) = some ((mkeys l).map kk) := by
  have h : ∀ m : List (D × D), dkeys (PyData.dict (m ++ [(PyData.none, PyData.none)])) = some (m.map (·.1)) := fun m => by
    show some ((if isTd (m ++ [(PyData.none, PyData.none)]) = true then (m ++ [(PyData.none, PyData.none)]).dropLast else m ++ [(PyData.none, PyData.none)]).map (·.1)) = _
    rw [isTd_end, if_pos rfl, List.dropLast_concat]
  unfold eMt mkeys
  rw [h, List.map_map, List.map_map]
  rfl
theorem ti_Kt {κ β : Type} {kk : κ → D} {e : β → D} {f : Rho → Option D} {ρ : Rho} {l : List (κ × β)} (h : f ρ = some (eMt kk e l)) : puK f ρ = some ((mkeys l).map kk) := by
  unfold puK; rw [h]; exact dkeys_mt l
theorem ti_K {κ β : Type} {kk : κ → D} {e : β → D} {f : Rho → Option D} {ρ : Rho} {l : List (κ × β)} (hk : ∀ a, kk a ≠ .none) (h : f ρ = some (eMk kk e l)) : puK f ρ = some ((mkeys l).map kk) := by
  unfold puK; rw [h]; exact dkeys_mk hk l
theorem vOK {κ β : Type} {kk : κ → D} {e' : β → D} {i : Nat} {ρ : Rho} {l : List (κ × β)} {g : Gf} {p : Rho → Option Bool} {e : Rho → Option D} {vs : List Nat} {z : D} (ho : ρ[i]? = some (.o (eMk kk e' l))) (hk : ∀ a, kk a ≠ .none) (h : compPE (fun _ => some ((mkeys l).map kk)) g p e vs (ρ.set i .un) = some z) : compOK i g p e vs ρ = some z := by
  unfold compOK
  rw [ho]
  show (dkeys (eMk kk e' l)).bind _ = _
  rw [dkeys_mk hk]
  exact h
end DL
namespace DL
open L2 PyProof.Rows PySem PySem.Spec
/-! an owned row read at a drawn place -/
theorem vB_bw {K : Fg} {F : Fx} {σ : L2.St} {H : Hp} {ρ : Rho} {i : Nat} {d : D} (R : Rl K F σ H ρ) (h : vB i ρ = some d) : ∃ v, σ[i]? = some (some v) ∧ Bw K (Ow F σ ρ) H v d := by
  unfold vB at h
  split at h
  · rename_i d' e
    cases h
    obtain ⟨y, e1, v, e2, dn⟩ := R.slot i _ e
    subst e2
    exact ⟨v, e1, .inl dn⟩
  · rename_i d' e
    cases h
    obtain ⟨y, e1, a, e2, t, _⟩ := R.slot i _ e
    subst e2
    exact ⟨_, e1, .inr ⟨a, rfl, t⟩⟩
  · rename_i d' e
    cases h
    obtain ⟨y, e1, a, e2, t, _⟩ := R.slot i _ e
    subst e2
    exact ⟨_, e1, .inr ⟨a, rfl, t⟩⟩
  · cases h
theorem eg_ixB {X : Cx} {m2 : Bool} {kd k2 : Kd} {b : Expr} {fb : Ef} {pos px : Pos} {i : Nat} {x : Str} {g : D → D → Option D} (ho : IxD X kd g) (hx : PE X (.Name x px) (tVar i)) (hb : EG X m2 k2 b fb) (hk : ∀ ρ e ρ', fb ρ = some (e, ρ') → vB i ρ' = vB i ρ) (hs : PlainIx b := by intro _ _; rfl) : EG X m2 kd (.Subscript (.Name x px) b pos) (seq2 g (lift (vB i)) fb) := by
  obtain ⟨tb, hb1, hb2⟩ := hb.ex
  refine ⟨_, pe_ix ho hx hb1 hs, fun F σ H ρ d ρ' Q R hf k => ?_⟩
  obtain ⟨x, ρ1, y, e1, e2, e3⟩ := seq2_some hf
  obtain ⟨e1, rfl⟩ := lift_some.mp e1
  obtain ⟨v, s1, _⟩ := vB_bw R e1
  refine ⟨v, s1, ?_⟩
  refine hb2 F σ H ρ1 y ρ' _ R e2 fun u H2 p2 r2 => ?_
  obtain ⟨v', s2, bw⟩ := vB_bw p2.rl (show vB i ρ' = some x by rw [hk _ _ _ e2]; exact e1)
  rw [s1] at s2
  cases s2
  exact ⟨Ow F σ ρ', x, y, d, p2.rl.domL, bw, r2.bw, e3, fun z H3 s3 r3 => k z H3 (p2.more s3) (.of p2.rl s3 r3 p2.ev.dom)⟩
theorem keep_callM {i j : Nat} {g : D → List D → Option (D × D)} {fa : Rho → Option (List D)} (hij : i ≠ j) : ∀ ρ e ρ', callM j g (liftA fa) ρ = some (e, ρ') → vB i ρ' = vB i ρ := fun ρ e ρ' h => by
  obtain ⟨c, h1, h2⟩ := Option.bind_eq_some_iff.mp h
  obtain ⟨a, h3, h4⟩ := Option.bind_eq_some_iff.mp h2
  obtain ⟨c2, h5, h6⟩ := Option.bind_eq_some_iff.mp h4
  obtain ⟨r, h7, h8⟩ := Option.map_eq_some_iff.mp h6
  obtain ⟨ds, h9⟩ : ∃ ds, a = (ds, ρ) := by
    obtain ⟨ds, q1, q2⟩ := Option.map_eq_some_iff.mp h3
    exact ⟨ds, q2.symm⟩
  cases h8
  subst h9
  have hw : ∀ c' : D, (wr j c' ρ)[i]? = ρ[i]? := fun c' => by
    unfold wr
    cases ρ[j]? with
    | none => rfl
    | some s => exact List.getElem?_set_ne (fun z => hij z.symm)
  show vB i (wr j r.2 ρ) = vB i ρ
  unfold vB
  rw [hw]
end DL
namespace DL
open L2 PyProof.Rows PySem PySem.Spec
/-! sorted(d) of a dict whose keys are tuples -/
def sortMT : D → Option D
  | .dict ds => if isTd ds = true then sortA (.list (ds.dropLast.map (·.1))) else none
  | _ => none
theorem isKeys_dn {K : Fg} {H : Hp} {O : Ad} (dom : ∀ a, O a → Live H a) : ∀ {kvs : List (List Key × V)} {bs : List Addr}, IsKeys H kvs bs → DnL K (hide H O) (bs.map V.ref) (kvs.map fun kv => PyData.tuple (kv.1.map keyD))
  | _, _, .nil => .nil
  | _, _, .cons (a := p) (b := q) h t => by
    have no : ¬ O q := fun z => by
      obtain ⟨o, q1, q2⟩ := dom q z
      rw [q1] at h
      cases h
      exact q2 _ rfl
    exact .cons (.tup (hide_some.mpr ⟨no, h⟩) (keysDn _ _ p.1)) (isKeys_dn dom t)
section
variable {X : Cx}
theorem cd_sortMT {kd : Kd} (hk : isF kd) (hcm : X.calm = true) (hu : X.A.units + 64 < cLine) : CallD X kd (.builtin "sorted") (on1 sortMT) := cd_one (fun _ _ h => on1_some h) fun pins s σ H O x v d z Q I rx dom bx hz k => by
  cases d with
  | dict dd =>
    obtain ⟨a, rfl, hh⟩ := bx.dict
    rcases hh with ⟨kvs, h1, h2⟩ | ⟨kvs, h1, h2⟩
    · have hz : (if isTd dd = true then sortA (.list (dd.dropLast.map (·.1))) else none) = some z := hz
      rw [dnK_isT h2, if_neg Bool.false_ne_true] at hz
      cases hz
    have hz : (if isTd dd = true then sortA (.list (dd.dropLast.map (·.1))) else none) = some z := hz
    rw [dnT_isT h2, if_pos rfl, dnT_at h2] at hz
    cases rx
    obtain ⟨z0, hs, ks, pr, o, es, ep, ho, hx, hdt, he, hn⟩ := (show ObjOk X.prog X.w H s.heap a (.dT kvs) from h1.ok I.hok)
    have l1 : es.size = ks.length := size_of_entries he
    have l2 : kvs.length = ks.length := Paired.length pr
    have t : DnL X.K (hide H O) ((ks.map fun x => x.2.1).map V.ref) (kvs.map fun kv => PyData.tuple (kv.1.map keyD)) := isKeys_dn dom (isKeys_of pr)
    generalize hds : (kvs.map fun kv => PyData.tuple (kv.1.map keyD)) = ds at hz t
    obtain ⟨hc, rfl⟩ := ite_some (show (if sortOk ds = true then some (PyData.list (ds.mergeSort sortLe)) else none) = some z from hz)
    unfold sortOk at hc
    rw [Bool.and_eq_true, Bool.and_eq_true, plOk_iff, Bool.or_eq_true] at hc
    obtain ⟨⟨hal, hp, hd⟩, hk'⟩ := hc
    have hsl := sizeLine_eq
    refine Calls.call_function_entry kind_sorted plain_sorted entry_sorted (args_sorted1 _) ?_
    unfold Builtin.«sorted»
    refine wpAny_bind (m := PySem.checkCount "sorted" 1 1 _) (wpAny_pure ?_)
    refine wpAny_bind (PySem.W.kdu_collect (A := X.A.in1) (kdl_raw hs hx hdt) (I.ok.hd hcm) ho (by omega) fun h' tk acc kp it => ?_)
    have ea : acc.toList = ks.map fun x => Value.ref x.2.1 := by
      have hl : acc.toList.length = ks.length := by rw [Array.length_toList, it.1]; exact l1
      apply List.ext_getElem?
      intro j
      rw [List.getElem?_map]
      cases hj : acc.toList[j]? with
      | none =>
        have h1 := List.getElem?_eq_none_iff.mp hj
        rw [List.getElem?_eq_none (by omega)]
        all_goals rfl
      | some v =>
        obtain ⟨en, hen, hv⟩ := it.2 j v (by rw [← Array.getElem?_toList]; exact hj)
        have qe := entry_at he j
        rw [hen] at qe
        cases hb : ks[j]? with
        | none =>
          rw [hb] at qe
          exact nomatch (show some en = none from qe)
        | some b =>
          rw [hb] at qe
          have e2 : en = entryOfKey (tupleKind (mixKind X.prog X.w)) b := Option.some.inj qe
          rw [hv, e2]
          all_goals rfl
    have eb : acc.toList = (ks.map fun x => x.2.1).map Value.ref := by rw [ea, List.map_map]; all_goals rfl
    have rv : Vals ((ks.map fun x => x.2.1).map V.ref) acc.toList := by rw [eb]; exact vals_refs _
    obtain ⟨as, hr⟩ := DnL.reads I hide_sub t hp rv
    have len := t.length
    have hvl := rv.length
    have al : acc.toList.length = ks.length := by rw [← hvl]; simp
    refine wpAny_bind (wpAny_newList ?_ (by omega))
    have I1 : Inv X pins σ H { s with heap := h', toks := tk } := I.kept kp
    have hnew : (h'.push { cls := .type "list", data := .seq acc.toList.toArray }).get? h'.objs.size = some (seqObj "list" acc.toList.toArray 0) := by
      rw [Heap.get?_push_size _ rfl]
    have kp2 : ∀ b o, s.heap.get? b = some o → (h'.push { cls := .type "list", data := .seq acc.toList.toArray }).get? b = some o := fun b o q => Heap.get?_push_of_some _ (kp b o q)
    have hfresh : s.heap.get? h'.objs.size = none := by
      cases q : s.heap.get? h'.objs.size with
      | none => rfl
      | some o => exact absurd (Heap.lt_size (kp _ _ q)) (Nat.lt_irrefl _)
    refine wpAny_bind (wpAny_holding ?_)
    refine PySem.W.list_sort_data (enc := fun d : D => d) (vs := acc.toList) hnew (eachV t rv) (each_old kp2 hfresh hr) (by rw [List.map_id']; exact allAlike_iff hal) (by
        rw [List.map_id']
        rcases hk' with h | h
        · refine .inl fun d hd => ?_
          have := List.all_eq_true.mp h d hd
          unfold tup1 at this
          split at this
          · exact ⟨_, _, rfl⟩
          · cases this
        · refine .inr fun d hd => ?_
          have := List.all_eq_true.mp h d hd
          exact ⟨fun e => (by subst e; cases this), fun xs e => (by subst e; cases this)⟩) (by omega) (fun b hb => by have := depth_mem hb; show X.A.units + 1 + 1 + _ < _; omega) fun out ho' he' => ?_
    have es' : ds.mergeSort (PySem.W.dataLe false fun d : D => d) = ds.mergeSort sortLe := by
      rw [PySem.W.dataLe_eq]
      rfl
    rw [es'] at he'
    obtain ⟨ys, r1, r2⟩ := eachV_out he'
    obtain ⟨e, hx'⟩ := PyProof.Rows.sortedHeap_at (out := out.toArray) hnew
    have kp3 : ∀ b u, h'.get? b = some u → (sortedHeap (h'.push { cls := .type "list", data := .seq acc.toList.toArray }) h'.objs.size acc.toList out.toArray).get? b = some u := fun b u q1 => by
      have hlt := Heap.lt_size q1
      have h2 : b < (h'.push { cls := .type "list", data := .seq acc.toList.toArray }).objs.size := by
        rw [Heap.size_push]
        exact Nat.lt_succ_of_lt hlt
      rw [PyProof.Rows.sortedHeap_old (Nat.ne_of_lt hlt) h2]
      exact Heap.get?_push_of_some _ q1
    have hf := I1.hok.fresh (Nat.le_refl _)
    refine wpAny_pure ⟨_, rfl, .ref _, upd H h'.objs.size (.lst ys), I1.laid (t' := tk) kp3 (Nat.le_refl _) ⟨?_, out, e, r1, hx'⟩, rfl, k _ _ (sameNew hf) (newL hk hf dom r2)⟩
    have := r1.length
    omega
  | _ => cases hz
end
theorem sortMT_eq {κ β : Type} {kk : κ → D} {e : β → D} (l : List (κ × β)) : sortMT (eMt kk e l) = sortA (eL kk (mkeys l)) := by
  have h : ∀ m : List (D × D), sortMT (PyData.dict (m ++ [(PyData.none, PyData.none)])) = sortA (.list (m.map (·.1))) := fun m => by
    show (if isTd (m ++ [(PyData.none, PyData.none)]) = true then sortA (.list ((m ++ [(PyData.none, PyData.none)]).dropLast.map (·.1))) else none) = _
    rw [isTd_end, if_pos rfl, List.dropLast_concat]
  unfold eMt
  rw [h, List.map_map]
  unfold mkeys eL
  rw [List.map_map]
  rfl
theorem dvMT {κ β : Type} {kk : κ → D} {e : β → D} {l : List (κ × β)} {z : D} (h : sortA (eL kk (mkeys l)) = some z) : sortMT (eMt kk e l) = some z := (sortMT_eq l).trans h
/-! len(set(xs)), xs a tuple -/
def lensetT : D → Option D
  | .tuple ds => if Nat.blt ds.length 4000 = true then (keysQ ds).map fun ks => .int (uniq ks).length else none
  | _ => none
section
variable {X : Cx}
def tLenSetT (K : Fg) (ta : TE) : TE := fun σ H Q => ta σ H fun x H1 => ∃ (l : Addr) (ks : List Key), x = .ref l ∧ SqT K H1 l (ks.map kV) ∧ ks.length < 4000 ∧ Q (.int (uniq ks).length) H1
theorem pe_lenSetT {a : Expr} {ta : TE} {p p2 q pos : Pos} (hc : X.calm = true) (hg : Gl X "len") (hm : X.mg "len" = none) (hg2 : Gl X "set") (hm2 : X.mg "set" = none) (ha : PE X a ta)
    (na : starEach [a] X.env = (false, eval a X.env) :: starEach [] X.env := by rfl) : PE X (.Call (.Name "len" p) [.Call (.Name "set" p2) [a] [] q] [] pos) (tLenSetT X.K ta) := by
  refine ⟨fun pins s σ H Q I h => ?_⟩
  refine Call_ (ld_blt I hg hm boot_len ?_)
  refine PyProof.Rows.callWith_builtin1 (PyProof.Rows.args_cons ?_ rfl) rfl rfl
  refine Call_ (ld_blt I hg2 hm2 boot_set ?_)
  refine PyProof.Rows.callWith_type1 (PyProof.Rows.args_cons (thn (ha.run pins s σ H _ I h) fun v s1 ⟨x, H1, I1, r1, q1⟩ => PyProof.Rows.args_nil ?_) na) na rfl
  obtain ⟨l, ks, rfl, hq, hlt, q1⟩ := q1
  cases r1
  obtain ⟨its, r, pl, hz⟩ := I1.tuple hq
  have hl : its.toArray.size = ks.length := by rw [List.size_toArray, ← r.length, List.length_map]
  refine call_set_skT (fun i => ks.getD i (.inl 0)) (I1.ok.hd hc) pl (fun i v e => keys_rel r i v (by simpa using e)) (by rw [hl]; unfold scanBound; omega) fun h' tk hS hk => ?_
  refine PyProof.Rows.args_nil ?_
  rw [hl, metK_uniq] at hS
  obtain ⟨o, es, ep, t, ho, hex, hd, g, pm, nd, hb, hf, hr, hled⟩ := hS
  have hn : es.size = (uniq ks).length := by
    have := pm.length_eq
    simpa using this
  have I2 : Inv X pins σ H1 { s1 with heap := h', toks := tk } := I1.kept fun b o e => hk b o (Heap.lt_size e) e
  refine call_len_set ho hex hd hf (by unfold scanBound at hb; omega) ⟨.int (uniq ks).length, H1, I2.tok _, ⟨_, by rw [hn]⟩, q1⟩
theorem ep_lensetT {a : Expr} {fa : Rho → Option D} {k1 : Kd} {p p2 q pos : Pos} (hc : X.calm = true) (hg : Gl X "len") (hm : X.mg "len" = none) (hg2 : Gl X "set") (hm2 : X.mg "set" = none) (ha : EP X k1 a fa)
    (na : starEach [a] X.env = (false, eval a X.env) :: starEach [] X.env := by rfl) : EP X .k (.Call (.Name "len" p) [.Call (.Name "set" p2) [a] [] q] [] pos) (pu1 lensetT fa) := by
  obtain ⟨t, h1, h2⟩ := ha.ex
  refine ⟨_, pe_lenSetT hc hg hm hg2 hm2 h1 na, fun F σ H ρ d ρ' Q R hf k => ?_⟩
  obtain ⟨hf, rfl⟩ := lift_some.mp hf
  obtain ⟨x, e1, e2⟩ := Option.bind_eq_some_iff.mp hf
  refine h2 F σ H ρ' x ρ' _ R (lift_some.mpr ⟨e1, rfl⟩) fun v H1 p1 r1 => ?_
  cases x with
  | tuple ds =>
    have e0 : (if Nat.blt ds.length 4000 = true then (keysQ ds).map fun ks => PyData.int (uniq ks).length else none) = some d := e2
    have ok : Nat.blt ds.length 4000 = true := by
      cases q : Nat.blt ds.length 4000 with
      | true => rfl
      | false => rw [q] at e0; cases e0
    have e3 : (keysQ ds).map (fun ks => PyData.int (uniq ks).length) = some d := by
      rw [if_pos ok] at e0
      exact e0
    obtain ⟨ks, e4, rfl⟩ := Option.map_eq_some_iff.mp e3
    obtain ⟨l, xs, rfl, g1, g2⟩ := r1.bw.tuple
    have := dn_keys g2 e4
    subst this
    have hlen := g2.length
    rw [List.length_map] at hlen
    refine ⟨l, ks, rfl, .inl (.inl (hide_some.mp g1).2), ?_, k _ H1 p1 (.k (.int _))⟩
    have := Nat.le_of_ble_eq_true ok
    omega
  | _ => cases e2
end
theorem dv_lensetTI {l : List Int} (h : l.length < 4000) : lensetT (eT eI l) = some (eI (((uniqT l).length : Nat) : Int)) := dv_lensetI h
theorem dv_lensetTS {l : List Str} (h : l.length < 4000) : lensetT (eT eS l) = some (eI (((uniqT l).length : Nat) : Int)) := dv_lensetS h
end DL
namespace K90
open PySem DL
def b__law_draws : Sf :=
  (sSeq (sSetO 2 (lift (compPE (puI (vP 0)) (setP 7) tsN (puA (on1 intD) (aC (vP 7) aN)) [7]))) (sSeq (sIf (liftT (tstP (pu2 eqD (puA (on1 lenD) (aC (vB 2) aN)) (cC (.int 0))))) (sEx (mutE 2 gAppend (liftA (aC (cC (.int 0)) aN)))) sNx) (sSeq (sSetO 3 (lift (puA (on1 lstD) (aC (vB 2) aN)))) (sSeq (sSetO 4 (lift (mkLP aN))) (sSeq (sFor (liftA (puR (aC (vP 1) aN))) (setP 5) (sSeq (sSetP 6 (lift (pu2 modD (vP 5) (puA (on1 lenD) (aC (vB 2) aN))))) (sIf (liftT (andP (tstP (pu2 geD (pu2 ixD (vB 2) (vP 6)) (pu2 powD (cC (.int 10)) (cC (.int 18))))) (tstP (pu2 gtD (pu2 ixD (vB 3) (vP 6)) (cC (.int 0)))))) (sSeq (sEx (mutE 4 gAppend (liftA (aC (pu2 modD (puA (on1 intD) (aC (pu2 ixD (vB 3) (vP 6)) aN)) (cC (.int 1000))) aN)))) (storeL 3 (lift (pu2 divD (pu2 ixD (vB 3) (vP 6)) (cC (.int 1000)))) (lift (vP 6)))) (sSeq (sSetP 8 (lift (pu2 modD (puA (on1 intD) (aC (pu2 addD (pu2 addD (pu2 mulD (pu2 ixD (vB 2) (vP 6)) (cC (.int 48271))) (pu2 mulD (vP 5) (cC (.int 69621)))) (cC (.int 11))) aN)) (cC (.int 2147483647))))) (sEx (mutE 4 gAppend (liftA (aC (pu2 modD (puA (on1 intD) (aC (pu2 addD (pu2 addD (pu2 mulD (vP 8) (vP 8)) (pu2 mulD (cC (.int 3)) (vP 8))) (vP 5)) aN)) (cC (.int 1000003))) aN)))))))) (sSeq (sEx (mutE 4 gReverse (liftA aN))) (sRtO 4)))))))
def m__law_draws : List D → Option D := fnP 9 b__law_draws
def b__law_same (slf : List D → Option D) : Sf :=
  (sSeq (sIf (liftT (tstP (pu1 (isiD .bo) (vP 1)))) (sRt (lift (andVP (pu1 (isiD .bo) (vP 0)) (pu2 eqD (vP 0) (vP 1))))) sNx) (sSeq (sIf (liftT (tstP (pu1 (isiD .it) (vP 1)))) (sRt (lift (andVP (pu1 (isiD .it) (vP 0)) (andVP (pu1 notD (pu1 (isiD .bo) (vP 0))) (pu2 eqD (vP 0) (vP 1)))))) sNx) (sSeq (sIf (liftT (tstP (pu1 (isiD .st) (vP 1)))) (sRt (lift (andVP (pu1 (isiD .st) (vP 0)) (pu2 eqD (vP 0) (vP 1))))) sNx) (sSeq (sIf (liftT (tstP (pu2 isN (vP 1) (cC .none)))) (sRt (lift (pu2 isN (vP 0) (cC .none)))) sNx) (sSeq (sIf (liftT (orP (notP (tstP (pu1 (isiD .tu) (vP 0)))) (tstP (pu2 neD (puA (on1 lenD) (aC (vP 0) aN)) (puA (on1 lenD) (aC (vP 1) aN)))))) (sRt (lift (cC (.bool false)))) sNx) (sSeq (sFor (liftA (puR (aC (puA (on1 lenD) (aC (vP 1) aN)) aN))) (setP 2) (sIf (liftT (notP (tstP (puA slf (aC (pu2 ixD (vP 0) (vP 2)) (aC (pu2 ixD (vP 1) (vP 2)) aN)))))) (sRt (lift (cC (.bool false)))) sNx)) (sRt (lift (cC (.bool true))))))))))
def m__law_same : Nat → List D → Option D
  | 0 => fun _ => none
  | n + 1 => fnP 3 (b__law_same (m__law_same n))
def b__law_take : Sf :=
  (sSeq (sIf (liftT (tstP (pu2 eqD (puA (on1 lenD) (aC (vB 0) aN)) (cC (.int 0))))) (sRt (lift (cC (.int 0)))) sNx) (sRt (seq2 modD (seqA (on1 intD) (aS (mutE 0 gPop (liftA aN)) (liftA aN))) (lift (vP 1)))))
def m__law_take : D → List D → Option (D × D) := fnM 2 0 b__law_take
def b__law_cell : Sf :=
  (sSeq (sIf (liftT (tstP (pu2 eqD (puA (on1 lenD) (aC (vP 0) aN)) (cC (.int 0))))) (sRt (lift (cC (.int 0)))) sNx) (sSeq (sSetP 2 (seqA (on1 intD) (aS (seq2 ixD (lift (vP 0)) (callM 1 m__law_take (liftA (aC (puA (on1 lenD) (aC (vP 0) aN)) aN)))) (liftA aN)))) (sRt (lift (pu2 mulD (pu2 modD (puA (on1 absD) (aC (vP 2) aN)) (pu2 powD (cC (.int 10)) (cC (.int 60)))) (pu2 ixD (mkLP (aC (cC (.int 1)) (aC (pu1 negD (cC (.int 1))) aN))) (puA (on1 intD) (aC (pu2 ltD (vP 2) (cC (.int 0))) aN))))))))
def m__law_cell : D → List D → Option (D × D) := fnM 3 1 b__law_cell
def b__law_text : Sf :=
  (sSeq (sSetP 1 (lift (pu2 divD (puA (on1 lenD) (aC (vP 0) aN)) (cC (.int 2))))) (sSeq (sIf (liftT (andP (tstP (pu2 gtD (vP 1) (cC (.int 1)))) (tstP (pu2 eqD (puS slD (vP 0) oN (oI (vP 1))) (puS slD (vP 0) (oI (vP 1)) oN))))) (sSeq (sRt (lift (pu2 addD (puM "str" joinD (cC (.str (PySem.Str.ofString "."))) (aC (compPE (puI (puS slD (vP 0) oN (oI (vP 1)))) (setP 2) tsN (puA (on1 strD) (aC (vP 2) aN)) [2]) aN)) (cC (.str (PySem.Str.ofString " D")))))) sNx) sNx) (sSeq (sRt (lift (puM "str" joinD (cC (.str (PySem.Str.ofString "."))) (aC (compPE (puI (vP 0)) (setP 2) tsN (puA (on1 strD) (aC (vP 2) aN)) [2]) aN)))) sNx)))
def m__law_text : List D → Option D := fnP 3 b__law_text
def b__law_others : Sf :=
  (sSeq (sSetP 2 (lift (puA m__law_text (aC (vP 1) aN)))) (sSeq (sSetP 3 (lift (puM "str" joinD (cC (.str (PySem.Str.ofString "."))) (aC (compPE (puI (vP 1)) (setP 6) tsN (puA (on1 strD) (aC (vP 6) aN)) [6]) aN)))) (sSeq (sSetP 4 (callM 0 m__law_take (liftA (aC (pu2 addD (puA (on1 lenD) (aC (vP 2) aN)) (cC (.int 1))) aN)))) (sSeq (sSetP 5 (lift (mkLP (aC (vP 2) (aC (vP 3) (aC (pu2 addD (vP 3) (cC (.str (PySem.Str.ofString " D")))) (aC (pu2 addD (vP 3) (cC (.str (PySem.Str.ofString "D")))) (aC (pu2 addD (vP 2) (cC (.str (PySem.Str.ofString " D")))) (aC (pu2 addD (puS slD (vP 2) oN (oI (vP 4))) (puS slD (vP 2) (oI (pu2 addD (vP 4) (cC (.int 1)))) oN)) (aC (pu2 addD (pu2 addD (puS slD (vP 2) oN (oI (vP 4))) (cC (.str (PySem.Str.ofString ".")))) (puS slD (vP 2) (oI (vP 4)) oN)) (aC (pu2 addD (pu2 addD (puS slD (vP 2) oN (oI (vP 4))) (cC (.str (PySem.Str.ofString "0")))) (puS slD (vP 2) (oI (vP 4)) oN)) aN))))))))))) (sSeq (sRt (lift (pu2 addD (vP 5) (mkLP (aC (pu2 addD (pu2 addD (puS slD (vP 2) oN (oI (vP 4))) (cC (.str (PySem.Str.ofString " ")))) (puS slD (vP 2) (oI (vP 4)) oN)) (aC (puM "str" lowerD (vP 2) aN) (aC (pu2 addD (cC (.str (PySem.Str.ofString " "))) (vP 2)) (aC (pu2 addD (vP 3) (cC (.str (PySem.Str.ofString " d")))) (aC (cC (.str (PySem.Str.ofString ""))) (aC (cC (.str (PySem.Str.ofString " D"))) (aC (cC (.str (PySem.Str.ofString "D"))) (aC (pu2 repS (cC (.str (PySem.Str.ofString "1"))) (cC (.int 31))) (aC (cC (.str (PySem.Str.ofString "8.8.8"))) (aC (cC (.str (PySem.Str.ofString "0"))) aN)))))))))))))) sNx)))))
def m__law_others : D → List D → Option (D × D) := fnM 7 0 b__law_others
def b__law_read : Sf :=
  (sSeq (sSetP 1 (lift (puM "str" splitD (vP 0) (aC (cC (.str (PySem.Str.ofString " "))) aN)))) (sSeq (sIf (liftT (orP (tstP (pu2 gtD (puA (on1 lenD) (aC (vP 1) aN)) (cC (.int 2)))) (andP (tstP (pu2 eqD (puA (on1 lenD) (aC (vP 1) aN)) (cC (.int 2)))) (tstP (pu2 neD (pu2 ixD (vP 1) (cC (.int 1))) (cC (.str (PySem.Str.ofString "D")))))))) (sSeq (sRt (lift (cC .none))) sNx) sNx) (sSeq (sSetO 2 (lift (mkLP aN))) (sSeq (sFor (liftA (puI (puM "str" splitD (pu2 ixD (vP 1) (cC (.int 0))) (aC (cC (.str (PySem.Str.ofString "."))) aN)))) (setP 3) (sFg [3] (sSeq (sIf (liftT (orP (tstP (pu2 eqD (vP 3) (cC (.str (PySem.Str.ofString ""))))) (orP (tstP (pu2 gtD (puA (on1 lenD) (aC (vP 3) aN)) (cC (.int 30)))) (orP (tstP (pu2 eqD (pu2 ixD (vP 3) (cC (.int 0))) (cC (.str (PySem.Str.ofString "0"))))) (tstP (pu2 gtD (puA (on1 lenD) (aC (compPE (puI (vP 3)) (setP 4) (tstP (pu2 ninD (vP 4) (cC (.str (PySem.Str.ofString "0123456789"))))) (vP 4) [4]) aN)) (cC (.int 0)))))))) (sSeq (sRt (lift (cC .none))) sNx) sNx) (sSeq (sEx (mutE 2 gAppend (liftA (aC (puA (on1 intD) (aC (vP 3) aN)) aN)))) sNx)))) (sSeq (sRt (lift (puA (on1 tupD) (aC (pu2 mulD (vB 2) (puA (on1 lenD) (aC (vP 1) aN))) aN)))) sNx)))))
def m__law_read : List D → Option D := fnP 5 b__law_read
def b_is_line : Sf :=
  (sSeq (sRt (lift (andVP (chP ltD leD (cC (.int 0)) (puA (on1 lenD) (aC (vP 0) aN)) (cC (.int 30))) (andVP (pu2 neD (pu2 ixD (vP 0) (cC (.int 0))) (cC (.str (PySem.Str.ofString "0")))) (puA (on1 allD) (aC (compPE (puI (vP 0)) (setP 1) tsN (pu2 inD (vP 1) (cC (.str (PySem.Str.ofString "0123456789")))) [1]) aN)))))) sNx)
def m_is_line : List D → Option D := fnP 2 b_is_line
def b_read_measure : Sf :=
  (sSeq (sSetP 1 (lift (pu2 eqD (puS slD (vP 0) (oI (pu1 negD (cC (.int 2)))) oN) (cC (.str (PySem.Str.ofString " D")))))) (sSeq (sSetP 2 (lift (puM "str" splitD (ifP (tstP (vP 1)) (puS slD (vP 0) oN (oI (pu1 negD (cC (.int 2))))) (vP 0)) (aC (cC (.str (PySem.Str.ofString "."))) aN)))) (sSeq (sIf (liftT (notP (tstP (puA (on1 allD) (aC (compPE (puI (vP 2)) (setP 4) tsN (puA m_is_line (aC (vP 4) aN)) [4]) aN))))) (sSeq (sRt (lift (cC .none))) sNx) sNx) (sSeq (sSetP 3 (lift (puA (on1 tupD) (aC (compPE (puI (vP 2)) (setP 4) tsN (puA (on1 intD) (aC (vP 4) aN)) [4]) aN)))) (sSeq (sRt (lift (ifP (tstP (vP 1)) (pu2 addD (vP 3) (vP 3)) (vP 3)))) sNx)))))
def m_read_measure : List D → Option D := fnP 5 b_read_measure
def b_by_measure : Sf :=
  (sSeq (sSetO 1 (lift (cC (.dict [(.none, .none)])))) (sSeq (sFor (liftA (puR (aC (puA (on1 lenD) (aC (vP 0) aN)) aN))) (setP 2) (sFg [2, 3] (sSeq (sSetP 3 (lift (puA m_read_measure (aC (pu2 ixD (vP 0) (vP 2)) aN)))) (sSeq (sIf (liftT (tstP (pu2 isNN (vP 3) (cC .none)))) (sSeq (storeD 1 (lift (pu2 addD (puG (vB 1) (vP 3) (mkTP aN)) (mkTP (aC (vP 2) aN)))) (lift (vP 3))) sNx) sNx) sNx)))) (sSeq (sRt (lift (puA (on1 tupD) (aC (compPE (puI (puA (on1 sortMT) (aC (vB 1) aN))) (setP 3) tsN (mkTP (aC (vP 3) (aC (pu2 dIxD (vB 1) (vP 3)) aN))) [3]) aN)))) sNx)))
def m_by_measure : List D → Option D := fnP 4 b_by_measure
def b_half_of : Sf :=
  (sSeq (sSetP 1 (lift (pu2 divD (puA (on1 lenD) (aC (vP 0) aN)) (cC (.int 2))))) (sSeq (sRt (lift (ifP (andP (tstP (pu2 gtD (vP 1) (cC (.int 1)))) (tstP (pu2 eqD (vP 0) (pu2 addD (puS slD (vP 0) oN (oI (vP 1))) (puS slD (vP 0) oN (oI (vP 1))))))) (puS slD (vP 0) oN (oI (vP 1))) (cC .none)))) sNx))
def m_half_of : List D → Option D := fnP 2 b_half_of
def b_written_lines : Sf :=
  (sSeq (sRt (lift (puM "str" joinD (cC (.str (PySem.Str.ofString "."))) (aC (compPE (puI (vP 0)) (setP 1) tsN (puA (on1 strD) (aC (vP 1) aN)) [1]) aN)))) sNx)
def m_written_lines : List D → Option D := fnP 2 b_written_lines
def b_written_measure : Sf :=
  (sSeq (sSetP 1 (lift (puA m_half_of (aC (vP 0) aN)))) (sSeq (sRt (lift (ifP (tstP (pu2 isN (vP 1) (cC .none))) (puA m_written_lines (aC (vP 0) aN)) (pu2 addD (puA m_written_lines (aC (vP 1) aN)) (cC (.str (PySem.Str.ofString " D"))))))) sNx))
def m_written_measure : List D → Option D := fnP 2 b_written_measure
def b_same_measure : Sf :=
  (sSeq (sSetP 2 (lift (puA m_read_measure (aC (vP 0) aN)))) (sSeq (sRt (lift (andVP (pu2 isNN (vP 2) (cC .none)) (pu2 eqD (vP 2) (puA m_read_measure (aC (vP 1) aN)))))) sNx))
def m_same_measure : List D → Option D := fnP 3 b_same_measure
def b__law_are_texts_right : Sf :=
  (sSeq (sIf (liftT (orP (notP (tstP (puA (m__law_same 6) (aC (puA m_written_measure (aC (vP 1) aN)) (aC (puA m__law_text (aC (vP 1) aN)) aN))))) (notP (tstP (puA (m__law_same 6) (aC (puA m_read_measure (aC (puA m__law_text (aC (vP 1) aN)) aN)) (aC (vP 1) aN))))))) (sSeq (sRt (lift (cC (.bool false)))) sNx) sNx) (sSeq (sSetP 2 (callM 0 m__law_others (liftA (aC (vP 1) aN)))) (sSeq (sFor (liftA (puI (vP 2))) (setP 3) (sFg [3, 7] (sSeq (sSetP 7 (lift (puA m__law_read (aC (vP 3) aN)))) (sSeq (sIf (liftT (notP (tstP (puA (m__law_same 6) (aC (puA m_read_measure (aC (vP 3) aN)) (aC (vP 7) aN)))))) (sSeq (sRt (lift (cC (.bool false)))) sNx) sNx) (sSeq (sIf (liftT (orP (notP (tstP (puA (m__law_same 6) (aC (puA m_same_measure (aC (vP 3) (aC (pu2 ixD (vP 2) (cC (.int 1))) aN))) (aC (andVP (pu2 isNN (vP 7) (cC .none)) (pu2 eqD (vP 7) (vP 1))) aN))))) (notP (tstP (puA (m__law_same 6) (aC (puA m_same_measure (aC (pu2 ixD (vP 2) (cC (.int 2))) (aC (vP 3) aN))) (aC (pu2 eqD (vP 7) (pu2 addD (vP 1) (vP 1))) aN))))))) (sSeq (sRt (lift (cC (.bool false)))) sNx) sNx) (sSeq (sIf (liftT (andP (tstP (pu2 isNN (vP 7) (cC .none))) (notP (tstP (puA (m__law_same 6) (aC (puA m_read_measure (aC (puA m_written_measure (aC (vP 7) aN)) aN)) (aC (vP 7) aN))))))) (sSeq (sRt (lift (cC (.bool false)))) sNx) sNx) sNx)))))) (sSeq (sSetP 4 (seqA (on1 tupD) (aS (compE (seqR (aS (callM 0 m__law_take (liftA (aC (cC (.int 9)) aN))) (liftA aN))) (setP 6) (liftT tsN) (seq2 ixD (lift (vP 2)) (callM 0 m__law_take (liftA (aC (puA (on1 lenD) (aC (vP 2) aN)) aN)))) [6]) (liftA aN)))) (sSeq (sSetO 5 (lift (cC (.dict [(.none, .none)])))) (sSeq (sFor (liftA (puR (aC (puA (on1 lenD) (aC (vP 4) aN)) aN))) (setP 6) (sFg [6, 7] (sSeq (sSetP 7 (lift (puA m__law_read (aC (pu2 ixD (vP 4) (vP 6)) aN)))) (sSeq (sIf (liftT (tstP (pu2 isNN (vP 7) (cC .none)))) (sSeq (storeD 5 (lift (pu2 addD (puG (vB 5) (vP 7) (mkTP aN)) (mkTP (aC (vP 6) aN)))) (lift (vP 7))) sNx) sNx) sNx)))) (sSeq (sRt (lift (puA (m__law_same 6) (aC (puA m_by_measure (aC (vP 4) aN)) (aC (puA (on1 tupD) (aC (compPE (puI (puA (on1 sortMT) (aC (vB 5) aN))) (setP 8) tsN (mkTP (aC (vP 8) (aC (pu2 dIxD (vB 5) (vP 8)) aN))) [8]) aN)) aN))))) sNx)))))))
def m__law_are_texts_right : D → List D → Option (D × D) := fnM 9 0 b__law_are_texts_right
def b_fits_tune : Sf :=
  (sSeq (sSetP 2 (lift (pu2 divD (puA (on1 lenD) (aC (vP 0) aN)) (puA (on1 lenD) (aC (vP 1) aN))))) (sSeq (sRt (lift (andVP (pu2 gtD (vP 2) (cC (.int 0))) (pu2 eqD (vP 0) (pu2 repT (vP 1) (vP 2)))))) sNx))
def m_fits_tune : List D → Option D := fnP 3 b_fits_tune
def b_tunes_for : Sf :=
  (sSeq (sSetO 2 (lift (mkLP aN))) (sSeq (sFor (liftA (puI (vP 0))) (setP 3) (sFg [3] (sSeq (sEx (mutE 2 gAppend (liftA (aC (puA (on1 tupD) (aC (compPE (puR (aC (puA (on1 lenD) (aC (vP 1) aN)) aN)) (setP 4) (tstP (puA m_fits_tune (aC (vP 3) (aC (pu2 ixD (vP 1) (vP 4)) aN)))) (vP 4) [4]) aN)) aN)))) sNx))) (sSeq (sRt (lift (puA (on1 tupD) (aC (vB 2) aN)))) sNx)))
def m_tunes_for : List D → Option D := fnP 5 b_tunes_for
def b__law_fits : Sf :=
  (sSeq (sSetP 2 (lift (cC (.int 1)))) (sSeq (whileX (liftT (tstP (pu2 ltD (pu2 mulD (puA (on1 lenD) (aC (vP 1) aN)) (vP 2)) (puA (on1 lenD) (aC (vP 0) aN))))) (sFg [] (sSeq (sSetP 2 (lift (pu2 addD (vP 2) (cC (.int 1))))) sNx))) (sSeq (sRt (lift (pu2 eqD (pu2 repT (vP 1) (vP 2)) (vP 0)))) sNx)))
def m__law_fits : List D → Option D := fnP 3 b__law_fits
def b__law_are_tunes_right : Sf :=
  (sSeq (sSetP 3 (lift (puA (on1 tupD) (aC (compPE (puI (vP 1)) (setP 4) tsN (puA (on1 tupD) (aC (compPE (puR (aC (puA (on1 lenD) (aC (vP 2) aN)) aN)) (setP 8) (tstP (puA m__law_fits (aC (vP 4) (aC (pu2 ixD (vP 2) (vP 8)) aN)))) (vP 8) [8]) aN)) [4]) aN)))) (sSeq (sIf (liftT (notP (tstP (puA (m__law_same 6) (aC (puA m_tunes_for (aC (vP 1) (aC (vP 2) aN))) (aC (vP 3) aN)))))) (sSeq (sRt (lift (cC (.bool false)))) sNx) sNx) (sSeq (sFor (liftA (puI (vP 1))) (setP 4) (sFg [4, 5, 6, 7] (sSeq (sIf (liftT (orP (notP (tstP (puA (m__law_same 6) (aC (puA m_fits_tune (aC (vP 4) (aC (vP 4) aN))) (aC (cC (.bool true)) aN))))) (notP (tstP (puA (m__law_same 6) (aC (puA m_fits_tune (aC (pu2 addD (vP 4) (vP 4)) (aC (vP 4) aN))) (aC (cC (.bool true)) aN))))))) (sSeq (sRt (lift (cC (.bool false)))) sNx) sNx) (sSeq (sSetP 5 (lift (puS slD (vP 4) oN (oI (pu2 divD (puA (on1 lenD) (aC (vP 4) aN)) (cC (.int 2))))))) (sSeq (sIf (liftT (andP (tstP (pu2 eqD (puS slD (puA m_written_measure (aC (vP 4) aN)) (oI (pu1 negD (cC (.int 2)))) oN) (cC (.str (PySem.Str.ofString " D"))))) (notP (tstP (puA (m__law_same 6) (aC (puA m_fits_tune (aC (vP 4) (aC (vP 5) aN))) (aC (cC (.bool true)) aN))))))) (sSeq (sRt (lift (cC (.bool false)))) sNx) sNx) (sSeq (sFor (liftA (puI (vP 2))) (setP 6) (sFg [6, 7] (sSeq (sIf (liftT (notP (tstP (puA (m__law_same 6) (aC (puA m_fits_tune (aC (vP 4) (aC (vP 6) aN))) (aC (puA m__law_fits (aC (vP 4) (aC (vP 6) aN))) aN)))))) (sSeq (sRt (lift (cC (.bool false)))) sNx) sNx) (sSeq (sFor (liftA (puI (vP 2))) (setP 7) (sFg [7] (sSeq (sIf (liftT (andP (tstP (puA m_fits_tune (aC (vP 4) (aC (vP 6) aN)))) (andP (tstP (puA m_fits_tune (aC (vP 6) (aC (vP 7) aN)))) (notP (tstP (puA m_fits_tune (aC (vP 4) (aC (vP 7) aN)))))))) (sSeq (sRt (lift (cC (.bool false)))) sNx) sNx) (sSeq (sIf (liftT (andP (tstP (puA m_fits_tune (aC (vP 4) (aC (vP 6) aN)))) (andP (tstP (puA m_fits_tune (aC (vP 4) (aC (vP 7) aN)))) (andP (tstP (pu2 eqD (puA (on1 absD) (aC (pu2 subD (puA (on1 lenD) (aC (vP 6) aN)) (puA (on1 lenD) (aC (vP 7) aN))) aN)) (cC (.int 1)))) (tstP (pu2 neD (pu1 lensetT (vP 4)) (cC (.int 1)))))))) (sSeq (sRt (lift (cC (.bool false)))) sNx) sNx) sNx)))) sNx)))) sNx)))))) (sSeq (sRt (lift (cC (.bool true)))) sNx))))
def m__law_are_tunes_right : D → List D → Option (D × D) := fnM 9 0 b__law_are_tunes_right
def b__law_lines : Sf :=
  (sSeq (sSetP 2 (seqA (on1 tupD) (aS (compE (seqR (aS (seq2 addD (lift (cC (.int 1))) (callM 0 m__law_take (liftA (aC (cC (.int 4)) aN)))) (liftA aN))) (setP 3) (liftT tsN) (seq2 ixD (mkL (aS (seq2 addD (lift (cC (.int 1))) (callM 0 m__law_take (liftA (aC (cC (.int 14)) aN)))) (aS (seq2 addD (lift (cC (.int 6))) (seq2 mulD (lift (cC (.int 2))) (callM 0 m__law_take (liftA (aC (cC (.int 2)) aN))))) (aS (lift (cC (.int 8))) (liftA aN))))) (callM 0 m__law_take (liftA (aC (cC (.int 3)) aN)))) [3]) (liftA aN)))) (sSeq (sIf (tst (seq2 eqD (callM 0 m__law_take (liftA (aC (cC (.int 9)) aN))) (lift (cC (.int 0))))) (sSeq (sSetP 2 (lift (pu2 addD (vP 2) (mkTP (aC (pu2 addD (cC (.int 1)) (vP 1)) aN))))) sNx) sNx) (sSeq (sRt (seq2 repT (lift (vP 2)) (seq2 ixD (lift (mkLP (aC (cC (.int 1)) (aC (cC (.int 1)) (aC (cC (.int 2)) (aC (cC (.int 3)) aN)))))) (callM 0 m__law_take (liftA (aC (cC (.int 4)) aN)))))) sNx)))
def m__law_lines : D → List D → Option (D × D) := fnM 4 0 b__law_lines
def b_law : Sf :=
  (sSeq (sSetO 1 (lift (puA m__law_draws (aC (vP 0) (aC (cC (.int 420)) aN))))) (sSeq (sSetP 2 (seq2 modD (seqA (on1 absD) (aS (callM 1 m__law_cell (aS (lift (vP 0)) (liftA aN))) (liftA aN))) (lift (pu2 powD (cC (.int 10)) (cC (.int 28)))))) (sSeq (sFor (liftA (puR (aC (cC (.int 2)) aN))) (setP 3) (sFg [3, 4, 5, 6] (sSeq (sIf (notT (tst (callM 1 m__law_are_texts_right (aS (callM 1 m__law_lines (liftA (aC (vP 2) aN))) (liftA aN))))) (sSeq (sRt (lift (cC (.bool false)))) sNx) sNx) (sSeq (sSetP 4 (seqA (on1 tupD) (aS (compE (seqR (aS (callM 1 m__law_take (liftA (aC (cC (.int 4)) aN))) (liftA aN))) (setP 7) (liftT tsN) (callM 1 m__law_lines (liftA (aC (vP 2) aN))) [7]) (liftA aN)))) (sSeq (sSetO 5 (seq2 catD (compE (seqR (aS (callM 1 m__law_take (liftA (aC (cC (.int 3)) aN))) (liftA aN))) (setP 7) (liftT tsN) (callM 1 m__law_lines (liftA (aC (vP 2) aN))) [7]) (seqS slD (lift (mkLP (aC (mkTP (aC (cC (.int 8)) aN)) (aC (mkTP (aC (cC (.int 8)) (aC (cC (.int 6)) aN))) (aC (mkTP (aC (cC (.int 8)) (aC (cC (.int 8)) aN))) aN))))) (oL oN) (oE (callM 1 m__law_take (liftA (aC (cC (.int 4)) aN))))))) (sSeq (sFor (liftA (puI (vP 4))) (setP 6) (sFg [6] (sSeq (sEx (mutE 5 gAppend (aS (seqS slD (lift (vP 6)) (oL oN) (oE (seq2 addD (lift (cC (.int 1))) (callM 1 m__law_take (liftA (aC (puA (on1 lenD) (aC (vP 6) aN)) aN)))))) (liftA aN)))) sNx))) (sSeq (sIf (notT (tst (callM 1 m__law_are_tunes_right (liftA (aC (vP 4) (aC (puA (on1 tupD) (aC (vB 5) aN)) aN)))))) (sSeq (sRt (lift (cC (.bool false)))) sNx) sNx) sNx))))))) (sSeq (sIf (liftT (orP (notP (tstP (puA (m__law_same 6) (aC (puA m_read_measure (aC (cC (.str (PySem.Str.ofString "8.6.8.6 D"))) aN)) (aC (pu2 repT (mkTP (aC (cC (.int 8)) (aC (cC (.int 6)) aN))) (cC (.int 4))) aN))))) (orP (notP (tstP (puA (m__law_same 6) (aC (puA m_written_measure (aC (pu2 repT (mkTP (aC (cC (.int 8)) (aC (cC (.int 6)) aN))) (cC (.int 2))) aN)) (aC (cC (.str (PySem.Str.ofString "8.6 D"))) aN))))) (notP (tstP (puA (m__law_same 6) (aC (puA m_written_measure (aC (mkTP (aC (cC (.int 7)) (aC (cC (.int 7)) aN))) aN)) (aC (cC (.str (PySem.Str.ofString "7.7"))) aN)))))))) (sSeq (sRt (lift (cC (.bool false)))) sNx) sNx) (sSeq (sIf (liftT (orP (notP (tstP (puA (m__law_same 6) (aC (puA m_same_measure (aC (cC (.str (PySem.Str.ofString "8.8.8.8"))) (aC (cC (.str (PySem.Str.ofString "8.8 D"))) aN))) (aC (cC (.bool true)) aN))))) (orP (notP (tstP (puA (m__law_same 6) (aC (puA m_same_measure (aC (cC (.str (PySem.Str.ofString "8..8"))) (aC (cC (.str (PySem.Str.ofString "8..8"))) aN))) (aC (cC (.bool false)) aN))))) (notP (tstP (puA (m__law_same 6) (aC (puA m_fits_tune (aC (mkTP (aC (cC (.int 8)) (aC (cC (.int 8)) (aC (cC (.int 8)) aN)))) (aC (mkTP (aC (cC (.int 8)) (aC (cC (.int 8)) aN))) aN))) (aC (cC (.bool false)) aN)))))))) (sSeq (sRt (lift (cC (.bool false)))) sNx) sNx) (sSeq (sRt (lift (andVP (puA (m__law_same 6) (aC (puA m_by_measure (aC (mkTP (aC (cC (.str (PySem.Str.ofString "8.6"))) (aC (cC (.str (PySem.Str.ofString "x"))) (aC (cC (.str (PySem.Str.ofString "6"))) (aC (cC (.str (PySem.Str.ofString "8.6"))) aN))))) aN)) (aC (mkTP (aC (mkTP (aC (mkTP (aC (cC (.int 6)) aN)) (aC (mkTP (aC (cC (.int 2)) aN)) aN))) (aC (mkTP (aC (mkTP (aC (cC (.int 8)) (aC (cC (.int 6)) aN))) (aC (mkTP (aC (cC (.int 0)) (aC (cC (.int 3)) aN))) aN))) aN))) aN))) (puA (m__law_same 6) (aC (puA m_tunes_for (aC (mkTP (aC (mkTP (aC (cC (.int 8)) (aC (cC (.int 6)) (aC (cC (.int 8)) (aC (cC (.int 6)) aN))))) aN)) (aC (mkTP (aC (mkTP (aC (cC (.int 8)) aN)) (aC (mkTP (aC (cC (.int 8)) (aC (cC (.int 6)) aN))) (aC (mkTP (aC (cC (.int 8)) (aC (cC (.int 6)) (aC (cC (.int 8)) (aC (cC (.int 6)) (aC (cC (.int 8)) (aC (cC (.int 6)) aN))))))) aN)))) aN))) (aC (mkTP (aC (mkTP (aC (cC (.int 1)) aN)) aN)) aN)))))) sNx))))))
def m_law : List D → Option D := fnP 8 b_law
end K90
set_option maxHeartbeats 4000000
namespace K90
open PySem DL PyProof.Rows L2
theorem v__law_draws {ns : List Int} (hl : ns.length ≤ 1000) {many : Nat} (hm : many ≤ 100000) : ∃ c, m__law_draws [eL eI ns, eI (many : Int)] = some c ∧ Dr c := draws_ok hl hm
theorem w__law_take {c : D} {m : Int} {K : Int → Prop} {Q : D → D → Prop} (hc : Dr c) (hw : takeW m K) (hk : ∀ v c', Dr c' → K v → Q (eI v) c') : Cm m__law_take c [eI m] Q := w_take hc hw hk
theorem w__law_cell {c : D} {ns : List Int} {K : Int → Prop} {Q : D → D → Prop} (hc : Dr c) (hw : cellW K) (hk : ∀ v c', Dr c' → K v → Q (eI v) c') : Cm m__law_cell c [eL eI ns] Q := w_cell hc hw hk
theorem same_eq : ∀ n, m__law_same n = m_Lsame n
  | 0 => rfl
  | n + 1 => by
    show fnP 3 (b__law_same (m__law_same n)) = fnP 3 (b_Lsame (m_Lsame n))
    rw [same_eq n]
    rfl
theorem v__law_same {α : Type} [DecidableEq α] {e : α → D} {n : Nat} {ok : α → Prop} (h : SmE e n ok) {a b : α} (hb : ok b) (hn : n ≤ 5 := by decide) : m__law_same 6 [e a, e b] = some (eB (decide (a = b))) := by
  rw [same_eq]
  exact dv_same h hb hn
def T__law_text (lines_ : (List Int)) : Str :=
  (lt ((((List.length lines_ : Nat) : Int) / (2 : Int)) : Int) (fun half_ => (if ((decide ((1 : Int) < half_)) && (decide ((cutD lines_ none (some half_)) = (cutD lines_ (some half_) none)))) = true then ((Txt.join (PySem.Str.ofString ".") (List.map (fun (own_ : Int) => (toString own_ : Str)) (cutD lines_ none (some half_)))) ++ (PySem.Str.ofString " D")) else (Txt.join (PySem.Str.ofString ".") (List.map (fun (own_ : Int) => (toString own_ : Str)) lines_)))))
def S__law_text (lines_ : (List Int)) : Prop :=
  (lt ((((List.length lines_ : Nat) : Int) / (2 : Int)) : Int) (fun half_ => ((((decide ((1 : Int) < half_)) && (decide ((cutD lines_ none (some half_)) = (cutD lines_ (some half_) none)))) = true → (((List.length (cutD lines_ none (some half_)) ≤ 16777216 ∧ (∀ own_, own_ ∈ (cutD lines_ none (some half_)) → Nat.log2 (Int.natAbs own_) < 1920)) ∧ joinOk (PySem.Str.ofString ".") (List.map (fun (own_ : Int) => (toString own_ : Str)) (cutD lines_ none (some half_)))) ∧ (Str.length (Txt.join (PySem.Str.ofString ".") (List.map (fun (own_ : Int) => (toString own_ : Str)) (cutD lines_ none (some half_)))) + Str.length (PySem.Str.ofString " D") ≤ 16777216))) ∧ (((decide ((1 : Int) < half_)) && (decide ((cutD lines_ none (some half_)) = (cutD lines_ (some half_) none)))) = false → ((List.length lines_ ≤ 16777216 ∧ (∀ own_, own_ ∈ lines_ → Nat.log2 (Int.natAbs own_) < 1920)) ∧ joinOk (PySem.Str.ofString ".") (List.map (fun (own_ : Int) => (toString own_ : Str)) lines_))))))
theorem v__law_text {lines_ : (List Int)} (h : S__law_text lines_) : m__law_text [(eT eI) lines_] = some (eS (T__law_text lines_)) := by
  delta m__law_text b__law_text T__law_text
  delta S__law_text at h
  exact fnP_T [.p ((eT eI) lines_), .un, .un] (rn_set (enc := eI) (fun half_ => [.p ((eT eI) lines_), .p (eI half_), .un]) (tv2 (tvA (tvC rfl tvN) (dv_lenT _)) rfl (dv_divI (divOk_small (by decide) (by decide)))) h (fun half_ h382 => (rn_ifT (tt_and (tt_tst (tv2 rfl rfl (dv_gtI _ _))) (fun q196 => (tt_tst (tv2 (tvS rfl tvON (tvOI rfl) (dv_slT _ _ _)) (tvS rfl (tvOI rfl) tvON (dv_slT _ _ _)) (dv_eq (eqT eqI) (cutD lines_ none (some half_)) (cutD lines_ (some half_) none)))))) (fun q91 => (rn_assoc (rn_ret (x := eS ((Txt.join (PySem.Str.ofString ".") (List.map (fun (own_ : Int) => (toString own_ : Str)) (cutD lines_ none (some half_)))) ++ (PySem.Str.ofString " D"))) (tv2 (tvM rfl rfl (tvC (tv_map (enc := eI) (encb := eS) (h := fun (own_ : Int) => (toString own_ : Str)) (fun own_ => [.p ((eT eI) lines_), .p (eI half_), .p (eI own_)]) (ti_T (tvS rfl tvON (tvOI rfl) (dv_slT _ _ _))) (h382.1 q91).1.1.1 (fun own_ hx333 => (tvA (tvC rfl tvN) (dv_strI ((h382.1 q91).1.1.2 own_ hx333))))) tvN) (dv_joinL (h382.1 q91).1.2)) rfl (dv_catS (h382.1 q91).2)) rfl))) (fun q91 => (rn_skip (rn_ret (x := eS (Txt.join (PySem.Str.ofString ".") (List.map (fun (own_ : Int) => (toString own_ : Str)) lines_))) (tvM rfl rfl (tvC (tv_map (enc := eI) (encb := eS) (h := fun (own_ : Int) => (toString own_ : Str)) (fun own_ => [.p ((eT eI) lines_), .p (eI half_), .p (eI own_)]) (ti_T rfl) (h382.2 q91).1.1 (fun own_ hx380 => (tvA (tvC rfl tvN) (dv_strI ((h382.2 q91).1.2 own_ hx380))))) tvN) (dv_joinL (h382.2 q91).2)) rfl))))))
def W__law_others (lines_ : (List Int)) (Q : (List Str) → Prop) : Prop :=
  (S__law_text lines_ ∧ (∀ text_ : Str, text_ = (T__law_text lines_) → (((List.length lines_ ≤ 16777216 ∧ (∀ own_, own_ ∈ lines_ → Nat.log2 (Int.natAbs own_) < 1920)) ∧ joinOk (PySem.Str.ofString ".") (List.map (fun (own_ : Int) => (toString own_ : Str)) lines_)) ∧ (∀ plain_ : Str, plain_ = (Txt.join (PySem.Str.ofString ".") (List.map (fun (own_ : Int) => (toString own_ : Str)) lines_)) → (Str.length text_ ≤ 16777216 ∧ (takeW (((Str.length text_ : Nat) : Int) + (1 : Int)) (fun v532 => (∀ at_ : Int, at_ = v532 → (((Str.length plain_ + Str.length (PySem.Str.ofString " D") ≤ 16777216) ∧ (Str.length plain_ + Str.length (PySem.Str.ofString "D") ≤ 16777216) ∧ (Str.length text_ + Str.length (PySem.Str.ofString " D") ≤ 16777216) ∧ (Str.length text_ ≤ 16777216 ∧ Str.length text_ ≤ 16777216 ∧ (Str.length (cutS text_ none (some at_)) + Str.length (cutS text_ (some (at_ + (1 : Int))) none) ≤ 16777216)) ∧ ((Str.length text_ ≤ 16777216 ∧ (Str.length (cutS text_ none (some at_)) + Str.length (PySem.Str.ofString ".") ≤ 16777216)) ∧ Str.length text_ ≤ 16777216 ∧ (Str.length ((cutS text_ none (some at_)) ++ (PySem.Str.ofString ".")) + Str.length (cutS text_ (some at_) none) ≤ 16777216)) ∧ ((Str.length text_ ≤ 16777216 ∧ (Str.length (cutS text_ none (some at_)) + Str.length (PySem.Str.ofString "0") ≤ 16777216)) ∧ Str.length text_ ≤ 16777216 ∧ (Str.length ((cutS text_ none (some at_)) ++ (PySem.Str.ofString "0")) + Str.length (cutS text_ (some at_) none) ≤ 16777216))) ∧ (∀ found_ : (List Str), found_ = ([text_, plain_, (plain_ ++ (PySem.Str.ofString " D")), (plain_ ++ (PySem.Str.ofString "D")), (text_ ++ (PySem.Str.ofString " D")), ((cutS text_ none (some at_)) ++ (cutS text_ (some (at_ + (1 : Int))) none)), (((cutS text_ none (some at_)) ++ (PySem.Str.ofString ".")) ++ (cutS text_ (some at_) none)), (((cutS text_ none (some at_)) ++ (PySem.Str.ofString "0")) ++ (cutS text_ (some at_) none))] : (List Str)) → (((((Str.length text_ ≤ 16777216 ∧ (Str.length (cutS text_ none (some at_)) + Str.length (PySem.Str.ofString " ") ≤ 16777216)) ∧ Str.length text_ ≤ 16777216 ∧ (Str.length ((cutS text_ none (some at_)) ++ (PySem.Str.ofString " ")) + Str.length (cutS text_ (some at_) none) ≤ 16777216)) ∧ Str.length text_ ≤ 5592405 ∧ (Str.length (PySem.Str.ofString " ") + Str.length text_ ≤ 16777216) ∧ (Str.length plain_ + Str.length (PySem.Str.ofString " d") ≤ 16777216) ∧ ((31 : Int).natAbs ≤ 1000000 ∧ Str.length (PySem.Str.ofString "1") * ((31 : Int)).toNat ≤ 16777216)) ∧ (List.length found_ + List.length ([(((cutS text_ none (some at_)) ++ (PySem.Str.ofString " ")) ++ (cutS text_ (some at_) none)), (Txt.lower text_), ((PySem.Str.ofString " ") ++ text_), (plain_ ++ (PySem.Str.ofString " d")), (PySem.Str.ofString ""), (PySem.Str.ofString " D"), (PySem.Str.ofString "D"), (repSt (PySem.Str.ofString "1") (31 : Int)), (PySem.Str.ofString "8.8.8"), (PySem.Str.ofString "0")] : (List Str)) ≤ 16777216)) ∧ (Q (found_ ++ ([(((cutS text_ none (some at_)) ++ (PySem.Str.ofString " ")) ++ (cutS text_ (some at_) none)), (Txt.lower text_), ((PySem.Str.ofString " ") ++ text_), (plain_ ++ (PySem.Str.ofString " d")), (PySem.Str.ofString ""), (PySem.Str.ofString " D"), (PySem.Str.ofString "D"), (repSt (PySem.Str.ofString "1") (31 : Int)), (PySem.Str.ofString "8.8.8"), (PySem.Str.ofString "0")] : (List Str)))))))))))))))
theorem w__law_others {lines_ : (List Int)} {Q : (List Str) → Prop} {c : D} {Q' : D → D → Prop} (hc : Dr c) (h : W__law_others lines_ Q) (hq : ∀ v c', Dr c' → Q v → Q' ((eL eS) v) c') : Cm m__law_others c [(eT eI) lines_] Q' := by
  delta W__law_others at h
  delta m__law_others b__law_others
  exact cm_W (e := (eL eS)) [.m c, .p ((eT eI) lines_), .un, .un, .un, .un, .un] (toQ (rn_set (k := fun _ => ()) (enc := eS) (fun text_ => [.m c, .p ((eT eI) lines_), .p (eS text_), .un, .un, .un, .un]) (tvA (tvC rfl tvN) (v__law_text (lines_ := lines_) h.1)) (all_lt h.2) (fun text_ h1714 => (toQ (rn_set (k := fun _ => ()) (enc := eS) (fun plain_ => [.m c, .p ((eT eI) lines_), .p (eS text_), .p (eS plain_), .un, .un, .un]) (tvM rfl rfl (tvC (tv_map (enc := eI) (encb := eS) (h := fun (own_ : Int) => (toString own_ : Str)) (fun own_ => [.m c, .p ((eT eI) lines_), .p (eS text_), .un, .un, .un, .p (eI own_)]) (ti_T rfl) h1714.1.1.1 (fun own_ hx485 => (tvA (tvC rfl tvN) (dv_strI (h1714.1.1.2 own_ hx485))))) tvN) (dv_joinL h1714.1.2)) (all_lt h1714.2) (fun plain_ h1713 => (rn_setW (ev_callM ⟨_, rfl, (aw_l (tvC (tv2 (tvA (tvC rfl tvN) (dv_lenS h1713.1)) rfl (dv_addI _ _)) tvN) ⟨_, rfl, w__law_take hc h1713.2 (fun v532 c533 hc534 h1712 => (rn_wset (enc := eI) (fun at_ => [.m c533, .p ((eT eI) lines_), .p (eS text_), .p (eS plain_), .p (eI at_), .un, .un]) h1712 (fun at_ h1711 => (toQ (rn_set (k := fun _ => ()) (enc := (eL eS)) (fun found_ => [.m c533, .p ((eT eI) lines_), .p (eS text_), .p (eS plain_), .p (eI at_), .p ((eL eS) found_), .un]) (tvMkL (z := (eL eS) ([text_, plain_, (plain_ ++ (PySem.Str.ofString " D")), (plain_ ++ (PySem.Str.ofString "D")), (text_ ++ (PySem.Str.ofString " D")), ((cutS text_ none (some at_)) ++ (cutS text_ (some (at_ + (1 : Int))) none)), (((cutS text_ none (some at_)) ++ (PySem.Str.ofString ".")) ++ (cutS text_ (some at_) none)), (((cutS text_ none (some at_)) ++ (PySem.Str.ofString "0")) ++ (cutS text_ (some at_) none))] : (List Str))) (tvC rfl (tvC rfl (tvC (tv2 rfl rfl (dv_catS h1711.1.1)) (tvC (tv2 rfl rfl (dv_catS h1711.1.2.1)) (tvC (tv2 rfl rfl (dv_catS h1711.1.2.2.1)) (tvC (tv2 (tvS rfl tvON (tvOI rfl) (dv_slS _ _ h1711.1.2.2.2.1.1)) (tvS rfl (tvOI (tv2 rfl rfl (dv_addI _ _))) tvON (dv_slS _ _ h1711.1.2.2.2.1.2.1)) (dv_catS h1711.1.2.2.2.1.2.2)) (tvC (tv2 (tv2 (tvS rfl tvON (tvOI rfl) (dv_slS _ _ h1711.1.2.2.2.2.1.1.1)) rfl (dv_catS h1711.1.2.2.2.2.1.1.2)) (tvS rfl (tvOI rfl) tvON (dv_slS _ _ h1711.1.2.2.2.2.1.2.1)) (dv_catS h1711.1.2.2.2.2.1.2.2)) (tvC (tv2 (tv2 (tvS rfl tvON (tvOI rfl) (dv_slS _ _ h1711.1.2.2.2.2.2.1.1)) rfl (dv_catS h1711.1.2.2.2.2.2.1.2)) (tvS rfl (tvOI rfl) tvON (dv_slS _ _ h1711.1.2.2.2.2.2.2.1)) (dv_catS h1711.1.2.2.2.2.2.2.2)) tvN)))))))) rfl) (all_lt h1711.2) (fun found_ h1710 => (rn_ret (x := (eL eS) (found_ ++ ([(((cutS text_ none (some at_)) ++ (PySem.Str.ofString " ")) ++ (cutS text_ (some at_) none)), (Txt.lower text_), ((PySem.Str.ofString " ") ++ text_), (plain_ ++ (PySem.Str.ofString " d")), (PySem.Str.ofString ""), (PySem.Str.ofString " D"), (PySem.Str.ofString "D"), (repSt (PySem.Str.ofString "1") (31 : Int)), (PySem.Str.ofString "8.8.8"), (PySem.Str.ofString "0")] : (List Str)))) (tv2 rfl (tvMkL (z := (eL eS) ([(((cutS text_ none (some at_)) ++ (PySem.Str.ofString " ")) ++ (cutS text_ (some at_) none)), (Txt.lower text_), ((PySem.Str.ofString " ") ++ text_), (plain_ ++ (PySem.Str.ofString " d")), (PySem.Str.ofString ""), (PySem.Str.ofString " D"), (PySem.Str.ofString "D"), (repSt (PySem.Str.ofString "1") (31 : Int)), (PySem.Str.ofString "8.8.8"), (PySem.Str.ofString "0")] : (List Str))) (tvC (tv2 (tv2 (tvS rfl tvON (tvOI rfl) (dv_slS _ _ h1710.1.1.1.1.1)) rfl (dv_catS h1710.1.1.1.1.2)) (tvS rfl (tvOI rfl) tvON (dv_slS _ _ h1710.1.1.1.2.1)) (dv_catS h1710.1.1.1.2.2)) (tvC (tvM rfl rfl tvN (dv_lower h1710.1.1.2.1)) (tvC (tv2 rfl rfl (dv_catS h1710.1.1.2.2.1)) (tvC (tv2 rfl rfl (dv_catS h1710.1.1.2.2.2.1)) (tvC rfl (tvC rfl (tvC rfl (tvC (tv2 rfl rfl (dv_repS h1710.1.1.2.2.2.2)) (tvC rfl (tvC rfl tvN)))))))))) rfl) (dv_catL h1710.1.2)) ⟨(_, _), rfl, hc534, _, rfl, h1710.2⟩)))))))⟩)⟩)))))))) hq
def T__law_read_l1 (found_ : (List Int)) (word_ : Str) : (Ctl (List Int) (Option (List Int))) :=
  (if ((decide (word_ = (PySem.Str.ofString ""))) || ((decide ((30 : Int) < ((Str.length word_ : Nat) : Int))) || ((decide ((chZ word_ (0 : Int)) = (PySem.Str.ofString "0"))) || (decide ((0 : Int) < ((List.length (List.map (fun (sign_ : Str) => sign_) (List.filter (fun (sign_ : Str) => (!inS sign_ (PySem.Str.ofString "0123456789"))) (charsT word_))) : Nat) : Int)))))) = true then (Ctl.rt (none : (Option (List Int)))) else (lt ((found_ ++ [(intT word_)]) : (List Int)) (fun found_ => (Ctl.nx found_))))
def S__law_read_l1 (found_ : (List Int)) (word_ : Str) : Prop :=
  (((decide (word_ = (PySem.Str.ofString ""))) = false → (Str.length word_ ≤ 16777216 ∧ ((decide ((30 : Int) < ((Str.length word_ : Nat) : Int))) = false → ((ixOk (Str.cps word_).toList (0 : Int) ∧ Str.length word_ ≤ 16777216) ∧ ((decide ((chZ word_ (0 : Int)) = (PySem.Str.ofString "0"))) = false → List.length (charsT word_) ≤ 16777216))))) ∧ (((decide (word_ = (PySem.Str.ofString ""))) || ((decide ((30 : Int) < ((Str.length word_ : Nat) : Int))) || ((decide ((chZ word_ (0 : Int)) = (PySem.Str.ofString "0"))) || (decide ((0 : Int) < ((List.length (List.map (fun (sign_ : Str) => sign_) (List.filter (fun (sign_ : Str) => (!inS sign_ (PySem.Str.ofString "0123456789"))) (charsT word_))) : Nat) : Int)))))) = false → ((Str.length word_ ≤ 640 ∧ (PySem.intText? word_).isSome = true) ∧ List.length found_ < 16777216)))
def T__law_read (text_ : Str) : (Option (List Int)) :=
  (lt ((Txt.split text_ (PySem.Str.ofString " ")) : (List Str)) (fun words_ => (if ((decide ((2 : Int) < ((List.length words_ : Nat) : Int))) || ((decide (((List.length words_ : Nat) : Int) = (2 : Int))) && (!decide ((atZ words_ (1 : Int)) = (PySem.Str.ofString "D"))))) = true then (none : (Option (List Int))) else (lt (([] : (List Int)) : (List Int)) (fun found_ => (ctl (loopC T__law_read_l1 found_ (Txt.split (atZ words_ (0 : Int)) (PySem.Str.ofString "."))) (fun v => v) (fun found_ => (some (rep ((List.length words_ : Nat) : Int) found_)))))))))
def S__law_read (text_ : Str) : Prop :=
  (splitOk text_ (PySem.Str.ofString " ") ∧ (lt ((Txt.split text_ (PySem.Str.ofString " ")) : (List Str)) (fun words_ => (((decide ((2 : Int) < ((List.length words_ : Nat) : Int))) = false → ((decide (((List.length words_ : Nat) : Int) = (2 : Int))) = true → ixOk words_ (1 : Int))) ∧ (((decide ((2 : Int) < ((List.length words_ : Nat) : Int))) || ((decide (((List.length words_ : Nat) : Int) = (2 : Int))) && (!decide ((atZ words_ (1 : Int)) = (PySem.Str.ofString "D"))))) = false → (lt (([] : (List Int)) : (List Int)) (fun found_ => ((ixOk words_ (0 : Int) ∧ splitOk (atZ words_ (0 : Int)) (PySem.Str.ofString ".")) ∧ (loopS S__law_read_l1 T__law_read_l1 found_ (Txt.split (atZ words_ (0 : Int)) (PySem.Str.ofString "."))) ∧ (ctlS (loopC T__law_read_l1 found_ (Txt.split (atZ words_ (0 : Int)) (PySem.Str.ofString "."))) (fun found_ => repOk (List.length found_) ((List.length words_ : Nat) : Int) = true))))))))))
theorem v__law_read {text_ : Str} (h : S__law_read text_) : m__law_read [eS text_] = some ((eO (eT eI)) (T__law_read text_)) := by
  delta m__law_read b__law_read T__law_read
  delta S__law_read at h
  exact fnP_T [.p (eS text_), .un, .un, .un, .un] (rn_set (enc := (eL eS)) (fun words_ => [.p (eS text_), .p ((eL eS) words_), .un, .un, .un]) (tvM rfl rfl (tvC rfl tvN) (dv_split h.1)) h.2 (fun words_ h2506 => (rn_ifT (tt_or (tt_tst (tv2 (tvA (tvC rfl tvN) (dv_lenL _)) rfl (dv_gtI _ _))) (fun q1915 => (tt_and (tt_tst (tv2 (tvA (tvC rfl tvN) (dv_lenL _)) rfl (dv_eq eqI ((List.length words_ : Nat) : Int) (2 : Int)))) (fun q1910 => (tt_tst (tv2 (tv2 rfl rfl (dv_ixL (a := eS) (l := words_) ((h2506.1 q1915) q1910))) rfl (dv_ne eqS (atZ words_ (1 : Int)) (PySem.Str.ofString "D")))))))) (fun q1745 => (rn_assoc (rn_ret (x := (eO (eT eI)) (none : (Option (List Int)))) rfl rfl))) (fun q1745 => (rn_skip (rn_setO' (enc := (eL eI)) (fun found_ => [.p (eS text_), .p ((eL eS) words_), .o ((eL eI) found_), .un, .un]) (tvMkL (z := (eL eI) ([] : (List Int))) tvN rfl) (h2506.2 q1745) (fun found_ h2505 => (rn_loop (enc := eS) (encR := (eO (eT eI))) (vs := [3]) (step := T__law_read_l1) (rt := (fun v => v)) (fun found_ => [.p (eS text_), .p ((eL eS) words_), .o ((eL eI) found_), .un, .un]) (fun found_ word_ => [.p (eS text_), .p ((eL eS) words_), .o ((eL eI) found_), .p (eS word_), .un]) (fun _ _ => rfl) (ti_L (tvM (tv2 rfl rfl (dv_ixL (a := eS) (l := words_) h2505.1.1)) rfl (tvC rfl tvN) (dv_split h2505.1.2))) h2505.2.1 (fun found_ word_ h2504 => (rn_ifT (tt_or (tt_tst (tv2 rfl rfl (dv_eq eqS word_ (PySem.Str.ofString "")))) (fun q2383 => (tt_or (tt_tst (tv2 (tvA (tvC rfl tvN) (dv_lenS (h2504.1 q2383).1)) rfl (dv_gtI _ _))) (fun q2378 => (tt_or (tt_tst (tv2 (tv2 rfl rfl (dv_ixS ((h2504.1 q2383).2 q2378).1)) rfl (dv_eq eqS (chZ word_ (0 : Int)) (PySem.Str.ofString "0")))) (fun q2373 => (tt_tst (tv2 (tvA (tvC (tv_filt (enc := eS) (encb := eS) (h := fun (sign_ : Str) => sign_) (q := fun (sign_ : Str) => (!inS sign_ (PySem.Str.ofString "0123456789"))) (fun sign_ => [.p (eS text_), .p ((eL eS) words_), .o ((eL eI) found_), .p (eS word_), .p (eS sign_)]) (ti_S rfl) (((h2504.1 q2383).2 q2378).2 q2373) (fun sign_ hx2366 => (tt_tst (tv2 rfl rfl (dv_ninS _ _)))) (fun sign_ hx2366 hq2367 => rfl)) tvN) (dv_lenL _)) rfl (dv_gtI _ _))))))))) (fun q1990 => (rn_assoc (rn_ret (x := (eO (eT eI)) (none : (Option (List Int)))) rfl rfl))) (fun q1990 => (rn_skip (rn_app' (enc := eI) (fun found_ => [.p (eS text_), .p ((eL eS) words_), .o ((eL eI) found_), .p (eS word_), .un]) rfl (tvA (tvC rfl tvN) (dv_intS (h2504.2 q1990).1)) (h2504.2 q1990).2 trivial (s2 := fun _ => True) (fun found_ _ => (rn_end rfl))))))) h2505.2.2 (fun found_ h2504 => (rn_ret (x := (eO (eT eI)) (some (rep ((List.length words_ : Nat) : Int) found_))) (tvA (tvC (tv2 rfl (tvA (tvC rfl tvN) (dv_lenL _)) (dv_repL h2504)) tvN) (dv_tupL _)) rfl))))))))))
def T_is_line (word_ : Str) : Bool :=
  (((decide ((0 : Int) < ((Str.length word_ : Nat) : Int))) && (decide (((Str.length word_ : Nat) : Int) ≤ (30 : Int)))) && ((!decide ((chZ word_ (0 : Int)) = (PySem.Str.ofString "0"))) && (List.all (List.map (fun (sign_ : Str) => (inS sign_ (PySem.Str.ofString "0123456789"))) (charsT word_)) id)))
def S_is_line (word_ : Str) : Prop :=
  (Str.length word_ ≤ 16777216 ∧ (((decide ((0 : Int) < ((Str.length word_ : Nat) : Int))) && (decide (((Str.length word_ : Nat) : Int) ≤ (30 : Int)))) = true → ((ixOk (Str.cps word_).toList (0 : Int) ∧ Str.length word_ ≤ 16777216) ∧ ((!decide ((chZ word_ (0 : Int)) = (PySem.Str.ofString "0"))) = true → List.length (charsT word_) ≤ 16777216))))
theorem v_is_line {word_ : Str} (h : S_is_line word_) : m_is_line [eS word_] = some (eB (T_is_line word_)) := by
  delta m_is_line b_is_line T_is_line
  delta S_is_line at h
  exact fnP_T [.p (eS word_), .un] (rn_ret (x := eB (((decide ((0 : Int) < ((Str.length word_ : Nat) : Int))) && (decide (((Str.length word_ : Nat) : Int) ≤ (30 : Int)))) && ((!decide ((chZ word_ (0 : Int)) = (PySem.Str.ofString "0"))) && (List.all (List.map (fun (sign_ : Str) => (inS sign_ (PySem.Str.ofString "0123456789"))) (charsT word_)) id)))) (tv_and (tv_ch rfl (tvA (tvC rfl tvN) (dv_lenS h.1)) (dv_ltI _ _) (fun q2517 => rfl) (fun q2517 => (dv_leI _ _))) (fun q2766 => (tv_and (tv2 (tv2 rfl rfl (dv_ixS (h.2 q2766).1)) rfl (dv_ne eqS (chZ word_ (0 : Int)) (PySem.Str.ofString "0"))) (fun q2761 => (tvA (tvC (tv_map (enc := eS) (encb := eB) (h := fun (sign_ : Str) => (inS sign_ (PySem.Str.ofString "0123456789"))) (fun sign_ => [.p (eS word_), .p (eS sign_)]) (ti_S rfl) ((h.2 q2766).2 q2761) (fun sign_ hx2759 => (tv2 rfl rfl (dv_inS _ _)))) tvN) (dv_allL _)))))) rfl)
def T_read_measure (text_ : Str) : (Option (List Int)) :=
  (lt ((decide ((cutS text_ (some (-(2 : Int))) none) = (PySem.Str.ofString " D"))) : Bool) (fun twice_ => (lt ((Txt.split (if twice_ = true then (cutS text_ none (some (-(2 : Int)))) else text_) (PySem.Str.ofString ".")) : (List Str)) (fun words_ => (if (!(List.all (List.map (fun (word_ : Str) => (T_is_line word_)) words_) id)) = true then (none : (Option (List Int))) else (lt ((List.map (fun (word_ : Str) => (intT word_)) words_) : (List Int)) (fun lines_ => (if twice_ = true then (some (lines_ ++ lines_)) else (some lines_)))))))))
def S_read_measure (text_ : Str) : Prop :=
  (Str.length text_ ≤ 16777216 ∧ (lt ((decide ((cutS text_ (some (-(2 : Int))) none) = (PySem.Str.ofString " D"))) : Bool) (fun twice_ => (((twice_ = true → Str.length text_ ≤ 16777216) ∧ splitOk (if twice_ = true then (cutS text_ none (some (-(2 : Int)))) else text_) (PySem.Str.ofString ".")) ∧ (lt ((Txt.split (if twice_ = true then (cutS text_ none (some (-(2 : Int)))) else text_) (PySem.Str.ofString ".")) : (List Str)) (fun words_ => ((List.length words_ ≤ 16777216 ∧ (∀ word_, word_ ∈ words_ → S_is_line word_)) ∧ ((!(List.all (List.map (fun (word_ : Str) => (T_is_line word_)) words_) id)) = false → ((List.length words_ ≤ 16777216 ∧ (∀ word_, word_ ∈ words_ → (Str.length word_ ≤ 640 ∧ (PySem.intText? word_).isSome = true))) ∧ (lt ((List.map (fun (word_ : Str) => (intT word_)) words_) : (List Int)) (fun lines_ => (twice_ = true → (List.length lines_ + List.length lines_ ≤ 16777216)))))))))))))
theorem v_read_measure {text_ : Str} (h : S_read_measure text_) : m_read_measure [eS text_] = some ((eO (eT eI)) (T_read_measure text_)) := by
  delta m_read_measure b_read_measure T_read_measure
  delta S_read_measure at h
  exact fnP_T [.p (eS text_), .un, .un, .un, .un] (rn_set (enc := eB) (fun twice_ => [.p (eS text_), .p (eB twice_), .un, .un, .un]) (tv2 (tvS rfl (tvOI (tv1 rfl (dv_negI _))) tvON (dv_slS _ _ h.1)) rfl (dv_eq eqS (cutS text_ (some (-(2 : Int))) none) (PySem.Str.ofString " D"))) h.2 (fun twice_ h3280 => (rn_set (enc := (eL eS)) (fun words_ => [.p (eS text_), .p (eB twice_), .p ((eL eS) words_), .un, .un]) (tvM (tvIf (e := eS) (tt_tst rfl) (fun q2966 => (tvS rfl tvON (tvOI (tv1 rfl (dv_negI _))) (dv_slS _ _ (h3280.1.1 q2966)))) (fun q2966 => rfl)) rfl (tvC rfl tvN) (dv_split h3280.1.2)) h3280.2 (fun words_ h3279 => (rn_ifT (tt_not (tt_tst (tvA (tvC (tv_map (enc := eS) (encb := eB) (h := fun (word_ : Str) => (T_is_line word_)) (fun word_ => [.p (eS text_), .p (eB twice_), .p ((eL eS) words_), .un, .p (eS word_)]) (ti_L rfl) h3279.1.1 (fun word_ hx3093 => (tvA (tvC rfl tvN) (v_is_line (word_ := word_) (h3279.1.2 word_ hx3093))))) tvN) (dv_allL _)))) (fun q3031 => (rn_assoc (rn_ret (x := (eO (eT eI)) (none : (Option (List Int)))) rfl rfl))) (fun q3031 => (rn_skip (rn_set (enc := (eT eI)) (fun lines_ => [.p (eS text_), .p (eB twice_), .p ((eL eS) words_), .p ((eT eI) lines_), .un]) (tvA (tvC (tv_map (enc := eS) (encb := eI) (h := fun (word_ : Str) => (intT word_)) (fun word_ => [.p (eS text_), .p (eB twice_), .p ((eL eS) words_), .un, .p (eS word_)]) (ti_L rfl) (h3279.2 q3031).1.1 (fun word_ hx3236 => (tvA (tvC rfl tvN) (dv_intS ((h3279.2 q3031).1.2 word_ hx3236))))) tvN) (dv_tupL _)) (h3279.2 q3031).2 (fun lines_ h3278 => (rn_ret (x := (eO (eT eI)) (if twice_ = true then (some (lines_ ++ lines_)) else (some lines_))) (tvIf (e := (eO (eT eI))) (tt_tst rfl) (fun q3238 => (tv2 rfl rfl (dv_catT (h3278 q3238)))) (fun q3238 => rfl)) rfl))))))))))
def T_by_measure_l1 (hymns_ : (List Str)) (found_ : (List ((List Int) × (List Int)))) (number_ : Int) : (List ((List Int) × (List Int))) :=
  (lt ((T_read_measure (atZ hymns_ number_)) : (Option (List Int))) (fun lines_ => (lt (if (!decide (lines_ = none)) = true then ((lt ((mput found_ (lines_.getD default) (((mget found_ (lines_.getD default)).getD ([] : (List Int))) ++ ([number_] : (List Int)))) : (List ((List Int) × (List Int)))) (fun found_ => found_)) : (List ((List Int) × (List Int)))) else found_) (fun found_ => found_))))
def S_by_measure_l1 (hymns_ : (List Str)) (found_ : (List ((List Int) × (List Int)))) (number_ : Int) : Prop :=
  ((ixOk hymns_ number_ ∧ S_read_measure (atZ hymns_ number_)) ∧ (lt ((T_read_measure (atZ hymns_ number_)) : (Option (List Int))) (fun lines_ => ((!decide (lines_ = none)) = true → (((lines_ ≠ none) ∧ (List.length ((mget found_ (lines_.getD default)).getD ([] : (List Int))) + List.length ([number_] : (List Int)) ≤ 16777216)) ∧ (lines_ ≠ none) ∧ List.length found_ < 16777215)))))
def T_by_measure (hymns_ : (List Str)) : (List ((List Int) × (List Int))) :=
  (lt (([] : (List ((List Int) × (List Int)))) : (List ((List Int) × (List Int)))) (fun found_ => (lt (List.foldl (T_by_measure_l1 hymns_) found_ (rg1 ((List.length hymns_ : Nat) : Int))) (fun found_ => (List.map (fun (lines_ : (List Int)) => (lines_, ((mget found_ lines_).getD default))) (sortT (ltL ltI) (mkeys found_)))))))
def S_by_measure (hymns_ : (List Str)) : Prop :=
  (lt (([] : (List ((List Int) × (List Int)))) : (List ((List Int) × (List Int)))) (fun found_ => (bndZ ((List.length hymns_ : Nat) : Int) ∧ (foldS (S_by_measure_l1 hymns_) (T_by_measure_l1 hymns_) found_ (rg1 ((List.length hymns_ : Nat) : Int))) ∧ (lt (List.foldl (T_by_measure_l1 hymns_) found_ (rg1 ((List.length hymns_ : Nat) : Int))) (fun found_ => ((∀ x, x ∈ mkeys found_ → x ≠ []) ∧ List.length (sortT (ltL ltI) (mkeys found_)) ≤ 16777216 ∧ (∀ lines_, lines_ ∈ (sortT (ltL ltI) (mkeys found_)) → (mget found_ lines_ ≠ none))))))))
theorem v_by_measure {hymns_ : (List Str)} (h : S_by_measure hymns_) : m_by_measure [(eT eS) hymns_] = some ((eT (eP (eT eI) (eT eI))) (T_by_measure hymns_)) := by
  delta m_by_measure b_by_measure T_by_measure
  delta S_by_measure at h
  exact fnP_T [.p ((eT eS) hymns_), .un, .un, .un] (rn_setO' (enc := (eMt (eT eI) (eT eI))) (fun found_ => [.p ((eT eS) hymns_), .o ((eMt (eT eI) (eT eI)) found_), .un, .un]) tvD0t h (fun found_ h3655 => (rn_fold (enc := eI) (vs := [2, 3]) (step := (T_by_measure_l1 hymns_)) (fun found_ => [.p ((eT eS) hymns_), .o ((eMt (eT eI) (eT eI)) found_), .un, .un]) (fun found_ number_ => [.p ((eT eS) hymns_), .o ((eMt (eT eI) (eT eI)) found_), .p (eI number_), .un]) (ti_r1 (tvA (tvC rfl tvN) (dv_lenT _)) h3655.1) h3655.2.1 (fun found_ number_ h3654 => (rn_set (enc := (eO (eT eI))) (fun lines_ => [.p ((eT eS) hymns_), .o ((eMt (eT eI) (eT eI)) found_), .p (eI number_), .p ((eO (eT eI)) lines_)]) (tvA (tvC (tv2 rfl rfl (dv_ixT (a := eS) (l := hymns_) h3654.1.1)) tvN) (v_read_measure (text_ := (atZ hymns_ number_)) h3654.1.2)) h3654.2 (fun lines_ h3504 => (rn_join (fun found_ => [.p ((eT eS) hymns_), .o ((eMt (eT eI) (eT eI)) found_), .p (eI number_), .p ((eO (eT eI)) lines_)]) (tt_tst (tv2 rfl rfl (dv_isNN nnT _))) (fun q3326 => (rn_stoD (γ := _) (dcT (e := (eT eI)) (ktT keI)) (fun found_ => [.p ((eT eS) hymns_), .o ((eMt (eT eI) (eT eI)) found_), .p (eI number_), .p ((eO (eT eI)) lines_)]) (tv2 (tvG (dcT (e := (eT eI)) (ktT keI)) rfl (vO (h3504 q3326).1.1 rfl) (tvMkT (z := (eT eI) ([] : (List Int))) tvN rfl)) (tvMkT (z := (eT eI) ([number_] : (List Int))) (tvC rfl tvN) rfl) (dv_catT (h3504 q3326).1.2)) rfl (vO (h3504 q3326).2.1 rfl) (h3504 q3326).2.2 trivial (s2 := fun _ => True) (fun found_ _ => (rn_end rfl)))) (fun q3326 => (rn_end rfl)) trivial (s2 := fun _ => True) (fun found_ _ => (rn_end rfl)))))) h3655.2.2 (fun found_ h3654 => (rn_ret (x := (eT (eP (eT eI) (eT eI))) (List.map (fun (lines_ : (List Int)) => (lines_, ((mget found_ lines_).getD default))) (sortT (ltL ltI) (mkeys found_)))) (tvA (tvC (tv_map (enc := (eT eI)) (encb := (eP (eT eI) (eT eI))) (h := fun (lines_ : (List Int)) => (lines_, ((mget found_ lines_).getD default))) (fun lines_ => [.p ((eT eS) hymns_), .o ((eMt (eT eI) (eT eI)) found_), .un, .p ((eT eI) lines_)]) (ti_L (tvA (tvC rfl tvN) (dvMT (dv_sortLT rdI h3654.1)))) h3654.2.1 (fun lines_ hx3652 => (tvMkT (z := (eP (eT eI) (eT eI)) (lines_, ((mget found_ lines_).getD default))) (tvC rfl (tvC (tv2 rfl rfl (dv_mget (dcT (e := (eT eI)) (ktT keI)) (h3654.2.2 lines_ hx3652))) tvN)) rfl))) tvN) (dv_tupL _)) rfl)))))
def T_half_of (lines_ : (List Int)) : (Option (List Int)) :=
  (lt ((((List.length lines_ : Nat) : Int) / (2 : Int)) : Int) (fun many_ => (if ((decide ((1 : Int) < many_)) && (decide (lines_ = ((cutD lines_ none (some many_)) ++ (cutD lines_ none (some many_)))))) = true then (some (cutD lines_ none (some many_))) else (none : (Option (List Int))))))
def S_half_of (lines_ : (List Int)) : Prop :=
  (lt ((((List.length lines_ : Nat) : Int) / (2 : Int)) : Int) (fun many_ => ((decide ((1 : Int) < many_)) = true → (List.length (cutD lines_ none (some many_)) + List.length (cutD lines_ none (some many_)) ≤ 16777216))))
theorem v_half_of {lines_ : (List Int)} (h : S_half_of lines_) : m_half_of [(eT eI) lines_] = some ((eO (eT eI)) (T_half_of lines_)) := by
  delta m_half_of b_half_of T_half_of
  delta S_half_of at h
  exact fnP_T [.p ((eT eI) lines_), .un] (rn_set (enc := eI) (fun many_ => [.p ((eT eI) lines_), .p (eI many_)]) (tv2 (tvA (tvC rfl tvN) (dv_lenT _)) rfl (dv_divI (divOk_small (by decide) (by decide)))) h (fun many_ h3956 => (rn_ret (x := (eO (eT eI)) (if ((decide ((1 : Int) < many_)) && (decide (lines_ = ((cutD lines_ none (some many_)) ++ (cutD lines_ none (some many_)))))) = true then (some (cutD lines_ none (some many_))) else (none : (Option (List Int))))) (tvIf (e := (eO (eT eI))) (tt_and (tt_tst (tv2 rfl rfl (dv_gtI _ _))) (fun q3931 => (tt_tst (tv2 rfl (tv2 (tvS rfl tvON (tvOI rfl) (dv_slT _ _ _)) (tvS rfl tvON (tvOI rfl) (dv_slT _ _ _)) (dv_catT (h3956 q3931))) (dv_eq (eqT eqI) lines_ ((cutD lines_ none (some many_)) ++ (cutD lines_ none (some many_)))))))) (fun q3746 => (tvS rfl tvON (tvOI rfl) (dv_slT _ _ _))) (fun q3746 => rfl)) rfl)))
def T_written_lines (lines_ : (List Int)) : Str :=
  (Txt.join (PySem.Str.ofString ".") (List.map (fun (syllables_ : Int) => (toString syllables_ : Str)) lines_))
def S_written_lines (lines_ : (List Int)) : Prop :=
  ((List.length lines_ ≤ 16777216 ∧ (∀ syllables_, syllables_ ∈ lines_ → Nat.log2 (Int.natAbs syllables_) < 1920)) ∧ joinOk (PySem.Str.ofString ".") (List.map (fun (syllables_ : Int) => (toString syllables_ : Str)) lines_))
theorem v_written_lines {lines_ : (List Int)} (h : S_written_lines lines_) : m_written_lines [(eT eI) lines_] = some (eS (T_written_lines lines_)) := by
  delta m_written_lines b_written_lines T_written_lines
  delta S_written_lines at h
  exact fnP_T [.p ((eT eI) lines_), .un] (rn_ret (x := eS (Txt.join (PySem.Str.ofString ".") (List.map (fun (syllables_ : Int) => (toString syllables_ : Str)) lines_))) (tvM rfl rfl (tvC (tv_map (enc := eI) (encb := eS) (h := fun (syllables_ : Int) => (toString syllables_ : Str)) (fun syllables_ => [.p ((eT eI) lines_), .p (eI syllables_)]) (ti_T rfl) h.1.1 (fun syllables_ hx3997 => (tvA (tvC rfl tvN) (dv_strI (h.1.2 syllables_ hx3997))))) tvN) (dv_joinL h.2)) rfl)
def T_written_measure (lines_ : (List Int)) : Str :=
  (lt ((T_half_of lines_) : (Option (List Int))) (fun half_ => (if (decide (half_ = none)) = true then (T_written_lines lines_) else ((T_written_lines (half_.getD default)) ++ (PySem.Str.ofString " D")))))
def S_written_measure (lines_ : (List Int)) : Prop :=
  (S_half_of lines_ ∧ (lt ((T_half_of lines_) : (Option (List Int))) (fun half_ => (((decide (half_ = none)) = true → S_written_lines lines_) ∧ ((decide (half_ = none)) = false → (((half_ ≠ none) ∧ S_written_lines (half_.getD default)) ∧ (Str.length (T_written_lines (half_.getD default)) + Str.length (PySem.Str.ofString " D") ≤ 16777216)))))))
theorem v_written_measure {lines_ : (List Int)} (h : S_written_measure lines_) : m_written_measure [(eT eI) lines_] = some (eS (T_written_measure lines_)) := by
  delta m_written_measure b_written_measure T_written_measure
  delta S_written_measure at h
  exact fnP_T [.p ((eT eI) lines_), .un] (rn_set (enc := (eO (eT eI))) (fun half_ => [.p ((eT eI) lines_), .p ((eO (eT eI)) half_)]) (tvA (tvC rfl tvN) (v_half_of (lines_ := lines_) h.1)) h.2 (fun half_ h4089 => (rn_ret (x := eS (if (decide (half_ = none)) = true then (T_written_lines lines_) else ((T_written_lines (half_.getD default)) ++ (PySem.Str.ofString " D")))) (tvIf (e := eS) (tt_tst (tv2 rfl rfl (dv_isN nnT _))) (fun q4019 => (tvA (tvC rfl tvN) (v_written_lines (lines_ := lines_) (h4089.1 q4019)))) (fun q4019 => (tv2 (tvA (tvC (vO (h4089.2 q4019).1.1 rfl) tvN) (v_written_lines (lines_ := (half_.getD default)) (h4089.2 q4019).1.2)) rfl (dv_catS (h4089.2 q4019).2)))) rfl)))
def T_same_measure (one_ : Str) (other_ : Str) : Bool :=
  (lt ((T_read_measure one_) : (Option (List Int))) (fun told_ => ((!decide (told_ = none)) && (decide (told_ = (T_read_measure other_))))))
def S_same_measure (one_ : Str) (other_ : Str) : Prop :=
  (S_read_measure one_ ∧ (lt ((T_read_measure one_) : (Option (List Int))) (fun told_ => ((!decide (told_ = none)) = true → S_read_measure other_))))
theorem v_same_measure {one_ : Str} {other_ : Str} (h : S_same_measure one_ other_) : m_same_measure [eS one_, eS other_] = some (eB (T_same_measure one_ other_)) := by
  delta m_same_measure b_same_measure T_same_measure
  delta S_same_measure at h
  exact fnP_T [.p (eS one_), .p (eS other_), .un] (rn_set (enc := (eO (eT eI))) (fun told_ => [.p (eS one_), .p (eS other_), .p ((eO (eT eI)) told_)]) (tvA (tvC rfl tvN) (v_read_measure (text_ := one_) h.1)) h.2 (fun told_ h4180 => (rn_ret (x := eB ((!decide (told_ = none)) && (decide (told_ = (T_read_measure other_))))) (tv_and (tv2 rfl rfl (dv_isNN nnT _)) (fun q4175 => (tv2 rfl (tvA (tvC rfl tvN) (v_read_measure (text_ := other_) (h4180 q4175))) (dv_eq (eqO (eqT eqI) nnT) told_ (T_read_measure other_))))) rfl)))
def T__law_are_texts_right_l1 (hymns_ : (List Str)) (rows_ : (List ((List Int) × (List Int)))) (k_ : Int) : (List ((List Int) × (List Int))) :=
  (lt ((T__law_read (atZ hymns_ k_)) : (Option (List Int))) (fun due_ => (lt (if (!decide (due_ = none)) = true then ((lt ((mput rows_ (due_.getD default) (((mget rows_ (due_.getD default)).getD ([] : (List Int))) ++ ([k_] : (List Int)))) : (List ((List Int) × (List Int)))) (fun rows_ => rows_)) : (List ((List Int) × (List Int)))) else rows_) (fun rows_ => rows_))))
def S__law_are_texts_right_l1 (hymns_ : (List Str)) (rows_ : (List ((List Int) × (List Int)))) (k_ : Int) : Prop :=
  ((ixOk hymns_ k_ ∧ S__law_read (atZ hymns_ k_)) ∧ (lt ((T__law_read (atZ hymns_ k_)) : (Option (List Int))) (fun due_ => ((!decide (due_ = none)) = true → (((due_ ≠ none) ∧ (List.length ((mget rows_ (due_.getD default)).getD ([] : (List Int))) + List.length ([k_] : (List Int)) ≤ 16777216)) ∧ (due_ ≠ none) ∧ List.length rows_ < 16777215)))))
def W__law_are_texts_right (lines_ : (List Int)) (Q : Bool → Prop) : Prop :=
  (((S_written_measure lines_ ∧ S__law_text lines_) ∧ ((!(decide ((T_written_measure lines_) = (T__law_text lines_)))) = false → ((S__law_text lines_ ∧ S_read_measure (T__law_text lines_)) ∧ (okO (okT okA)) (some lines_)))) ∧ (((!(decide ((T_written_measure lines_) = (T__law_text lines_)))) || (!(decide ((T_read_measure (T__law_text lines_)) = (some lines_))))) = true → (Q false)) ∧ (((!(decide ((T_written_measure lines_) = (T__law_text lines_)))) || (!(decide ((T_read_measure (T__law_text lines_)) = (some lines_))))) = false → (W__law_others lines_ (fun v4291 => (∀ texts_ : (List Str), texts_ = v4291 → (loopW (fun (st4294 : Unit) (text_ : Str) K4305 => (S__law_read text_ ∧ (∀ due_ : (Option (List Int)), due_ = (T__law_read text_) → ((S_read_measure text_ ∧ (okO (okT okA)) due_) ∧ ((!(decide ((T_read_measure text_) = due_))) = true → (Q false)) ∧ ((!(decide ((T_read_measure text_) = due_))) = false → (((ixOk texts_ (1 : Int) ∧ S_same_measure text_ (atZ texts_ (1 : Int))) ∧ ((!(decide ((T_same_measure text_ (atZ texts_ (1 : Int))) = ((!decide (due_ = none)) && (decide (due_ = (some lines_))))))) = false → ((ixOk texts_ (2 : Int) ∧ S_same_measure (atZ texts_ (2 : Int)) text_) ∧ (List.length lines_ + List.length lines_ ≤ 16777216)))) ∧ (((!(decide ((T_same_measure text_ (atZ texts_ (1 : Int))) = ((!decide (due_ = none)) && (decide (due_ = (some lines_))))))) || (!(decide ((T_same_measure (atZ texts_ (2 : Int)) text_) = (decide (due_ = (some (lines_ ++ lines_)))))))) = true → (Q false)) ∧ (((!(decide ((T_same_measure text_ (atZ texts_ (1 : Int))) = ((!decide (due_ = none)) && (decide (due_ = (some lines_))))))) || (!(decide ((T_same_measure (atZ texts_ (2 : Int)) text_) = (decide (due_ = (some (lines_ ++ lines_)))))))) = false → (((!decide (due_ = none)) = true → ((((due_ ≠ none) ∧ S_written_measure (due_.getD default)) ∧ S_read_measure (T_written_measure (due_.getD default))) ∧ (okO (okT okA)) due_)) ∧ (((!decide (due_ = none)) && (!(decide ((T_read_measure (T_written_measure (due_.getD default))) = due_)))) = true → (Q false)) ∧ (((!decide (due_ = none)) && (!(decide ((T_read_measure (T_written_measure (due_.getD default))) = due_)))) = false → (K4305 ())))))))))) () texts_ (fun st4851 => (takeW (9 : Int) (fun v4892 => (bndZ v4892 ∧ (List.length (rg1 v4892) ≤ 16777216 ∧ (compW (fun k_ K4897 => (takeW ((List.length texts_ : Nat) : Int) (fun v4926 => (ixOk texts_ v4926 ∧ (K4897 (atZ texts_ v4926)))))) (rg1 v4892) (fun ys4930 => (∀ hymns_ : (List Str), hymns_ = ys4930 → (∀ rows_ : (List ((List Int) × (List Int))), rows_ = ([] : (List ((List Int) × (List Int)))) → (bndZ ((List.length hymns_ : Nat) : Int) ∧ (foldS (S__law_are_texts_right_l1 hymns_) (T__law_are_texts_right_l1 hymns_) rows_ (rg1 ((List.length hymns_ : Nat) : Int))) ∧ (∀ rows_5155 : (List ((List Int) × (List Int))), rows_5155 = (List.foldl (T__law_are_texts_right_l1 hymns_) rows_ (rg1 ((List.length hymns_ : Nat) : Int))) → ((S_by_measure hymns_ ∧ ((∀ x, x ∈ mkeys rows_5155 → x ≠ []) ∧ List.length (sortT (ltL ltI) (mkeys rows_5155)) ≤ 16777216 ∧ (∀ own_, own_ ∈ (sortT (ltL ltI) (mkeys rows_5155)) → (mget rows_5155 own_ ≠ none))) ∧ (okT (okP (okT okA) (okT okA))) (List.map (fun (own_ : (List Int)) => (own_, ((mget rows_5155 own_).getD default))) (sortT (ltL ltI) (mkeys rows_5155)))) ∧ (Q (decide ((T_by_measure hymns_) = (List.map (fun (own_ : (List Int)) => (own_, ((mget rows_5155 own_).getD default))) (sortT (ltL ltI) (mkeys rows_5155))))))))))))))))))))))))
theorem w__law_are_texts_right {lines_ : (List Int)} {Q : Bool → Prop} {c : D} {Q' : D → D → Prop} (hc : Dr c) (h : W__law_are_texts_right lines_ Q) (hq : ∀ v c', Dr c' → Q v → Q' (eB v) c') : Cm m__law_are_texts_right c [(eT eI) lines_] Q' := by
  delta W__law_are_texts_right at h
  delta m__law_are_texts_right b__law_are_texts_right
  exact cm_W (e := eB) [.m c, .p ((eT eI) lines_), .un, .un, .un, .un, .un, .un, .un] (rn_ifQ (tt_or (tt_not (tt_tst (tvA (tvC (tvA (tvC rfl tvN) (v_written_measure (lines_ := lines_) h.1.1.1)) (tvC (tvA (tvC rfl tvN) (v__law_text (lines_ := lines_) h.1.1.2)) tvN)) (v__law_same smS.toSmE (a := (T_written_measure lines_)) (b := (T__law_text lines_)) trivial)))) (fun q4276 => (tt_not (tt_tst (tvA (tvC (tvA (tvC (tvA (tvC rfl tvN) (v__law_text (lines_ := lines_) (h.1.2 q4276).1.1)) tvN) (v_read_measure (text_ := (T__law_text lines_)) (h.1.2 q4276).1.2)) (tvC rfl tvN)) (v__law_same (smO (smT smI.toSmE)) (a := (T_read_measure (T__law_text lines_))) (b := (some lines_)) (h.1.2 q4276).2)))))) (fun q4181 => (rn_assoc (rn_ret (x := eB false) rfl ⟨(_, _), rfl, hc, _, rfl, (h.2.1 q4181)⟩))) (fun q4181 => (rn_skip (rn_setW (ev_callM ⟨_, rfl, (aw_l (tvC rfl tvN) ⟨_, rfl, w__law_others (lines_ := lines_) hc (h.2.2 q4181) (fun v4291 c4292 hc4293 h5485 => (rn_wset (enc := (eL eS)) (fun texts_ => [.m c4292, .p ((eT eI) lines_), .p ((eL eS) texts_), .un, .un, .un, .un, .un, .un]) h5485 (fun texts_ h5484 => (rn_forW (aw_l (ti_L rfl) (rn_loopW (enc := eS) (fun st4294 c4307 => [.m c4307, .p ((eT eI) lines_), .p ((eL eS) texts_), .un, .un, .un, .un, .un, .un]) (fun st4294 c4307 text_ => [.m c4307, .p ((eT eI) lines_), .p ((eL eS) texts_), .p (eS text_), .un, .un, .un, .un, .un]) hc4293 h5484 (fun st4294 c4307 text_ K4305 hc4308 h4309 => (toQ (rn_set (k := fun _ => ()) (enc := (eO (eT eI))) (fun due_ => [.m c4307, .p ((eT eI) lines_), .p ((eL eS) texts_), .p (eS text_), .un, .un, .un, .p ((eO (eT eI)) due_), .un]) (tvA (tvC rfl tvN) (v__law_read (text_ := text_) h4309.1)) (all_lt h4309.2) (fun due_ h4850 => (rn_ifQ (tt_not (tt_tst (tvA (tvC (tvA (tvC rfl tvN) (v_read_measure (text_ := text_) h4850.1.1)) (tvC rfl tvN)) (v__law_same (smO (smT smI.toSmE)) (a := (T_read_measure text_)) (b := due_) h4850.1.2)))) (fun q4320 => (rn_assoc (rn_ret (x := eB false) rfl ⟨(_, _), rfl, hc4308, _, rfl, (h4850.2.1 q4320)⟩))) (fun q4320 => (rn_skip (rn_ifQ (tt_or (tt_not (tt_tst (tvA (tvC (tvA (tvC rfl (tvC (tv2 rfl rfl (dv_ixL (a := eS) (l := texts_) (h4850.2.2 q4320).1.1.1)) tvN)) (v_same_measure (one_ := text_) (other_ := (atZ texts_ (1 : Int))) (h4850.2.2 q4320).1.1.2)) (tvC (tv_and (tv2 rfl rfl (dv_isNN nnT _)) (fun q4550 => (tv2 rfl rfl (dv_eq (eqO (eqT eqI) nnT) due_ (some lines_))))) tvN)) (v__law_same smB.toSmE (a := (T_same_measure text_ (atZ texts_ (1 : Int)))) (b := ((!decide (due_ = none)) && (decide (due_ = (some lines_))))) trivial)))) (fun q4760 => (tt_not (tt_tst (tvA (tvC (tvA (tvC (tv2 rfl rfl (dv_ixL (a := eS) (l := texts_) ((h4850.2.2 q4320).1.2 q4760).1.1)) (tvC rfl tvN)) (v_same_measure (one_ := (atZ texts_ (2 : Int))) (other_ := text_) ((h4850.2.2 q4320).1.2 q4760).1.2)) (tvC (tv2 rfl (tv2 rfl rfl (dv_catT ((h4850.2.2 q4320).1.2 q4760).2)) (dv_eq (eqO (eqT eqI) nnT) due_ (some (lines_ ++ lines_)))) tvN)) (v__law_same smB.toSmE (a := (T_same_measure (atZ texts_ (2 : Int)) text_)) (b := (decide (due_ = (some (lines_ ++ lines_))))) trivial)))))) (fun q4365 => (rn_assoc (rn_ret (x := eB false) rfl ⟨(_, _), rfl, hc4308, _, rfl, ((h4850.2.2 q4320).2.1 q4365)⟩))) (fun q4365 => (rn_skip (rn_ifQ (tt_and (tt_tst (tv2 rfl rfl (dv_isNN nnT _))) (fun q4840 => (tt_not (tt_tst (tvA (tvC (tvA (tvC (tvA (tvC (vO (((h4850.2.2 q4320).2.2 q4365).1 q4840).1.1.1 rfl) tvN) (v_written_measure (lines_ := (due_.getD default)) (((h4850.2.2 q4320).2.2 q4365).1 q4840).1.1.2)) tvN) (v_read_measure (text_ := (T_written_measure (due_.getD default))) (((h4850.2.2 q4320).2.2 q4365).1 q4840).1.2)) (tvC rfl tvN)) (v__law_same (smO (smT smI.toSmE)) (a := (T_read_measure (T_written_measure (due_.getD default)))) (b := due_) (((h4850.2.2 q4320).2.2 q4365).1 q4840).2)))))) (fun q4770 => (rn_assoc (rn_ret (x := eB false) rfl ⟨(_, _), rfl, hc4308, _, rfl, (((h4850.2.2 q4320).2.2 q4365).2.1 q4770)⟩))) (fun q4770 => (rn_skip (rn_end ⟨_, _, hc4308, rfl, (((h4850.2.2 q4320).2.2 q4365).2.2 q4770)⟩)))))))))))))) (fun st4851 c4852 hc4853 h4854 => (rn_setW (ev_seqA (aw_cons (ev_compA (aw_range (aw_cons (ev_callM ⟨_, rfl, (aw_l (tvC rfl tvN) ⟨_, rfl, w__law_take hc4853 h4854 (fun v4892 c4893 hc4894 h5483 => (aw_l tvN ⟨_, (rng_1 h5483.1), (ev_compW (enc := eI) (encb := eS) (fun c4898 => [.m c4898, .p ((eT eI) lines_), .p ((eL eS) texts_), .un, .un, .un, .un, .un, .un]) (fun c4898 => [.m c4898, .p ((eT eI) lines_), .p ((eL eS) texts_), .un, .un, .un, .un, .un, .un]) (fun c4895 k_ => [.m c4895, .p ((eT eI) lines_), .p ((eL eS) texts_), .un, .un, .un, .p (eI k_), .un, .un]) hc4894 h5483.2.1 h5483.2.2 (fun c4895 k_ K4897 hc4896 h4900 => (ev_seq2 (ev_l rfl (ev_callM ⟨_, rfl, (aw_l (tvC (tvA (tvC rfl tvN) (dv_lenL _)) tvN) ⟨_, rfl, w__law_take hc4896 h4900 (fun v4926 c4927 hc4928 h4929 => ⟨_, (dv_ixL (a := eS) (l := texts_) h4929.1), ⟨_, _, rfl, hc4928, h4929.2, rfl⟩⟩)⟩)⟩)))) (fun ys4930 c4898 hc4899 h5482 => (aw_l tvN ⟨_, (dv_tupL _), (rn_wset (enc := (eT eS)) (fun hymns_ => [.m c4898, .p ((eT eI) lines_), .p ((eL eS) texts_), .un, .p ((eT eS) hymns_), .un, .un, .un, .un]) h5482 (fun hymns_ h5481 => (toQ (rn_setO' (k := fun _ => ()) (enc := (eMt (eT eI) (eT eI))) (fun rows_ => [.m c4898, .p ((eT eI) lines_), .p ((eL eS) texts_), .un, .p ((eT eS) hymns_), .o ((eMt (eT eI) (eT eI)) rows_), .un, .un, .un]) tvD0t (all_lt h5481) (fun rows_ h5480 => (toQ (rn_fold (k := fun _ => ()) (enc := eI) (vs := [6, 7]) (step := (T__law_are_texts_right_l1 hymns_)) (fun rows_ => [.m c4898, .p ((eT eI) lines_), .p ((eL eS) texts_), .un, .p ((eT eS) hymns_), .o ((eMt (eT eI) (eT eI)) rows_), .un, .un, .un]) (fun rows_ k_ => [.m c4898, .p ((eT eI) lines_), .p ((eL eS) texts_), .un, .p ((eT eS) hymns_), .o ((eMt (eT eI) (eT eI)) rows_), .p (eI k_), .un, .un]) (ti_r1 (tvA (tvC rfl tvN) (dv_lenT _)) h5480.1) h5480.2.1 (fun rows_ k_ h5479 => (rn_set (enc := (eO (eT eI))) (fun due_ => [.m c4898, .p ((eT eI) lines_), .p ((eL eS) texts_), .un, .p ((eT eS) hymns_), .o ((eMt (eT eI) (eT eI)) rows_), .p (eI k_), .p ((eO (eT eI)) due_), .un]) (tvA (tvC (tv2 rfl rfl (dv_ixT (a := eS) (l := hymns_) h5479.1.1)) tvN) (v__law_read (text_ := (atZ hymns_ k_)) h5479.1.2)) h5479.2 (fun due_ h5154 => (rn_join (fun rows_ => [.m c4898, .p ((eT eI) lines_), .p ((eL eS) texts_), .un, .p ((eT eS) hymns_), .o ((eMt (eT eI) (eT eI)) rows_), .p (eI k_), .p ((eO (eT eI)) due_), .un]) (tt_tst (tv2 rfl rfl (dv_isNN nnT _))) (fun q4976 => (rn_stoD (γ := _) (dcT (e := (eT eI)) (ktT keI)) (fun rows_ => [.m c4898, .p ((eT eI) lines_), .p ((eL eS) texts_), .un, .p ((eT eS) hymns_), .o ((eMt (eT eI) (eT eI)) rows_), .p (eI k_), .p ((eO (eT eI)) due_), .un]) (tv2 (tvG (dcT (e := (eT eI)) (ktT keI)) rfl (vO (h5154 q4976).1.1 rfl) (tvMkT (z := (eT eI) ([] : (List Int))) tvN rfl)) (tvMkT (z := (eT eI) ([k_] : (List Int))) (tvC rfl tvN) rfl) (dv_catT (h5154 q4976).1.2)) rfl (vO (h5154 q4976).2.1 rfl) (h5154 q4976).2.2 trivial (s2 := fun _ => True) (fun rows_ _ => (rn_end rfl)))) (fun q4976 => (rn_end rfl)) trivial (s2 := fun _ => True) (fun rows_ _ => (rn_end rfl)))))) (all_lt h5480.2.2) (fun rows_5155 h5479 => (rn_ret (x := eB (decide ((T_by_measure hymns_) = (List.map (fun (own_ : (List Int)) => (own_, ((mget rows_5155 own_).getD default))) (sortT (ltL ltI) (mkeys rows_5155)))))) (tvA (tvC (tvA (tvC rfl tvN) (v_by_measure (hymns_ := hymns_) h5479.1.1)) (tvC (tvA (tvC (tv_map (enc := (eT eI)) (encb := (eP (eT eI) (eT eI))) (h := fun (own_ : (List Int)) => (own_, ((mget rows_5155 own_).getD default))) (fun own_ => [.m c4898, .p ((eT eI) lines_), .p ((eL eS) texts_), .un, .p ((eT eS) hymns_), .o ((eMt (eT eI) (eT eI)) rows_5155), .un, .un, .p ((eT eI) own_)]) (ti_L (tvA (tvC rfl tvN) (dvMT (dv_sortLT rdI h5479.1.2.1.1)))) h5479.1.2.1.2.1 (fun own_ hx5477 => (tvMkT (z := (eP (eT eI) (eT eI)) (own_, ((mget rows_5155 own_).getD default))) (tvC rfl (tvC (tv2 rfl rfl (dv_mget (dcT (e := (eT eI)) (ktT keI)) (h5479.1.2.1.2.2 own_ hx5477))) tvN)) rfl))) tvN) (dv_tupL _)) tvN)) (v__law_same (smT (smP (smT smI.toSmE).toSmE (smT smI.toSmE).toSmE).toSmE).toSmE (a := (T_by_measure hymns_)) (b := (List.map (fun (own_ : (List Int)) => (own_, ((mget rows_5155 own_).getD default))) (sortT (ltL ltI) (mkeys rows_5155)))) h5479.1.2.2)) ⟨(_, _), rfl, hc4899, _, rfl, h5479.2⟩)))))))))⟩)))⟩))⟩)⟩))))))))))))))⟩)⟩))))) hq
def T_fits_tune (measure_ : (List Int)) (tune_ : (List Int)) : Bool :=
  (lt ((((List.length measure_ : Nat) : Int) / ((List.length tune_ : Nat) : Int)) : Int) (fun many_ => ((decide ((0 : Int) < many_)) && (decide (measure_ = (rep many_ tune_))))))
def S_fits_tune (measure_ : (List Int)) (tune_ : (List Int)) : Prop :=
  (divOk ((List.length measure_ : Nat) : Int) ((List.length tune_ : Nat) : Int) = true ∧ (lt ((((List.length measure_ : Nat) : Int) / ((List.length tune_ : Nat) : Int)) : Int) (fun many_ => ((decide ((0 : Int) < many_)) = true → repOk (List.length tune_) many_ = true))))
theorem v_fits_tune {measure_ : (List Int)} {tune_ : (List Int)} (h : S_fits_tune measure_ tune_) : m_fits_tune [(eT eI) measure_, (eT eI) tune_] = some (eB (T_fits_tune measure_ tune_)) := by
  delta m_fits_tune b_fits_tune T_fits_tune
  delta S_fits_tune at h
  exact fnP_T [.p ((eT eI) measure_), .p ((eT eI) tune_), .un] (rn_set (enc := eI) (fun many_ => [.p ((eT eI) measure_), .p ((eT eI) tune_), .p (eI many_)]) (tv2 (tvA (tvC rfl tvN) (dv_lenT _)) (tvA (tvC rfl tvN) (dv_lenT _)) (dv_divI h.1)) h.2 (fun many_ h5726 => (rn_ret (x := eB ((decide ((0 : Int) < many_)) && (decide (measure_ = (rep many_ tune_))))) (tv_and (tv2 rfl rfl (dv_gtI _ _)) (fun q5721 => (tv2 rfl (tv2 rfl rfl (dv_repT (a := eI) (x := tune_) (h5726 q5721))) (dv_eq (eqT eqI) measure_ (rep many_ tune_))))) rfl)))
def T_tunes_for_l1 (tunes_ : (List (List Int))) (found_ : (List (List Int))) (measure_ : (List Int)) : (List (List Int)) :=
  (lt ((found_ ++ [(List.map (fun (number_ : Int) => number_) (List.filter (fun (number_ : Int) => (T_fits_tune measure_ (atZ tunes_ number_))) (rg1 ((List.length tunes_ : Nat) : Int))))]) : (List (List Int))) (fun found_ => found_))
def S_tunes_for_l1 (tunes_ : (List (List Int))) (found_ : (List (List Int))) (measure_ : (List Int)) : Prop :=
  ((bndZ ((List.length tunes_ : Nat) : Int) ∧ List.length (rg1 ((List.length tunes_ : Nat) : Int)) ≤ 16777216 ∧ (∀ number_, number_ ∈ (rg1 ((List.length tunes_ : Nat) : Int)) → (ixOk tunes_ number_ ∧ S_fits_tune measure_ (atZ tunes_ number_)))) ∧ List.length found_ < 16777216)
def T_tunes_for (measures_ : (List (List Int))) (tunes_ : (List (List Int))) : (List (List Int)) :=
  (lt (([] : (List (List Int))) : (List (List Int))) (fun found_ => (lt (List.foldl (T_tunes_for_l1 tunes_) found_ measures_) (fun found_ => found_))))
def S_tunes_for (measures_ : (List (List Int))) (tunes_ : (List (List Int))) : Prop :=
  (lt (([] : (List (List Int))) : (List (List Int))) (fun found_ => (foldS (S_tunes_for_l1 tunes_) (T_tunes_for_l1 tunes_) found_ measures_)))
theorem v_tunes_for {measures_ : (List (List Int))} {tunes_ : (List (List Int))} (h : S_tunes_for measures_ tunes_) : m_tunes_for [(eT (eT eI)) measures_, (eT (eT eI)) tunes_] = some ((eT (eT eI)) (T_tunes_for measures_ tunes_)) := by
  delta m_tunes_for b_tunes_for T_tunes_for
  delta S_tunes_for at h
  exact fnP_T [.p ((eT (eT eI)) measures_), .p ((eT (eT eI)) tunes_), .un, .un, .un] (rn_setO' (enc := (eL (eT eI))) (fun found_ => [.p ((eT (eT eI)) measures_), .p ((eT (eT eI)) tunes_), .o ((eL (eT eI)) found_), .un, .un]) (tvMkL (z := (eL (eT eI)) ([] : (List (List Int)))) tvN rfl) h (fun found_ h5878 => (rn_fold (enc := (eT eI)) (vs := [3]) (step := (T_tunes_for_l1 tunes_)) (fun found_ => [.p ((eT (eT eI)) measures_), .p ((eT (eT eI)) tunes_), .o ((eL (eT eI)) found_), .un, .un]) (fun found_ measure_ => [.p ((eT (eT eI)) measures_), .p ((eT (eT eI)) tunes_), .o ((eL (eT eI)) found_), .p ((eT eI) measure_), .un]) (ti_T rfl) h5878 (fun found_ measure_ h5877 => (rn_app' (enc := (eT eI)) (fun found_ => [.p ((eT (eT eI)) measures_), .p ((eT (eT eI)) tunes_), .o ((eL (eT eI)) found_), .p ((eT eI) measure_), .un]) rfl (tvA (tvC (tv_filt (enc := eI) (encb := eI) (h := fun (number_ : Int) => number_) (q := fun (number_ : Int) => (T_fits_tune measure_ (atZ tunes_ number_))) (fun number_ => [.p ((eT (eT eI)) measures_), .p ((eT (eT eI)) tunes_), .o ((eL (eT eI)) found_), .p ((eT eI) measure_), .p (eI number_)]) (ti_r1 (tvA (tvC rfl tvN) (dv_lenT _)) h5877.1.1) h5877.1.2.1 (fun number_ hx5859 => (tt_tst (tvA (tvC rfl (tvC (tv2 rfl rfl (dv_ixT (a := (eT eI)) (l := tunes_) (h5877.1.2.2 number_ hx5859).1)) tvN)) (v_fits_tune (measure_ := measure_) (tune_ := (atZ tunes_ number_)) (h5877.1.2.2 number_ hx5859).2)))) (fun number_ hx5859 hq5860 => rfl)) tvN) (dv_tupL _)) h5877.2 trivial (s2 := fun _ => True) (fun found_ _ => (rn_end rfl)))) trivial (s2 := fun _ => True) (fun found_ _ => (rn_ret (x := (eT (eT eI)) found_) (tvA (tvC rfl tvN) (dv_tupL _)) rfl)))))
def C__law_fits_w1 (measure_ : (List Int)) (tune_ : (List Int)) (many_ : Int) : Bool :=
  (decide ((((List.length tune_ : Nat) : Int) * many_) < ((List.length measure_ : Nat) : Int)))
def T__law_fits_w1 (measure_ : (List Int)) (tune_ : (List Int)) (many_ : Int) : Int :=
  (lt ((many_ + (1 : Int)) : Int) (fun many_ => many_))
def Sc__law_fits_w1 (measure_ : (List Int)) (tune_ : (List Int)) (many_ : Int) : Prop :=
  mulOk ((List.length tune_ : Nat) : Int) many_ = true
def Ss__law_fits_w1 (measure_ : (List Int)) (tune_ : (List Int)) (many_ : Int) : Prop :=
  True
def T__law_fits (measure_ : (List Int)) (tune_ : (List Int)) : Bool :=
  (lt ((1 : Int) : Int) (fun many_ => (lt (whileN (C__law_fits_w1 measure_ tune_) (T__law_fits_w1 measure_ tune_) ((List.length measure_ + 1)) many_) (fun many_ => (decide ((rep many_ tune_) = measure_))))))
def S__law_fits (measure_ : (List Int)) (tune_ : (List Int)) : Prop :=
  (lt ((1 : Int) : Int) (fun many_ => ((whileZ (Sc__law_fits_w1 measure_ tune_) (Ss__law_fits_w1 measure_ tune_) (C__law_fits_w1 measure_ tune_) (T__law_fits_w1 measure_ tune_) ((List.length measure_ + 1)) many_) ∧ (lt (whileN (C__law_fits_w1 measure_ tune_) (T__law_fits_w1 measure_ tune_) ((List.length measure_ + 1)) many_) (fun many_ => repOk (List.length tune_) many_ = true)))))
theorem v__law_fits {measure_ : (List Int)} {tune_ : (List Int)} (h : S__law_fits measure_ tune_) : m__law_fits [(eT eI) measure_, (eT eI) tune_] = some (eB (T__law_fits measure_ tune_)) := by
  delta m__law_fits b__law_fits T__law_fits
  delta S__law_fits at h
  exact fnP_T [.p ((eT eI) measure_), .p ((eT eI) tune_), .un] (rn_set (enc := eI) (fun many_ => [.p ((eT eI) measure_), .p ((eT eI) tune_), .p (eI many_)]) rfl h (fun many_ h6116 => (rn_while' (vs := []) (c := (C__law_fits_w1 measure_ tune_)) (step := (T__law_fits_w1 measure_ tune_)) (fun many_ => [.p ((eT eI) measure_), .p ((eT eI) tune_), .p (eI many_)]) h6116.1 (fun many_ h6115 => (tt_tst (tv2 (tv2 (tvA (tvC rfl tvN) (dv_lenT _)) rfl (dv_mulI h6115)) (tvA (tvC rfl tvN) (dv_lenT _)) (dv_ltI _ _)))) (fun many_ h6115 => (rn_set (enc := eI) (fun many_ => [.p ((eT eI) measure_), .p ((eT eI) tune_), .p (eI many_)]) (tv2 rfl rfl (dv_addI _ _)) trivial (s2 := fun _ => True) (fun many_ _ => (rn_end rfl)))) h6116.2 (fun many_ h6115 => (rn_ret (x := eB (decide ((rep many_ tune_) = measure_))) (tv2 (tv2 rfl rfl (dv_repT (a := eI) (x := tune_) h6115)) rfl (dv_eq (eqT eqI) (rep many_ tune_) measure_)) rfl)))))
def W__law_are_tunes_right (measures_ : (List (List Int))) (tunes_ : (List (List Int))) (Q : Bool → Prop) : Prop :=
  ((List.length measures_ ≤ 16777216 ∧ (∀ measure_, measure_ ∈ measures_ → (bndZ ((List.length tunes_ : Nat) : Int) ∧ List.length (rg1 ((List.length tunes_ : Nat) : Int)) ≤ 16777216 ∧ (∀ k_, k_ ∈ (rg1 ((List.length tunes_ : Nat) : Int)) → (ixOk tunes_ k_ ∧ S__law_fits measure_ (atZ tunes_ k_)))))) ∧ (∀ due_ : (List (List Int)), due_ = (List.map (fun (measure_ : (List Int)) => (List.map (fun (k_ : Int) => k_) (List.filter (fun (k_ : Int) => (T__law_fits measure_ (atZ tunes_ k_))) (rg1 ((List.length tunes_ : Nat) : Int))))) measures_) → ((S_tunes_for measures_ tunes_ ∧ (okT (okT okA)) due_) ∧ ((!(decide ((T_tunes_for measures_ tunes_) = due_))) = true → (Q false)) ∧ ((!(decide ((T_tunes_for measures_ tunes_) = due_))) = false → (loopW (fun (st6449 : Unit) (measure_ : (List Int)) K6460 => ((S_fits_tune measure_ measure_ ∧ ((!(decide ((T_fits_tune measure_ measure_) = true))) = false → ((List.length measure_ + List.length measure_ ≤ 16777216) ∧ S_fits_tune (measure_ ++ measure_) measure_))) ∧ (((!(decide ((T_fits_tune measure_ measure_) = true))) || (!(decide ((T_fits_tune (measure_ ++ measure_) measure_) = true)))) = true → (Q false)) ∧ (((!(decide ((T_fits_tune measure_ measure_) = true))) || (!(decide ((T_fits_tune (measure_ ++ measure_) measure_) = true)))) = false → (∀ half_ : (List Int), half_ = (cutD measure_ none (some (((List.length measure_ : Nat) : Int) / (2 : Int)))) → (((S_written_measure measure_ ∧ Str.length (T_written_measure measure_) ≤ 16777216) ∧ ((decide ((cutS (T_written_measure measure_) (some (-(2 : Int))) none) = (PySem.Str.ofString " D"))) = true → S_fits_tune measure_ half_)) ∧ (((decide ((cutS (T_written_measure measure_) (some (-(2 : Int))) none) = (PySem.Str.ofString " D"))) && (!(decide ((T_fits_tune measure_ half_) = true)))) = true → (Q false)) ∧ (((decide ((cutS (T_written_measure measure_) (some (-(2 : Int))) none) = (PySem.Str.ofString " D"))) && (!(decide ((T_fits_tune measure_ half_) = true)))) = false → (loopW (fun (st6795 : Unit) (tune_ : (List Int)) K6806 => ((S_fits_tune measure_ tune_ ∧ S__law_fits measure_ tune_) ∧ ((!(decide ((T_fits_tune measure_ tune_) = (T__law_fits measure_ tune_)))) = true → (Q false)) ∧ ((!(decide ((T_fits_tune measure_ tune_) = (T__law_fits measure_ tune_)))) = false → (loopW (fun (st6886 : Unit) (third_ : (List Int)) K6897 => ((S_fits_tune measure_ tune_ ∧ ((T_fits_tune measure_ tune_) = true → (S_fits_tune tune_ third_ ∧ ((T_fits_tune tune_ third_) = true → S_fits_tune measure_ third_)))) ∧ (((T_fits_tune measure_ tune_) && ((T_fits_tune tune_ third_) && (!(T_fits_tune measure_ third_)))) = true → (Q false)) ∧ (((T_fits_tune measure_ tune_) && ((T_fits_tune tune_ third_) && (!(T_fits_tune measure_ third_)))) = false → ((S_fits_tune measure_ tune_ ∧ ((T_fits_tune measure_ tune_) = true → (S_fits_tune measure_ third_ ∧ ((T_fits_tune measure_ third_) = true → ((decide ((absI (((List.length tune_ : Nat) : Int) - ((List.length third_ : Nat) : Int))) = (1 : Int))) = true → List.length measure_ < 4000))))) ∧ (((T_fits_tune measure_ tune_) && ((T_fits_tune measure_ third_) && ((decide ((absI (((List.length tune_ : Nat) : Int) - ((List.length third_ : Nat) : Int))) = (1 : Int))) && (!decide (((List.length (uniqT measure_) : Nat) : Int) = (1 : Int)))))) = true → (Q false)) ∧ (((T_fits_tune measure_ tune_) && ((T_fits_tune measure_ third_) && ((decide ((absI (((List.length tune_ : Nat) : Int) - ((List.length third_ : Nat) : Int))) = (1 : Int))) && (!decide (((List.length (uniqT measure_) : Nat) : Int) = (1 : Int)))))) = false → (K6897 ())))))) () tunes_ (fun st7352 => (K6806 ())))))) () tunes_ (fun st7356 => (K6460 ()))))))))) () measures_ (fun st7361 => (Q true)))))))
theorem w__law_are_tunes_right {measures_ : (List (List Int))} {tunes_ : (List (List Int))} {Q : Bool → Prop} {c : D} {Q' : D → D → Prop} (hc : Dr c) (h : W__law_are_tunes_right measures_ tunes_ Q) (hq : ∀ v c', Dr c' → Q v → Q' (eB v) c') : Cm m__law_are_tunes_right c [(eT (eT eI)) measures_, (eT (eT eI)) tunes_] Q' := by
  delta W__law_are_tunes_right at h
  delta m__law_are_tunes_right b__law_are_tunes_right
  exact cm_W (e := eB) [.m c, .p ((eT (eT eI)) measures_), .p ((eT (eT eI)) tunes_), .un, .un, .un, .un, .un, .un] (toQ (rn_set (k := fun _ => ()) (enc := (eT (eT eI))) (fun due_ => [.m c, .p ((eT (eT eI)) measures_), .p ((eT (eT eI)) tunes_), .p ((eT (eT eI)) due_), .un, .un, .un, .un, .un]) (tvA (tvC (tv_map (enc := (eT eI)) (encb := (eT eI)) (h := fun (measure_ : (List Int)) => (List.map (fun (k_ : Int) => k_) (List.filter (fun (k_ : Int) => (T__law_fits measure_ (atZ tunes_ k_))) (rg1 ((List.length tunes_ : Nat) : Int))))) (fun measure_ => [.m c, .p ((eT (eT eI)) measures_), .p ((eT (eT eI)) tunes_), .un, .p ((eT eI) measure_), .un, .un, .un, .un]) (ti_T rfl) h.1.1 (fun measure_ hx6392 => (tvA (tvC (tv_filt (enc := eI) (encb := eI) (h := fun (k_ : Int) => k_) (q := fun (k_ : Int) => (T__law_fits measure_ (atZ tunes_ k_))) (fun k_ => [.m c, .p ((eT (eT eI)) measures_), .p ((eT (eT eI)) tunes_), .un, .p ((eT eI) measure_), .un, .un, .un, .p (eI k_)]) (ti_r1 (tvA (tvC rfl tvN) (dv_lenT _)) (h.1.2 measure_ hx6392).1) (h.1.2 measure_ hx6392).2.1 (fun k_ hx6390 => (tt_tst (tvA (tvC rfl (tvC (tv2 rfl rfl (dv_ixT (a := (eT eI)) (l := tunes_) ((h.1.2 measure_ hx6392).2.2 k_ hx6390).1)) tvN)) (v__law_fits (measure_ := measure_) (tune_ := (atZ tunes_ k_)) ((h.1.2 measure_ hx6392).2.2 k_ hx6390).2)))) (fun k_ hx6390 hq6391 => rfl)) tvN) (dv_tupL _)))) tvN) (dv_tupL _)) (all_lt h.2) (fun due_ h7370 => (rn_ifQ (tt_not (tt_tst (tvA (tvC (tvA (tvC rfl (tvC rfl tvN)) (v_tunes_for (measures_ := measures_) (tunes_ := tunes_) h7370.1.1)) (tvC rfl tvN)) (v__law_same (smT (smT smI.toSmE).toSmE).toSmE (a := (T_tunes_for measures_ tunes_)) (b := due_) h7370.1.2)))) (fun q6394 => (rn_assoc (rn_ret (x := eB false) rfl ⟨(_, _), rfl, hc, _, rfl, (h7370.2.1 q6394)⟩))) (fun q6394 => (rn_skip (rn_forW (aw_l (ti_T rfl) (rn_loopW (enc := (eT eI)) (fun st6449 c6462 => [.m c6462, .p ((eT (eT eI)) measures_), .p ((eT (eT eI)) tunes_), .p ((eT (eT eI)) due_), .un, .un, .un, .un, .un]) (fun st6449 c6462 measure_ => [.m c6462, .p ((eT (eT eI)) measures_), .p ((eT (eT eI)) tunes_), .p ((eT (eT eI)) due_), .p ((eT eI) measure_), .un, .un, .un, .un]) hc (h7370.2.2 q6394) (fun st6449 c6462 measure_ K6460 hc6463 h6464 => (rn_ifQ (tt_or (tt_not (tt_tst (tvA (tvC (tvA (tvC rfl (tvC rfl tvN)) (v_fits_tune (measure_ := measure_) (tune_ := measure_) h6464.1.1)) (tvC rfl tvN)) (v__law_same smB.toSmE (a := (T_fits_tune measure_ measure_)) (b := true) trivial)))) (fun q6600 => (tt_not (tt_tst (tvA (tvC (tvA (tvC (tv2 rfl rfl (dv_catT (h6464.1.2 q6600).1)) (tvC rfl tvN)) (v_fits_tune (measure_ := (measure_ ++ measure_)) (tune_ := measure_) (h6464.1.2 q6600).2)) (tvC rfl tvN)) (v__law_same smB.toSmE (a := (T_fits_tune (measure_ ++ measure_) measure_)) (b := true) trivial)))))) (fun q6465 => (rn_assoc (rn_ret (x := eB false) rfl ⟨(_, _), rfl, hc6463, _, rfl, (h6464.2.1 q6465)⟩))) (fun q6465 => (rn_skip (toQ (rn_set (k := fun _ => ()) (enc := (eT eI)) (fun half_ => [.m c6462, .p ((eT (eT eI)) measures_), .p ((eT (eT eI)) tunes_), .p ((eT (eT eI)) due_), .p ((eT eI) measure_), .p ((eT eI) half_), .un, .un, .un]) (tvS rfl tvON (tvOI (tv2 (tvA (tvC rfl tvN) (dv_lenT _)) rfl (dv_divI (divOk_small (by decide) (by decide))))) (dv_slT _ _ _)) (all_lt (h6464.2.2 q6465)) (fun half_ h7360 => (rn_ifQ (tt_and (tt_tst (tv2 (tvS (tvA (tvC rfl tvN) (v_written_measure (lines_ := measure_) h7360.1.1.1)) (tvOI (tv1 rfl (dv_negI _))) tvON (dv_slS _ _ h7360.1.1.2)) rfl (dv_eq eqS (cutS (T_written_measure measure_) (some (-(2 : Int))) none) (PySem.Str.ofString " D")))) (fun q6785 => (tt_not (tt_tst (tvA (tvC (tvA (tvC rfl (tvC rfl tvN)) (v_fits_tune (measure_ := measure_) (tune_ := half_) (h7360.1.2 q6785))) (tvC rfl tvN)) (v__law_same smB.toSmE (a := (T_fits_tune measure_ half_)) (b := true) trivial)))))) (fun q6665 => (rn_assoc (rn_ret (x := eB false) rfl ⟨(_, _), rfl, hc6463, _, rfl, (h7360.2.1 q6665)⟩))) (fun q6665 => (rn_skip (rn_forW (aw_l (ti_T rfl) (rn_loopW (enc := (eT eI)) (fun st6795 c6808 => [.m c6808, .p ((eT (eT eI)) measures_), .p ((eT (eT eI)) tunes_), .p ((eT (eT eI)) due_), .p ((eT eI) measure_), .p ((eT eI) half_), .un, .un, .un]) (fun st6795 c6808 tune_ => [.m c6808, .p ((eT (eT eI)) measures_), .p ((eT (eT eI)) tunes_), .p ((eT (eT eI)) due_), .p ((eT eI) measure_), .p ((eT eI) half_), .p ((eT eI) tune_), .un, .un]) hc6463 (h7360.2.2 q6665) (fun st6795 c6808 tune_ K6806 hc6809 h6810 => (rn_ifQ (tt_not (tt_tst (tvA (tvC (tvA (tvC rfl (tvC rfl tvN)) (v_fits_tune (measure_ := measure_) (tune_ := tune_) h6810.1.1)) (tvC (tvA (tvC rfl (tvC rfl tvN)) (v__law_fits (measure_ := measure_) (tune_ := tune_) h6810.1.2)) tvN)) (v__law_same smB.toSmE (a := (T_fits_tune measure_ tune_)) (b := (T__law_fits measure_ tune_)) trivial)))) (fun q6811 => (rn_assoc (rn_ret (x := eB false) rfl ⟨(_, _), rfl, hc6809, _, rfl, (h6810.2.1 q6811)⟩))) (fun q6811 => (rn_skip (rn_forW (aw_l (ti_T rfl) (rn_loopW (enc := (eT eI)) (fun st6886 c6899 => [.m c6899, .p ((eT (eT eI)) measures_), .p ((eT (eT eI)) tunes_), .p ((eT (eT eI)) due_), .p ((eT eI) measure_), .p ((eT eI) half_), .p ((eT eI) tune_), .un, .un]) (fun st6886 c6899 third_ => [.m c6899, .p ((eT (eT eI)) measures_), .p ((eT (eT eI)) tunes_), .p ((eT (eT eI)) due_), .p ((eT eI) measure_), .p ((eT eI) half_), .p ((eT eI) tune_), .p ((eT eI) third_), .un]) hc6809 (h6810.2.2 q6811) (fun st6886 c6899 third_ K6897 hc6900 h6901 => (rn_ifQ (tt_and (tt_tst (tvA (tvC rfl (tvC rfl tvN)) (v_fits_tune (measure_ := measure_) (tune_ := tune_) h6901.1.1))) (fun q6957 => (tt_and (tt_tst (tvA (tvC rfl (tvC rfl tvN)) (v_fits_tune (measure_ := tune_) (tune_ := third_) (h6901.1.2 q6957).1))) (fun q6952 => (tt_not (tt_tst (tvA (tvC rfl (tvC rfl tvN)) (v_fits_tune (measure_ := measure_) (tune_ := third_) ((h6901.1.2 q6957).2 q6952))))))))) (fun q6902 => (rn_assoc (rn_ret (x := eB false) rfl ⟨(_, _), rfl, hc6900, _, rfl, (h6901.2.1 q6902)⟩))) (fun q6902 => (rn_skip (rn_ifQ (tt_and (tt_tst (tvA (tvC rfl (tvC rfl tvN)) (v_fits_tune (measure_ := measure_) (tune_ := tune_) (h6901.2.2 q6902).1.1))) (fun q7342 => (tt_and (tt_tst (tvA (tvC rfl (tvC rfl tvN)) (v_fits_tune (measure_ := measure_) (tune_ := third_) ((h6901.2.2 q6902).1.2 q7342).1))) (fun q7337 => (tt_and (tt_tst (tv2 (tvA (tvC (tv2 (tvA (tvC rfl tvN) (dv_lenT _)) (tvA (tvC rfl tvN) (dv_lenT _)) (dv_subI _ _)) tvN) (dv_absI _)) rfl (dv_eq eqI (absI (((List.length tune_ : Nat) : Int) - ((List.length third_ : Nat) : Int))) (1 : Int)))) (fun q7332 => (tt_tst (tv2 (tv1 rfl (dv_lensetTI ((((h6901.2.2 q6902).1.2 q7342).2 q7337) q7332))) rfl (dv_ne eqI ((List.length (uniqT measure_) : Nat) : Int) (1 : Int)))))))))) (fun q6967 => (rn_assoc (rn_ret (x := eB false) rfl ⟨(_, _), rfl, hc6900, _, rfl, ((h6901.2.2 q6902).2.1 q6967)⟩))) (fun q6967 => (rn_skip (rn_end ⟨_, _, hc6900, rfl, ((h6901.2.2 q6902).2.2 q6967)⟩)))))))) (fun st7352 c7353 hc7354 h7355 => (rn_end ⟨_, _, hc7354, rfl, h7355⟩))))))))) (fun st7356 c7357 hc7358 h7359 => (rn_end ⟨_, _, hc7358, rfl, h7359⟩))))))))))))))) (fun st7361 c7362 hc7363 h7364 => (rn_ret (x := eB true) rfl ⟨(_, _), rfl, hc7363, _, rfl, h7364⟩))))))))))) hq
def W__law_lines (cell_ : Int) (Q : (List Int) → Prop) : Prop :=
  (takeW (4 : Int) (fun v7718 => (bndZ ((1 : Int) + v7718) ∧ (List.length (rg1 ((1 : Int) + v7718)) ≤ 16777216 ∧ (compW (fun k_ K7723 => (takeW (14 : Int) (fun v7932 => (takeW (2 : Int) (fun v7950 => (takeW (3 : Int) (fun v7963 => (ixOk ([((1 : Int) + v7932), ((6 : Int) + ((2 : Int) * v7950)), (8 : Int)] : (List Int)) v7963 ∧ (K7723 (atZ ([((1 : Int) + v7932), ((6 : Int) + ((2 : Int) * v7950)), (8 : Int)] : (List Int)) v7963)))))))))) (rg1 ((1 : Int) + v7718)) (fun ys7969 => (∀ own_ : (List Int), own_ = ys7969 → (lt (fun st8238 : (List Int) => (takeW (4 : Int) (fun v8322 => (ixOk ([(1 : Int), (1 : Int), (2 : Int), (3 : Int)] : (List Int)) v8322 ∧ (repOk (List.length st8238) (atZ ([(1 : Int), (1 : Int), (2 : Int), (3 : Int)] : (List Int)) v8322) = true ∧ (Q (rep (atZ ([(1 : Int), (1 : Int), (2 : Int), (3 : Int)] : (List Int)) v8322) st8238))))))) (fun K8106 => (takeW (9 : Int) (fun v8122 => (((decide (v8122 = (0 : Int))) = true → ((List.length own_ + List.length ([((1 : Int) + cell_)] : (List Int)) ≤ 16777216) ∧ (∀ own_8235 : (List Int), own_8235 = (own_ ++ ([((1 : Int) + cell_)] : (List Int))) → (K8106 own_8235)))) ∧ ((decide (v8122 = (0 : Int))) = false → (K8106 own_))))))))))))))
theorem w__law_lines {cell_ : Int} {Q : (List Int) → Prop} {c : D} {Q' : D → D → Prop} (hc : Dr c) (h : W__law_lines cell_ Q) (hq : ∀ v c', Dr c' → Q v → Q' ((eT eI) v) c') : Cm m__law_lines c [eI cell_] Q' := by
  delta W__law_lines at h
  delta m__law_lines b__law_lines
  exact cm_W (e := (eT eI)) [.m c, .p (eI cell_), .un, .un] (rn_setW (ev_seqA (aw_cons (ev_compA (aw_range (aw_cons (ev_seq2 (ev_l rfl (ev_callM ⟨_, rfl, (aw_l (tvC rfl tvN) ⟨_, rfl, w__law_take hc h (fun v7718 c7719 hc7720 h8328 => ⟨_, (dv_addI _ _), (aw_l tvN ⟨_, (rng_1 h8328.1), (ev_compW (enc := eI) (encb := eI) (fun c7724 => [.m c7724, .p (eI cell_), .un, .un]) (fun c7724 => [.m c7724, .p (eI cell_), .un, .un]) (fun c7721 k_ => [.m c7721, .p (eI cell_), .un, .p (eI k_)]) hc7720 h8328.2.1 h8328.2.2 (fun c7721 k_ K7723 hc7722 h7726 => (ev_seq2 (ev_mkL (aw_cons (ev_seq2 (ev_l rfl (ev_callM ⟨_, rfl, (aw_l (tvC rfl tvN) ⟨_, rfl, w__law_take hc7722 h7726 (fun v7932 c7933 hc7934 h7968 => ⟨_, (dv_addI _ _), (aw_cons (ev_seq2 (ev_l rfl (ev_seq2 (ev_l rfl (ev_callM ⟨_, rfl, (aw_l (tvC rfl tvN) ⟨_, rfl, w__law_take hc7934 h7968 (fun v7950 c7951 hc7952 h7967 => ⟨_, (dv_mulI (mulOk_l (by decide) (by decide))), ⟨_, (dv_addI _ _), (aw_cons (ev_l rfl (aw_l tvN (ev_callM ⟨_, rfl, (aw_l (tvC rfl tvN) ⟨_, rfl, w__law_take hc7952 h7967 (fun v7963 c7964 hc7965 h7966 => ⟨_, (dv_ixL (a := eI) (l := ([((1 : Int) + v7932), ((6 : Int) + ((2 : Int) * v7950)), (8 : Int)] : (List Int))) h7966.1), ⟨_, _, rfl, hc7965, h7966.2, rfl⟩⟩)⟩)⟩))))⟩⟩)⟩)⟩))))))⟩)⟩)⟩))))))) (fun ys7969 c7724 hc7725 h8327 => (aw_l tvN ⟨_, (dv_tupL _), (rn_wset (enc := (eT eI)) (fun own_ => [.m c7724, .p (eI cell_), .p ((eT eI) own_), .un]) h8327 (fun own_ h8326 => (rn_mid (fun st8238 c8239 => [.m c8239, .p (eI cell_), .p ((eT eI) st8238), .un]) h8326 (fun K8106 h8241 => (rn_if (te_tst (ev_seq2 (ev_callM ⟨_, rfl, (aw_l (tvC rfl tvN) ⟨_, rfl, w__law_take hc7725 h8241 (fun v8122 c8123 hc8124 h8237 => (ev_l rfl ⟨_, (dv_eq eqI v8122 (0 : Int)), ⟨_, rfl, ⟨fun q8130 => (toQ (rn_set (k := fun _ => ()) (enc := (eT eI)) (fun own_8235 => [.m c8123, .p (eI cell_), .p ((eT eI) own_8235), .un]) (tv2 rfl (tvMkT (z := (eT eI) ([((1 : Int) + cell_)] : (List Int))) (tvC (tv2 rfl rfl (dv_addI _ _)) tvN) rfl) (dv_catT (h8237.1 q8130).1)) (all_lt (h8237.1 q8130).2) (fun own_8235 h8236 => (rn_end ⟨_, _, hc8124, rfl, h8236⟩)))), fun q8130 => (rn_end ⟨_, _, hc8124, rfl, (h8237.2 q8130)⟩)⟩⟩⟩))⟩)⟩))))) (fun st8238 c8239 hc8240 h8241 => (rn_retW (ev_seq2 (ev_l rfl (ev_seq2 (ev_l (tvMkL (z := (eL eI) ([(1 : Int), (1 : Int), (2 : Int), (3 : Int)] : (List Int))) (tvC rfl (tvC rfl (tvC rfl (tvC rfl tvN)))) rfl) (ev_callM ⟨_, rfl, (aw_l (tvC rfl tvN) ⟨_, rfl, w__law_take hc8240 h8241 (fun v8322 c8323 hc8324 h8325 => ⟨_, (dv_ixL (a := eI) (l := ([(1 : Int), (1 : Int), (2 : Int), (3 : Int)] : (List Int))) h8325.1), ⟨_, (dv_repT (a := eI) (x := st8238) h8325.2.1), ⟨(_, _), rfl, hc8324, _, rfl, h8325.2.2⟩⟩⟩)⟩)⟩))))))))))⟩)))⟩)⟩)⟩)⟩))))))))) hq
def W_law (script_ : (List Int)) (Q : Bool → Prop) : Prop :=
  ((List.length script_ ≤ 1000) ∧ (cellW (fun v8342 => (∀ cell_ : Int, cell_ = ((absI v8342) % ((10 : Int) ^ 28)) → (bndZ (2 : Int) ∧ (loopW (fun (st8370 : Unit) (turn_ : Int) K8376 => (W__law_lines cell_ (fun v8391 => (W__law_are_texts_right v8391 (fun v8394 => (((!v8394) = true → (Q false)) ∧ ((!v8394) = false → (takeW (4 : Int) (fun v8429 => (bndZ v8429 ∧ (List.length (rg1 v8429) ≤ 16777216 ∧ (compW (fun k_ K8434 => (W__law_lines cell_ (fun v8443 => (K8434 v8443)))) (rg1 v8429) (fun ys8447 => (∀ measures_ : (List (List Int)), measures_ = ys8447 → (takeW (3 : Int) (fun v8453 => (bndZ v8453 ∧ (List.length (rg1 v8453) ≤ 16777216 ∧ (compW (fun k_ K8458 => (W__law_lines cell_ (fun v8467 => (K8458 v8467)))) (rg1 v8453) (fun ys8471 => (takeW (4 : Int) (fun v8587 => ((List.length ys8471 + List.length (cutD ([([(8 : Int)] : (List Int)), ([(8 : Int), (6 : Int)] : (List Int)), ([(8 : Int), (8 : Int)] : (List Int))] : (List (List Int))) none (some v8587)) ≤ 16777216) ∧ (∀ tunes_ : (List (List Int)), tunes_ = (ys8471 ++ (cutD ([([(8 : Int)] : (List Int)), ([(8 : Int), (6 : Int)] : (List Int)), ([(8 : Int), (8 : Int)] : (List Int))] : (List (List Int))) none (some v8587))) → (loopW (fun (tunes_ : (List (List Int))) (measure_ : (List Int)) K8600 => (takeW ((List.length measure_ : Nat) : Int) (fun v8630 => (List.length tunes_ < 16777216 ∧ (K8600 (tunes_ ++ [(cutD measure_ none (some ((1 : Int) + v8630)))])))))) tunes_ measures_ (fun st8634 => (W__law_are_tunes_right measures_ st8634 (fun v8663 => (((!v8663) = true → (Q false)) ∧ ((!v8663) = false → (K8376 ()))))))))))))))))))))))))))))))) () (rg1 (2 : Int)) (fun st8686 => (((S_read_measure (PySem.Str.ofString "8.6.8.6 D") ∧ repOk (List.length ([(8 : Int), (6 : Int)] : (List Int))) (4 : Int) = true ∧ (okO (okT okA)) (some (rep (4 : Int) ([(8 : Int), (6 : Int)] : (List Int))))) ∧ ((!(decide ((T_read_measure (PySem.Str.ofString "8.6.8.6 D")) = (some (rep (4 : Int) ([(8 : Int), (6 : Int)] : (List Int))))))) = false → ((repOk (List.length ([(8 : Int), (6 : Int)] : (List Int))) (2 : Int) = true ∧ S_written_measure (rep (2 : Int) ([(8 : Int), (6 : Int)] : (List Int)))) ∧ ((!(decide ((T_written_measure (rep (2 : Int) ([(8 : Int), (6 : Int)] : (List Int)))) = (PySem.Str.ofString "8.6 D")))) = false → S_written_measure ([(7 : Int), (7 : Int)] : (List Int)))))) ∧ (((!(decide ((T_read_measure (PySem.Str.ofString "8.6.8.6 D")) = (some (rep (4 : Int) ([(8 : Int), (6 : Int)] : (List Int))))))) || ((!(decide ((T_written_measure (rep (2 : Int) ([(8 : Int), (6 : Int)] : (List Int)))) = (PySem.Str.ofString "8.6 D")))) || (!(decide ((T_written_measure ([(7 : Int), (7 : Int)] : (List Int))) = (PySem.Str.ofString "7.7")))))) = true → (Q false)) ∧ (((!(decide ((T_read_measure (PySem.Str.ofString "8.6.8.6 D")) = (some (rep (4 : Int) ([(8 : Int), (6 : Int)] : (List Int))))))) || ((!(decide ((T_written_measure (rep (2 : Int) ([(8 : Int), (6 : Int)] : (List Int)))) = (PySem.Str.ofString "8.6 D")))) || (!(decide ((T_written_measure ([(7 : Int), (7 : Int)] : (List Int))) = (PySem.Str.ofString "7.7")))))) = false → ((S_same_measure (PySem.Str.ofString "8.8.8.8") (PySem.Str.ofString "8.8 D") ∧ ((!(decide ((T_same_measure (PySem.Str.ofString "8.8.8.8") (PySem.Str.ofString "8.8 D")) = true))) = false → (S_same_measure (PySem.Str.ofString "8..8") (PySem.Str.ofString "8..8") ∧ ((!(decide ((T_same_measure (PySem.Str.ofString "8..8") (PySem.Str.ofString "8..8")) = false))) = false → S_fits_tune ([(8 : Int), (8 : Int), (8 : Int)] : (List Int)) ([(8 : Int), (8 : Int)] : (List Int)))))) ∧ (((!(decide ((T_same_measure (PySem.Str.ofString "8.8.8.8") (PySem.Str.ofString "8.8 D")) = true))) || ((!(decide ((T_same_measure (PySem.Str.ofString "8..8") (PySem.Str.ofString "8..8")) = false))) || (!(decide ((T_fits_tune ([(8 : Int), (8 : Int), (8 : Int)] : (List Int)) ([(8 : Int), (8 : Int)] : (List Int))) = false))))) = true → (Q false)) ∧ (((!(decide ((T_same_measure (PySem.Str.ofString "8.8.8.8") (PySem.Str.ofString "8.8 D")) = true))) || ((!(decide ((T_same_measure (PySem.Str.ofString "8..8") (PySem.Str.ofString "8..8")) = false))) || (!(decide ((T_fits_tune ([(8 : Int), (8 : Int), (8 : Int)] : (List Int)) ([(8 : Int), (8 : Int)] : (List Int))) = false))))) = false → (((S_by_measure ([(PySem.Str.ofString "8.6"), (PySem.Str.ofString "x"), (PySem.Str.ofString "6"), (PySem.Str.ofString "8.6")] : (List Str)) ∧ (okT (okP (okT okA) (okT okA))) ([(([(6 : Int)] : (List Int)), ([(2 : Int)] : (List Int))), (([(8 : Int), (6 : Int)] : (List Int)), ([(0 : Int), (3 : Int)] : (List Int)))] : (List ((List Int) × (List Int))))) ∧ ((decide ((T_by_measure ([(PySem.Str.ofString "8.6"), (PySem.Str.ofString "x"), (PySem.Str.ofString "6"), (PySem.Str.ofString "8.6")] : (List Str))) = ([(([(6 : Int)] : (List Int)), ([(2 : Int)] : (List Int))), (([(8 : Int), (6 : Int)] : (List Int)), ([(0 : Int), (3 : Int)] : (List Int)))] : (List ((List Int) × (List Int)))))) = true → (S_tunes_for ([([(8 : Int), (6 : Int), (8 : Int), (6 : Int)] : (List Int))] : (List (List Int))) ([([(8 : Int)] : (List Int)), ([(8 : Int), (6 : Int)] : (List Int)), ([(8 : Int), (6 : Int), (8 : Int), (6 : Int), (8 : Int), (6 : Int)] : (List Int))] : (List (List Int))) ∧ (okT (okT okA)) ([([(1 : Int)] : (List Int))] : (List (List Int)))))) ∧ (Q ((decide ((T_by_measure ([(PySem.Str.ofString "8.6"), (PySem.Str.ofString "x"), (PySem.Str.ofString "6"), (PySem.Str.ofString "8.6")] : (List Str))) = ([(([(6 : Int)] : (List Int)), ([(2 : Int)] : (List Int))), (([(8 : Int), (6 : Int)] : (List Int)), ([(0 : Int), (3 : Int)] : (List Int)))] : (List ((List Int) × (List Int)))))) && (decide ((T_tunes_for ([([(8 : Int), (6 : Int), (8 : Int), (6 : Int)] : (List Int))] : (List (List Int))) ([([(8 : Int)] : (List Int)), ([(8 : Int), (6 : Int)] : (List Int)), ([(8 : Int), (6 : Int), (8 : Int), (6 : Int), (8 : Int), (6 : Int)] : (List Int))] : (List (List Int)))) = ([([(1 : Int)] : (List Int))] : (List (List Int)))))))))))))))))))
theorem w_law {script_ : (List Int)} {Q : Bool → Prop} (h : W_law script_ Q) : ∃ v, m_law [(eL eI) script_] = some (eB v) ∧ Q v := by
  delta W_law at h
  delta m_law b_law
  exact fn_W [.p ((eL eI) script_), .un, .un, .un, .un, .un, .un, .un] (rn_draws (fun c8329 => [.p ((eL eI) script_), .o c8329, .un, .un, .un, .un, .un, .un]) (v__law_draws (many := 420) h.1 (by decide)) (fun c8329 hc8330 => (rn_setW (ev_seq2 (ev_seqA (aw_cons (ev_callM ⟨_, rfl, (aw_cons (ev_l rfl (aw_l tvN ⟨_, rfl, w__law_cell hc8330 h.2 (fun v8342 c8343 hc8344 h9836 => (aw_l tvN ⟨_, (dv_absI _), (ev_l (tv2 rfl rfl (dv_powN 28 (by decide +kernel))) ⟨_, (dv_modI (by decide +kernel)), (rn_wset (enc := eI) (fun cell_ => [.p ((eL eI) script_), .o c8343, .p (eI cell_), .un, .un, .un, .un, .un]) h9836 (fun cell_ h9835 => (rn_forW (aw_l (ti_r1 rfl h9835.1) (rn_loopW (enc := eI) (fun st8370 c8378 => [.p ((eL eI) script_), .o c8378, .p (eI cell_), .un, .un, .un, .un, .un]) (fun st8370 c8378 turn_ => [.p ((eL eI) script_), .o c8378, .p (eI cell_), .p (eI turn_), .un, .un, .un, .un]) hc8344 h9835.2 (fun st8370 c8378 turn_ K8376 hc8379 h8380 => (rn_ifW (te_not (te_tst (ev_callM ⟨_, rfl, (aw_cons (ev_callM ⟨_, rfl, (aw_l (tvC rfl tvN) ⟨_, rfl, w__law_lines (cell_ := cell_) hc8379 h8380 (fun v8391 c8392 hc8393 h8685 => (aw_l tvN ⟨_, rfl, w__law_are_texts_right (lines_ := v8391) hc8393 h8685 (fun v8394 c8395 hc8396 h8684 => ⟨_, rfl, ⟨fun q8397 => (rn_assoc (rn_ret (x := eB false) rfl ⟨_, rfl, (h8684.1 q8397)⟩)), fun q8397 => (rn_skip (rn_setW (ev_seqA (aw_cons (ev_compA (aw_range (aw_cons (ev_callM ⟨_, rfl, (aw_l (tvC rfl tvN) ⟨_, rfl, w__law_take hc8396 (h8684.2 q8397) (fun v8429 c8430 hc8431 h8683 => (aw_l tvN ⟨_, (rng_1 h8683.1), (ev_compW (enc := eI) (encb := (eT eI)) (fun c8435 => [.p ((eL eI) script_), .o c8435, .p (eI cell_), .p (eI turn_), .un, .un, .un, .un]) (fun c8435 => [.p ((eL eI) script_), .o c8435, .p (eI cell_), .p (eI turn_), .un, .un, .un, .un]) (fun c8432 k_ => [.p ((eL eI) script_), .o c8432, .p (eI cell_), .p (eI turn_), .un, .un, .un, .p (eI k_)]) hc8431 h8683.2.1 h8683.2.2 (fun c8432 k_ K8434 hc8433 h8437 => (ev_callM ⟨_, rfl, (aw_l (tvC rfl tvN) ⟨_, rfl, w__law_lines (cell_ := cell_) hc8433 h8437 (fun v8443 c8444 hc8445 h8446 => ⟨_, _, rfl, hc8445, h8446, rfl⟩)⟩)⟩)) (fun ys8447 c8435 hc8436 h8682 => (aw_l tvN ⟨_, (dv_tupL _), (rn_wset (enc := (eT (eT eI))) (fun measures_ => [.p ((eL eI) script_), .o c8435, .p (eI cell_), .p (eI turn_), .p ((eT (eT eI)) measures_), .un, .un, .un]) h8682 (fun measures_ h8681 => (rn_setOW (ev_seq2 (ev_compA (aw_range (aw_cons (ev_callM ⟨_, rfl, (aw_l (tvC rfl tvN) ⟨_, rfl, w__law_take hc8436 h8681 (fun v8453 c8454 hc8455 h8680 => (aw_l tvN ⟨_, (rng_1 h8680.1), (ev_compW (enc := eI) (encb := (eT eI)) (fun c8459 => [.p ((eL eI) script_), .o c8459, .p (eI cell_), .p (eI turn_), .p ((eT (eT eI)) measures_), .un, .un, .un]) (fun c8459 => [.p ((eL eI) script_), .o c8459, .p (eI cell_), .p (eI turn_), .p ((eT (eT eI)) measures_), .un, .un, .un]) (fun c8456 k_ => [.p ((eL eI) script_), .o c8456, .p (eI cell_), .p (eI turn_), .p ((eT (eT eI)) measures_), .un, .un, .p (eI k_)]) hc8455 h8680.2.1 h8680.2.2 (fun c8456 k_ K8458 hc8457 h8461 => (ev_callM ⟨_, rfl, (aw_l (tvC rfl tvN) ⟨_, rfl, w__law_lines (cell_ := cell_) hc8457 h8461 (fun v8467 c8468 hc8469 h8470 => ⟨_, _, rfl, hc8469, h8470, rfl⟩)⟩)⟩)) (fun ys8471 c8459 hc8460 h8679 => (ev_seqS (ev_l (tvMkL (z := (eL (eT eI)) ([([(8 : Int)] : (List Int)), ([(8 : Int), (6 : Int)] : (List Int)), ([(8 : Int), (8 : Int)] : (List Int))] : (List (List Int)))) (tvC (tvMkT (z := (eT eI) ([(8 : Int)] : (List Int))) (tvC rfl tvN) rfl) (tvC (tvMkT (z := (eT eI) ([(8 : Int), (6 : Int)] : (List Int))) (tvC rfl (tvC rfl tvN)) rfl) (tvC (tvMkT (z := (eT eI) ([(8 : Int), (8 : Int)] : (List Int))) (tvC rfl (tvC rfl tvN)) rfl) tvN))) rfl) (eo_none (eo_eff (ev_callM ⟨_, rfl, (aw_l (tvC rfl tvN) ⟨_, rfl, w__law_take hc8460 h8679 (fun v8587 c8588 hc8589 h8678 => ⟨_, rfl, ⟨_, (dv_slL _ _ _), ⟨_, (dv_catLf h8678.1), (rn_wsetO (enc := (eL (eT eI))) (fun tunes_ => [.p ((eL eI) script_), .o c8588, .p (eI cell_), .p (eI turn_), .p ((eT (eT eI)) measures_), .o ((eL (eT eI)) tunes_), .un, .un]) h8678.2 (fun tunes_ h8677 => (rn_forW (aw_l (ti_T rfl) (rn_loopW (enc := (eT eI)) (fun tunes_ c8602 => [.p ((eL eI) script_), .o c8602, .p (eI cell_), .p (eI turn_), .p ((eT (eT eI)) measures_), .o ((eL (eT eI)) tunes_), .un, .un]) (fun tunes_ c8602 measure_ => [.p ((eL eI) script_), .o c8602, .p (eI cell_), .p (eI turn_), .p ((eT (eT eI)) measures_), .o ((eL (eT eI)) tunes_), .p ((eT eI) measure_), .un]) hc8589 h8677 (fun tunes_ c8602 measure_ K8600 hc8603 h8604 => (rn_exW (ev_mut ⟨_, rfl, (aw_cons (ev_seqS (ev_l rfl (eo_none (eo_eff (ev_seq2 (ev_l rfl (ev_callM ⟨_, rfl, (aw_l (tvC (tvA (tvC rfl tvN) (dv_lenT _)) tvN) ⟨_, rfl, w__law_take hc8603 h8604 (fun v8630 c8631 hc8632 h8633 => ⟨_, (dv_addI _ _), ⟨_, rfl, ⟨_, (dv_slT _ _ _), (aw_l tvN ⟨_, rfl, okp_app (enc := (eT eI)) (l := tunes_) (x := (cutD measure_ none (some ((1 : Int) + v8630)))) h8633.1 (rn_end ⟨_, _, hc8632, rfl, h8633.2⟩)⟩)⟩⟩⟩)⟩)⟩))))))))⟩))) (fun st8634 c8635 hc8636 h8637 => (rn_ifW (te_not (te_tst (ev_callM ⟨_, rfl, (aw_l (tvC rfl (tvC (tvA (tvC rfl tvN) (dv_tupL _)) tvN)) ⟨_, rfl, w__law_are_tunes_right (measures_ := measures_) (tunes_ := st8634) hc8636 h8637 (fun v8663 c8664 hc8665 h8676 => ⟨_, rfl, ⟨fun q8666 => (rn_assoc (rn_ret (x := eB false) rfl ⟨_, rfl, (h8676.1 q8666)⟩)), fun q8666 => (rn_skip (rn_end ⟨_, _, hc8665, rfl, (h8676.2 q8666)⟩))⟩⟩)⟩)⟩))))))))))⟩⟩⟩)⟩)⟩)))))))⟩))⟩)⟩))))))))⟩)))⟩))⟩)⟩))))))))⟩⟩)⟩))⟩)⟩))⟩))))) (fun st8686 c8687 hc8688 h8689 => (rn_ifQ (tt_or (tt_not (tt_tst (tvA (tvC (tvA (tvC rfl tvN) (v_read_measure (text_ := (PySem.Str.ofString "8.6.8.6 D")) h8689.1.1.1)) (tvC (tv2 (tvMkT (z := (eT eI) ([(8 : Int), (6 : Int)] : (List Int))) (tvC rfl (tvC rfl tvN)) rfl) rfl (dv_repT (a := eI) (x := ([(8 : Int), (6 : Int)] : (List Int))) h8689.1.1.2.1)) tvN)) (v__law_same (smO (smT smI.toSmE)) (a := (T_read_measure (PySem.Str.ofString "8.6.8.6 D"))) (b := (some (rep (4 : Int) ([(8 : Int), (6 : Int)] : (List Int))))) h8689.1.1.2.2)))) (fun q9025 => (tt_or (tt_not (tt_tst (tvA (tvC (tvA (tvC (tv2 (tvMkT (z := (eT eI) ([(8 : Int), (6 : Int)] : (List Int))) (tvC rfl (tvC rfl tvN)) rfl) rfl (dv_repT (a := eI) (x := ([(8 : Int), (6 : Int)] : (List Int))) (h8689.1.2 q9025).1.1)) tvN) (v_written_measure (lines_ := (rep (2 : Int) ([(8 : Int), (6 : Int)] : (List Int)))) (h8689.1.2 q9025).1.2)) (tvC rfl tvN)) (v__law_same smS.toSmE (a := (T_written_measure (rep (2 : Int) ([(8 : Int), (6 : Int)] : (List Int))))) (b := (PySem.Str.ofString "8.6 D")) trivial)))) (fun q9020 => (tt_not (tt_tst (tvA (tvC (tvA (tvC (tvMkT (z := (eT eI) ([(7 : Int), (7 : Int)] : (List Int))) (tvC rfl (tvC rfl tvN)) rfl) tvN) (v_written_measure (lines_ := ([(7 : Int), (7 : Int)] : (List Int))) ((h8689.1.2 q9025).2 q9020))) (tvC rfl tvN)) (v__law_same smS.toSmE (a := (T_written_measure ([(7 : Int), (7 : Int)] : (List Int)))) (b := (PySem.Str.ofString "7.7")) trivial)))))))) (fun q8690 => (rn_assoc (rn_ret (x := eB false) rfl ⟨_, rfl, (h8689.2.1 q8690)⟩))) (fun q8690 => (rn_skip (rn_ifQ (tt_or (tt_not (tt_tst (tvA (tvC (tvA (tvC rfl (tvC rfl tvN)) (v_same_measure (one_ := (PySem.Str.ofString "8.8.8.8")) (other_ := (PySem.Str.ofString "8.8 D")) (h8689.2.2 q8690).1.1)) (tvC rfl tvN)) (v__law_same smB.toSmE (a := (T_same_measure (PySem.Str.ofString "8.8.8.8") (PySem.Str.ofString "8.8 D"))) (b := true) trivial)))) (fun q9230 => (tt_or (tt_not (tt_tst (tvA (tvC (tvA (tvC rfl (tvC rfl tvN)) (v_same_measure (one_ := (PySem.Str.ofString "8..8")) (other_ := (PySem.Str.ofString "8..8")) ((h8689.2.2 q8690).1.2 q9230).1)) (tvC rfl tvN)) (v__law_same smB.toSmE (a := (T_same_measure (PySem.Str.ofString "8..8") (PySem.Str.ofString "8..8"))) (b := false) trivial)))) (fun q9225 => (tt_not (tt_tst (tvA (tvC (tvA (tvC (tvMkT (z := (eT eI) ([(8 : Int), (8 : Int), (8 : Int)] : (List Int))) (tvC rfl (tvC rfl (tvC rfl tvN))) rfl) (tvC (tvMkT (z := (eT eI) ([(8 : Int), (8 : Int)] : (List Int))) (tvC rfl (tvC rfl tvN)) rfl) tvN)) (v_fits_tune (measure_ := ([(8 : Int), (8 : Int), (8 : Int)] : (List Int))) (tune_ := ([(8 : Int), (8 : Int)] : (List Int))) (((h8689.2.2 q8690).1.2 q9230).2 q9225))) (tvC rfl tvN)) (v__law_same smB.toSmE (a := (T_fits_tune ([(8 : Int), (8 : Int), (8 : Int)] : (List Int)) ([(8 : Int), (8 : Int)] : (List Int)))) (b := false) trivial)))))))) (fun q9035 => (rn_assoc (rn_ret (x := eB false) rfl ⟨_, rfl, ((h8689.2.2 q8690).2.1 q9035)⟩))) (fun q9035 => (rn_skip (rn_ret (x := eB ((decide ((T_by_measure ([(PySem.Str.ofString "8.6"), (PySem.Str.ofString "x"), (PySem.Str.ofString "6"), (PySem.Str.ofString "8.6")] : (List Str))) = ([(([(6 : Int)] : (List Int)), ([(2 : Int)] : (List Int))), (([(8 : Int), (6 : Int)] : (List Int)), ([(0 : Int), (3 : Int)] : (List Int)))] : (List ((List Int) × (List Int)))))) && (decide ((T_tunes_for ([([(8 : Int), (6 : Int), (8 : Int), (6 : Int)] : (List Int))] : (List (List Int))) ([([(8 : Int)] : (List Int)), ([(8 : Int), (6 : Int)] : (List Int)), ([(8 : Int), (6 : Int), (8 : Int), (6 : Int), (8 : Int), (6 : Int)] : (List Int))] : (List (List Int)))) = ([([(1 : Int)] : (List Int))] : (List (List Int))))))) (tv_and (tvA (tvC (tvA (tvC (tvMkT (z := (eT eS) ([(PySem.Str.ofString "8.6"), (PySem.Str.ofString "x"), (PySem.Str.ofString "6"), (PySem.Str.ofString "8.6")] : (List Str))) (tvC rfl (tvC rfl (tvC rfl (tvC rfl tvN)))) rfl) tvN) (v_by_measure (hymns_ := ([(PySem.Str.ofString "8.6"), (PySem.Str.ofString "x"), (PySem.Str.ofString "6"), (PySem.Str.ofString "8.6")] : (List Str))) ((h8689.2.2 q8690).2.2 q9035).1.1.1)) (tvC (tvMkT (z := (eT (eP (eT eI) (eT eI))) ([(([(6 : Int)] : (List Int)), ([(2 : Int)] : (List Int))), (([(8 : Int), (6 : Int)] : (List Int)), ([(0 : Int), (3 : Int)] : (List Int)))] : (List ((List Int) × (List Int))))) (tvC (tvMkT (z := (eP (eT eI) (eT eI)) (([(6 : Int)] : (List Int)), ([(2 : Int)] : (List Int)))) (tvC (tvMkT (z := (eT eI) ([(6 : Int)] : (List Int))) (tvC rfl tvN) rfl) (tvC (tvMkT (z := (eT eI) ([(2 : Int)] : (List Int))) (tvC rfl tvN) rfl) tvN)) rfl) (tvC (tvMkT (z := (eP (eT eI) (eT eI)) (([(8 : Int), (6 : Int)] : (List Int)), ([(0 : Int), (3 : Int)] : (List Int)))) (tvC (tvMkT (z := (eT eI) ([(8 : Int), (6 : Int)] : (List Int))) (tvC rfl (tvC rfl tvN)) rfl) (tvC (tvMkT (z := (eT eI) ([(0 : Int), (3 : Int)] : (List Int))) (tvC rfl (tvC rfl tvN)) rfl) tvN)) rfl) tvN)) rfl) tvN)) (v__law_same (smT (smP (smT smI.toSmE).toSmE (smT smI.toSmE).toSmE).toSmE).toSmE (a := (T_by_measure ([(PySem.Str.ofString "8.6"), (PySem.Str.ofString "x"), (PySem.Str.ofString "6"), (PySem.Str.ofString "8.6")] : (List Str)))) (b := ([(([(6 : Int)] : (List Int)), ([(2 : Int)] : (List Int))), (([(8 : Int), (6 : Int)] : (List Int)), ([(0 : Int), (3 : Int)] : (List Int)))] : (List ((List Int) × (List Int))))) ((h8689.2.2 q8690).2.2 q9035).1.1.2)) (fun q9830 => (tvA (tvC (tvA (tvC (tvMkT (z := (eT (eT eI)) ([([(8 : Int), (6 : Int), (8 : Int), (6 : Int)] : (List Int))] : (List (List Int)))) (tvC (tvMkT (z := (eT eI) ([(8 : Int), (6 : Int), (8 : Int), (6 : Int)] : (List Int))) (tvC rfl (tvC rfl (tvC rfl (tvC rfl tvN)))) rfl) tvN) rfl) (tvC (tvMkT (z := (eT (eT eI)) ([([(8 : Int)] : (List Int)), ([(8 : Int), (6 : Int)] : (List Int)), ([(8 : Int), (6 : Int), (8 : Int), (6 : Int), (8 : Int), (6 : Int)] : (List Int))] : (List (List Int)))) (tvC (tvMkT (z := (eT eI) ([(8 : Int)] : (List Int))) (tvC rfl tvN) rfl) (tvC (tvMkT (z := (eT eI) ([(8 : Int), (6 : Int)] : (List Int))) (tvC rfl (tvC rfl tvN)) rfl) (tvC (tvMkT (z := (eT eI) ([(8 : Int), (6 : Int), (8 : Int), (6 : Int), (8 : Int), (6 : Int)] : (List Int))) (tvC rfl (tvC rfl (tvC rfl (tvC rfl (tvC rfl (tvC rfl tvN)))))) rfl) tvN))) rfl) tvN)) (v_tunes_for (measures_ := ([([(8 : Int), (6 : Int), (8 : Int), (6 : Int)] : (List Int))] : (List (List Int)))) (tunes_ := ([([(8 : Int)] : (List Int)), ([(8 : Int), (6 : Int)] : (List Int)), ([(8 : Int), (6 : Int), (8 : Int), (6 : Int), (8 : Int), (6 : Int)] : (List Int))] : (List (List Int)))) (((h8689.2.2 q8690).2.2 q9035).1.2 q9830).1)) (tvC (tvMkT (z := (eT (eT eI)) ([([(1 : Int)] : (List Int))] : (List (List Int)))) (tvC (tvMkT (z := (eT eI) ([(1 : Int)] : (List Int))) (tvC rfl tvN) rfl) tvN) rfl) tvN)) (v__law_same (smT (smT smI.toSmE).toSmE).toSmE (a := (T_tunes_for ([([(8 : Int), (6 : Int), (8 : Int), (6 : Int)] : (List Int))] : (List (List Int))) ([([(8 : Int)] : (List Int)), ([(8 : Int), (6 : Int)] : (List Int)), ([(8 : Int), (6 : Int), (8 : Int), (6 : Int), (8 : Int), (6 : Int)] : (List Int))] : (List (List Int))))) (b := ([([(1 : Int)] : (List Int))] : (List (List Int)))) (((h8689.2.2 q8690).2.2 q9035).1.2 q9830).2)))) ⟨_, rfl, ((h8689.2.2 q8690).2.2 q9035).2⟩)))))))))))))⟩)⟩))⟩)))⟩)))))))
end K90
namespace K90
open PySem DL PyProof.Rows L2
theorem chk {c : Bool} {P R : Prop} (hc : c = false) (hr : R) : (c = true → P) ∧ (c = false → R) := ⟨fun z => absurd (hc.symm.trans z) (by decide), fun _ => hr⟩
theorem len_rg1 (n : Nat) : (rg1 (n : Int)).length = n := by simp
/-! rows of signs parted at one sign -/
def sp1 (c : Nat) : List Nat → List (List Nat)
  | [] => [[]]
  | x :: r => if x = c then [] :: sp1 c r else match sp1 c r with
    | [] => [[x]]
    | h :: t => (x :: h) :: t
theorem sp1_eq (c x : Nat) (r : List Nat) : sp1 c (x :: r) = if x = c then [] :: sp1 c r else match sp1 c r with | [] => [[x]] | h :: t => (x :: h) :: t := rfl
theorem sp1_ne (c : Nat) : ∀ l, sp1 c l ≠ []
  | [] => by simp [sp1]
  | x :: r => by
    unfold sp1
    split
    · simp
    · split <;> simp
theorem sp1_free {c : Nat} : ∀ {l : List Nat}, c ∉ l → sp1 c l = [l]
  | [], _ => rfl
  | x :: r, h => by
    have h1 : x ≠ c := fun e => h (by simp [e])
    have h2 : c ∉ r := fun e => h (List.mem_cons_of_mem _ e)
    unfold sp1
    rw [if_neg h1, sp1_free h2]
theorem sp1_cut {c : Nat} {b : List Nat} : ∀ {a : List Nat}, c ∉ a → sp1 c (a ++ c :: b) = a :: sp1 c b
  | [], _ => by
    show (if c = c then [] :: sp1 c b else _) = _
    rw [if_pos rfl]
  | x :: a, h => by
    have h1 : x ≠ c := fun e => h (by simp [e])
    have h2 : c ∉ a := fun e => h (List.mem_cons_of_mem _ e)
    show (if x = c then [] :: sp1 c (a ++ c :: b) else match sp1 c (a ++ c :: b) with | [] => [[x]] | h :: t => (x :: h) :: t) = _
    rw [if_neg h1, sp1_cut h2]
theorem sp1_has {c d : Nat} (hd : d ≠ c) : ∀ {l : List Nat}, d ∈ l → ∃ p, p ∈ sp1 c l ∧ d ∈ p
  | [], h => by cases h
  | x :: r, h => by
    unfold sp1
    by_cases e : x = c
    · rw [if_pos e]
      rcases List.mem_cons.mp h with z | z
      · exact absurd (z.trans e) hd
      · obtain ⟨p, h1, h2⟩ := sp1_has hd z
        exact ⟨p, List.mem_cons_of_mem _ h1, h2⟩
    · rw [if_neg e]
      cases q : sp1 c r with
      | nil => exact absurd q (sp1_ne c r)
      | cons h0 t =>
        rcases List.mem_cons.mp h with z | z
        · exact ⟨x :: h0, List.mem_cons_self, by rw [z]; exact List.mem_cons_self⟩
        · obtain ⟨p, h1, h2⟩ := sp1_has hd z
          rw [q] at h1
          rcases List.mem_cons.mp h1 with rfl | h1
          · exact ⟨x :: p, List.mem_cons_self, List.mem_cons_of_mem _ h2⟩
          · exact ⟨p, List.mem_cons_of_mem _ h1, h2⟩
theorem sp1_len (c : Nat) : ∀ l, (sp1 c l).length ≤ l.length + 1
  | [] => by simp [sp1]
  | x :: r => by
    have ih := sp1_len c r
    unfold sp1
    split
    · simp; omega
    · split
      · simp
      · rename_i h t e
        rw [e] at ih
        simp at ih ⊢; omega
theorem sp1_sub (c : Nat) : ∀ (l : List Nat) (p : List Nat), p ∈ sp1 c l → p.length ≤ l.length
  | [], p, h => by
    rw [List.mem_singleton.mp h]; exact Nat.le_refl _
  | x :: r, p, h => by
    unfold sp1 at h
    split at h
    · rcases List.mem_cons.mp h with z | z
      · rw [z]; simp
      · have := sp1_sub c r p z; simp; omega
    · split at h
      · rw [List.mem_singleton.mp h]; simp
      · rename_i h0 t e
        rcases List.mem_cons.mp h with z | z
        · have := sp1_sub c r h0 (by rw [e]; exact List.mem_cons_self)
          rw [z]; simp; omega
        · have := sp1_sub c r p (by rw [e]; exact List.mem_cons_of_mem _ z)
          simp; omega
theorem spl_sp1 (c : Nat) : ∀ (l acc : List Nat), TL.spl [c] 0 acc l = match sp1 c l with | [] => [] | h :: t => (acc ++ h) :: t
  | [], acc => by simp [TL.spl, sp1]
  | x :: r, acc => by
    have pr : TL.pre [c] (x :: r) = decide (x = c) := by
      show ([x] == [c]) = _
      by_cases e : x = c
      · subst e; simp
      · simp [e]
    show (if TL.pre [c] (x :: r) = true then acc :: TL.spl [c] ([c].length - 1) [] r else TL.spl [c] 0 (acc ++ [x]) r) = _
    rw [pr]
    by_cases e : x = c
    · rw [decide_eq_true e, if_pos rfl]
      have : sp1 c (x :: r) = [] :: sp1 c r := by rw [sp1_eq, if_pos e]
      rw [this]
      show acc :: TL.spl [c] 0 [] r = _
      rw [spl_sp1 c r []]
      cases q : sp1 c r with
      | nil => exact absurd q (sp1_ne c r)
      | cons h t => simp
    · rw [decide_eq_false e, if_neg (by decide), spl_sp1 c r (acc ++ [x]), sp1_eq, if_neg e]
      cases q : sp1 c r with
      | nil => exact absurd q (sp1_ne c r)
      | cons h t => simp
theorem split_tl {c : Nat} (hc : c < 256) {y : Str} (hy : DL.tl y = [c]) (x : Str) : (Txt.split x y).map DL.tl = sp1 c (DL.tl x) := by
  have hk : y.cps.all (· < 256) = true := by rw [← Array.all_toList]; show (DL.tl y).all _ = true; rw [hy]; simp [hc]
  have e : (Txt.split x y).map DL.tl = TL.spl (DL.tl y) 0 [] (DL.tl x) := TL.split_spl x y (by show DL.tl y ≠ []; rw [hy]; simp) (TL.kind_ok hk)
  rw [e, hy, spl_sp1]
  cases q : sp1 c (DL.tl x) with
  | nil => exact absurd q (sp1_ne c _)
  | cons h t => simp
/-! a line of a measure -/
def lin (w : List Nat) : Option Int := numW 30 w
theorem line_T (w : Str) : T_is_line w = (lin (DL.tl w)).isSome := by
  unfold T_is_line lin numW
  rw [all_dig]
  have hlen : w.length = (DL.tl w).length := str_len w
  have e1 : ((decide ((0 : Int) < ((Str.length w : Nat) : Int))) && (decide (((Str.length w : Nat) : Int) ≤ (30 : Int)))) = (!(DL.tl w).isEmpty && decide ((DL.tl w).length ≤ 30)) := by
    rw [Bool.eq_iff_iff, Bool.and_eq_true, Bool.and_eq_true, decide_eq_true_iff, decide_eq_true_iff, decide_eq_true_iff, hlen]
    cases DL.tl w with
    | nil => simp
    | cons a l => simp; omega
  have e2 : (!decide (chZ w 0 = PySem.Str.ofString "0")) = decide ((DL.tl w).headD 0 ≠ 48) := by
    rw [show decide (chZ w 0 = PySem.Str.ofString "0") = decide ((DL.tl w).headD 0 = 48) from decide_eq_decide.mpr (chZ0_eq w)]; simp
  rw [e1, e2]
  cases h1 : (!(DL.tl w).isEmpty && decide ((DL.tl w).length ≤ 30)) <;> cases h2 : decide ((DL.tl w).headD 0 ≠ 48) <;> cases h3 : (DL.tl w).all isDig <;> simp_all
theorem lin_some {w : List Nat} {n : Int} (h : lin w = some n) : w.all isDig = true ∧ w ≠ [] ∧ w.length ≤ 30 ∧ w.headD 0 ≠ 48 ∧ n = ((NumText.digitsVal w : Nat) : Int) := by
  unfold lin numW at h
  split at h
  · rename_i c
    rw [Bool.and_eq_true, Bool.and_eq_true, Bool.and_eq_true, decide_eq_true_iff, decide_eq_true_iff] at c
    refine ⟨c.2, ?_, c.1.1.2, c.1.2, (Option.some.inj h).symm⟩
    intro e
    rw [e] at c
    simp at c
  · cases h
theorem line_int {w : Str} (h : (lin (DL.tl w)).isSome = true) : w.length ≤ 640 ∧ (PySem.intText? w).isSome = true ∧ lin (DL.tl w) = some (intT w) := by
  obtain ⟨n, hn⟩ := Option.isSome_iff_exists.mp h
  obtain ⟨a, b, c, _, e⟩ := lin_some hn
  have hl : w.length ≤ 640 := by rw [str_len]; show (DL.tl w).length ≤ _; omega
  refine ⟨hl, by rw [intS_ok a b hl]; rfl, ?_⟩
  rw [hn, e, intT_ok a b hl]
theorem line_S {w : Str} (h : w.length ≤ 100000) : S_is_line w := by
  have hlen : w.length = (DL.tl w).length := str_len w
  refine ⟨by omega, fun z => ⟨⟨?_, by omega⟩, fun _ => by unfold charsT; rw [List.length_map]; show (DL.tl w).length ≤ _; omega⟩⟩
  rw [Bool.and_eq_true, decide_eq_true_iff] at z
  have := z.1
  exact ixOk_pos (by decide) (by show (0 : Int) < ((DL.tl w).length : Nat); omega)
/-- all lines, or none -/
def lins : List (List Nat) → Option (List Int)
  | [] => some []
  | w :: r => match lin w with
    | none => none
    | some n => (lins r).map fun t => n :: t
theorem lins_bad : ∀ {ws : List (List Nat)}, (∃ p, p ∈ ws ∧ lin p = none) → lins ws = none
  | [], ⟨p, h, _⟩ => by cases h
  | w :: r, ⟨p, h, e⟩ => by
    unfold lins
    rcases List.mem_cons.mp h with rfl | h
    · rw [e]
    · cases lin w with
      | none => rfl
      | some n =>
        show (lins r).map _ = none
        rw [lins_bad ⟨p, h, e⟩]; rfl
theorem lin_free {w : List Nat} {d : Nat} (h : d ∈ w) (hd : isDig d = false) : lin w = none := by
  cases e : lin w with
  | none => rfl
  | some n =>
    obtain ⟨a, _⟩ := lin_some e
    have := List.all_eq_true.mp a d h
    rw [hd] at this
    cases this
def tw (t : List Nat) : Bool := decide (t.drop (t.length - 2) = [32, 68])
/-- what the program reads, and what the law reads -/
def RM (t : List Nat) : Option (List Int) := (lins (sp1 46 (if tw t = true then t.take (t.length - 2) else t))).map fun l => if tw t = true then l ++ l else l
def LR (t : List Nat) : Option (List Int) := match sp1 32 t with
  | [w] => lins (sp1 46 w)
  | [w, d] => if d = [68] then (lins (sp1 46 w)).map fun l => l ++ l else none
  | _ => none
theorem sp_dig : isDig 32 = false := by decide
theorem read_bad {t : List Nat} (h : 32 ∈ t) : lins (sp1 46 t) = none := by
  obtain ⟨p, h1, h2⟩ := sp1_has (c := 46) (d := 32) (by decide) h
  exact lins_bad ⟨p, h1, lin_free h2 sp_dig⟩
theorem tw_iff (t : List Nat) : tw t = true ↔ ∃ a, t = a ++ [32, 68] := by
  unfold tw
  rw [decide_eq_true_iff]
  constructor
  · intro h
    refine ⟨t.take (t.length - 2), ?_⟩
    rw [← h, List.take_append_drop]
  · rintro ⟨a, rfl⟩
    rw [List.length_append]
    show List.drop (a.length + 2 - 2) _ = _
    rw [Nat.add_sub_cancel, List.drop_left]
theorem tw_take (a : List Nat) : (a ++ [32, 68]).take ((a ++ [32, 68]).length - 2) = a := by
  rw [List.length_append]
  show List.take (a.length + 2 - 2) _ = _
  rw [Nat.add_sub_cancel, List.take_left]
theorem read_eq (t : List Nat) : RM t = LR t := by
  by_cases h : 32 ∈ t
  · obtain ⟨a, b, e, ha⟩ := List.eq_append_cons_of_mem h
    have s : sp1 32 t = a :: sp1 32 b := by rw [e, sp1_cut ha]
    by_cases hb : b = [68]
    · subst hb
      have tt : tw t = true := (tw_iff t).mpr ⟨a, e⟩
      unfold RM LR
      rw [s, tt, if_pos rfl, e, tw_take]
      have : sp1 32 [68] = [[68]] := by decide
      rw [this]
      rfl
    · have l0 : LR t = none := by
        unfold LR
        rw [s]
        cases q : sp1 32 b with
        | nil => exact absurd q (sp1_ne 32 b)
        | cons d r =>
          cases r with
          | nil =>
            show (if d = [68] then _ else none) = none
            have : ¬ 32 ∈ b := fun z => by
              obtain ⟨a', b', e', ha'⟩ := List.eq_append_cons_of_mem z
              rw [e', sp1_cut ha'] at q
              have := congrArg List.length q
              simp at this
              exact sp1_ne 32 b' this
            rw [sp1_free this] at q
            injection q with q _
            rw [if_neg (fun z => hb (q.trans z))]
          | cons _ _ => rfl
      rw [l0]
      unfold RM
      by_cases tt : tw t = true
      · obtain ⟨a2, e2⟩ := (tw_iff t).mp tt
        rw [tt, if_pos rfl, e2, tw_take]
        have : 32 ∈ a2 := by
          refine Classical.byContradiction fun n => ?_
          have s2 : sp1 32 t = [a2, [68]] := by rw [e2, show a2 ++ [32, 68] = a2 ++ 32 :: [68] from rfl, sp1_cut n]; rfl
          rw [s] at s2
          injection s2 with s3 s4
          have : ¬ 32 ∈ b := fun z => by
            obtain ⟨a', b', e', ha'⟩ := List.eq_append_cons_of_mem z
            rw [e', sp1_cut ha'] at s4
            have := congrArg List.length s4
            simp at this
            exact sp1_ne 32 b' this
          rw [sp1_free this] at s4
          injection s4 with s4 _
          exact hb s4
        rw [read_bad this]; rfl
      · have tt : tw t = false := by simpa using tt
        rw [tt, if_neg (by decide), read_bad h]; rfl
  · have tt : tw t = false := by
      rw [Bool.eq_false_iff]
      intro z
      obtain ⟨a, e⟩ := (tw_iff t).mp z
      exact h (by rw [e]; simp)
    unfold RM LR
    rw [tt, if_neg (by decide), sp1_free h]
    simp
end K90
namespace K90
open PySem DL PyProof.Rows L2
def dot : Str := PySem.Str.ofString "."
def spc : Str := PySem.Str.ofString " "
theorem dot_tl : DL.tl dot = [46] := rfl
theorem spc_tl : DL.tl spc = [32] := rfl
theorem cutS_tl (z : Str) (lo hi : Option Int) : DL.tl (cutS z lo hi) = DL.cutD (DL.tl z) lo hi := by
  have e : z.length = (DL.tl z).length := str_len z
  unfold cutS DL.cutD
  show (List.toArray _).toList = _
  rw [List.toList_toArray, e]
theorem cutm2 (l : List Nat) : DL.cutD l (some (-2)) none = l.drop (l.length - 2) ∧ DL.cutD l none (some (-2)) = l.take (l.length - 2) := by
  have e : ∀ d, HT.sIx l.length d (some (-2)) = l.length - 2 := fun d => by
    show (if (-2 : Int) < 0 then (-2 + (l.length : Int)).toNat else min (-2 : Int).toNat l.length) = _
    rw [if_pos (by omega)]
    omega
  unfold DL.cutD
  rw [e, e]
  constructor
  · show (l.drop (l.length - 2)).take (l.length - (l.length - 2)) = _
    rw [List.take_of_length_le (by rw [List.length_drop]; omega)]
  · show (l.drop 0).take (l.length - 2 - 0) = _
    rw [List.drop_zero, Nat.sub_zero]
theorem lins_words : ∀ ws : List Str, lins (ws.map DL.tl) = if (ws.all fun w => (lin (DL.tl w)).isSome) = true then some (ws.map intT) else none
  | [] => rfl
  | w :: r => by
    show (match lin (DL.tl w) with | none => none | some n => (lins (r.map DL.tl)).map fun t => n :: t) = _
    rw [lins_words r, List.all_cons]
    cases h : lin (DL.tl w) with
    | none => rfl
    | some n =>
      have e := (line_int (w := w) (by rw [h]; rfl)).2.2
      rw [h] at e
      have e := Option.some.inj e
      subst e
      show Option.map _ _ = if (true && _) = true then _ else _
      rw [Bool.true_and]
      split
      · rfl
      · rfl
theorem tw_T (text : Str) : decide ((cutS text (some (-(2 : Int))) none) = (PySem.Str.ofString " D")) = tw (DL.tl text) := by
  refine decide_eq_decide.mpr ?_
  rw [str_eq_iff, show DL.tl (PySem.Str.ofString " D") = [32, 68] from rfl]
  show DL.tl (cutS text (some (-2)) none) = _ ↔ _
  rw [cutS_tl, (cutm2 _).1]
def base (text : Str) : Str := if tw (DL.tl text) = true then (cutS text none (some (-(2 : Int)))) else text
theorem base_tl (text : Str) : DL.tl (base text) = if tw (DL.tl text) = true then (DL.tl text).take ((DL.tl text).length - 2) else DL.tl text := by
  unfold base
  split
  · show DL.tl (cutS text none (some (-2))) = _
    rw [cutS_tl, (cutm2 _).2]
  · rfl
theorem words_tl (x : Str) : (Txt.split x dot).map DL.tl = sp1 46 (DL.tl x) := split_tl (by decide) dot_tl x
theorem read_T (text : Str) : T_read_measure text = RM (DL.tl text) := by
  have e : T_read_measure text = (if (!(List.all (List.map (fun (word_ : Str) => (T_is_line word_)) (Txt.split (base text) dot)) id)) = true then none else (if tw (DL.tl text) = true then some ((Txt.split (base text) dot).map intT ++ (Txt.split (base text) dot).map intT) else some ((Txt.split (base text) dot).map intT))) := by
    unfold T_read_measure
    simp only [lt_app]
    rw [tw_T]
    rfl
  rw [e]
  unfold RM
  rw [← base_tl, ← words_tl, lins_words, List.all_map]
  have c : (fun x => id ((fun (word_ : Str) => (T_is_line word_)) x)) = fun w : Str => (lin (DL.tl w)).isSome := by funext w; exact line_T w
  show (if (!((Txt.split (base text) dot).all (fun x => id ((fun (word_ : Str) => (T_is_line word_)) x)))) = true then none else _) = _
  rw [c]
  by_cases h : ((Txt.split (base text) dot).all fun w => (lin (DL.tl w)).isSome) = true
  · rw [h, if_pos rfl, if_neg (by decide)]
    split
    · rename_i z; simp [z]
    · rename_i z; simp [z]
  · have h : ((Txt.split (base text) dot).all fun w => (lin (DL.tl w)).isSome) = false := by simpa using h
    rw [h, if_pos (show (!false) = true by decide), if_neg Bool.false_ne_true]
    rfl
theorem in_split {x w : Str} (h : w ∈ Txt.split x dot) : w.length ≤ x.length := by
  rw [str_len, str_len]
  show (DL.tl w).length ≤ (DL.tl x).length
  exact sp1_sub 46 _ _ (by rw [← words_tl]; exact List.mem_map.mpr ⟨w, h, rfl⟩)
theorem split_len (x : Str) : (Txt.split x dot).length ≤ x.length + 1 := by
  have := congrArg List.length (words_tl x)
  rw [List.length_map] at this
  rw [this, str_len]
  exact sp1_len 46 _
theorem base_len (text : Str) : (base text).length ≤ text.length := by
  rw [str_len, str_len]
  show (DL.tl (base text)).length ≤ (DL.tl text).length
  rw [base_tl]
  split
  · rw [List.length_take]; omega
  · exact Nat.le_refl _
theorem split_ok {x : Str} (h : x.length ≤ 100000) : splitOk x dot ∧ splitOk x spc := ⟨⟨by decide, by omega⟩, ⟨by decide, by omega⟩⟩
theorem read_S {text : Str} (h : text.length ≤ 100000) : S_read_measure text := by
  have bl := base_len text
  refine ⟨by omega, ?_⟩
  show lt (decide ((cutS text (some (-(2 : Int))) none) = (PySem.Str.ofString " D"))) _
  rw [tw_T]
  simp only [lt_app]
  have sl := split_len (base text)
  show ((_ → _) ∧ splitOk (base text) dot) ∧ ((Txt.split (base text) dot).length ≤ _ ∧ (∀ w, w ∈ Txt.split (base text) dot → S_is_line w)) ∧ (_ → ((Txt.split (base text) dot).length ≤ _ ∧ (∀ w, w ∈ Txt.split (base text) dot → _)) ∧ (_ → ((Txt.split (base text) dot).map intT).length + ((Txt.split (base text) dot).map intT).length ≤ _))
  refine ⟨⟨fun _ => by omega, (split_ok (by omega)).1⟩, ⟨by omega, fun w hw => line_S (by have := in_split hw; omega)⟩, fun z => ⟨⟨by omega, fun w hw => ?_⟩, fun _ => by rw [List.length_map]; omega⟩⟩
  have z : List.all (List.map (fun (word_ : Str) => (T_is_line word_)) (Txt.split (base text) dot)) id = true := by
    cases q : List.all (List.map (fun (word_ : Str) => (T_is_line word_)) (Txt.split (base text) dot)) id with
    | true => rfl
    | false => exact absurd (show (!(List.all (List.map (fun (word_ : Str) => (T_is_line word_)) (Txt.split (base text) dot)) id)) = false from z) (by rw [q]; decide)
  rw [List.all_map] at z
  have := List.all_eq_true.mp z w hw
  have this : T_is_line w = true := this
  rw [line_T] at this
  obtain ⟨a, b, _⟩ := line_int this
  exact ⟨a, b⟩
/-! the law's reading -/
theorem bad_word (w : Str) : ((decide (w = (PySem.Str.ofString ""))) || ((decide ((30 : Int) < ((Str.length w : Nat) : Int))) || ((decide ((chZ w (0 : Int)) = (PySem.Str.ofString "0"))) || (decide ((0 : Int) < ((List.length (List.map (fun (sign_ : Str) => sign_) (List.filter (fun (sign_ : Str) => (!inS sign_ (PySem.Str.ofString "0123456789"))) (charsT w))) : Nat) : Int)))))) = !(lin (DL.tl w)).isSome := by
  rw [← line_T]
  unfold T_is_line
  rw [all_dig, none_ndig]
  have e1 : decide (w = PySem.Str.ofString "") = !decide ((0 : Int) < ((Str.length w : Nat) : Int)) := by
    rw [← decide_not]
    refine decide_eq_decide.mpr ?_
    rw [str_empty_iff, str_len]
    show DL.tl w = [] ↔ ¬ (0 : Int) < ((DL.tl w).length : Nat)
    cases DL.tl w with
    | nil => simp
    | cons a l => simp <;> omega
  have e2 : decide ((30 : Int) < ((Str.length w : Nat) : Int)) = !decide (((Str.length w : Nat) : Int) ≤ 30) := by
    rw [← decide_not]
    exact decide_eq_decide.mpr (by omega)
  rw [e1, e2]
  cases decide ((0 : Int) < ((Str.length w : Nat) : Int)) <;> cases decide (((Str.length w : Nat) : Int) ≤ 30) <;> cases decide ((chZ w (0 : Int)) = (PySem.Str.ofString "0")) <;> cases (DL.tl w).all isDig <;> rfl
def resL (fd : List Int) : Option (List Int) → Ctl (List Int) (Option (List Int))
  | none => .rt none
  | some l => .nx (fd ++ l)
theorem loop_lines : ∀ (ws : List Str) (fd : List Int), loopC T__law_read_l1 fd ws = resL fd (lins (ws.map DL.tl))
  | [], fd => by show Ctl.nx fd = Ctl.nx (fd ++ []); rw [List.append_nil]
  | w :: r, fd => by
    have st : T__law_read_l1 fd w = if (!(lin (DL.tl w)).isSome) = true then .rt none else .nx (fd ++ [intT w]) := by
      unfold T__law_read_l1
      rw [bad_word]
      rfl
    unfold loopC
    rw [st, List.map_cons]
    unfold lins
    cases h : lin (DL.tl w) with
    | none => rfl
    | some n =>
      have e := (line_int (w := w) (by rw [h]; rfl)).2.2
      rw [h] at e
      have e := Option.some.inj e
      subst e
      show loopC T__law_read_l1 (fd ++ [intT w]) r = resL fd ((lins (r.map DL.tl)).map fun t => intT w :: t)
      rw [loop_lines r]
      cases lins (r.map DL.tl) with
      | none => rfl
      | some l => show Ctl.nx ((fd ++ [intT w]) ++ l) = Ctl.nx (fd ++ intT w :: l); simp
theorem rep1 (l : List Int) : rep 1 l = l := by unfold rep; simp
theorem rep2 (l : List Int) : rep 2 l = l ++ l := by unfold rep; simp
theorem lread_T (text : Str) : T__law_read text = LR (DL.tl text) := by
  have ws : (Txt.split text spc).map DL.tl = sp1 32 (DL.tl text) := split_tl (by decide) spc_tl text
  unfold T__law_read LR
  simp only [lt_app]
  show (if ((decide ((2 : Int) < ((List.length (Txt.split text spc) : Nat) : Int))) || ((decide (((List.length (Txt.split text spc) : Nat) : Int) = (2 : Int))) && (!decide ((atZ (Txt.split text spc) (1 : Int)) = (PySem.Str.ofString "D"))))) = true then none else ctl (loopC T__law_read_l1 [] (Txt.split (atZ (Txt.split text spc) 0) dot)) (fun v => v) (fun found_ => some (rep ((List.length (Txt.split text spc) : Nat) : Int) found_))) = _
  rw [← ws]
  have wn : Txt.split text spc ≠ [] := fun e => by
    rw [e] at ws
    exact sp1_ne 32 _ ws.symm
  clear ws
  generalize Txt.split text spc = W at *
  match W, wn with
  | [], h => exact absurd rfl h
  | [w], _ =>
    show ctl (loopC T__law_read_l1 [] (Txt.split w dot)) (fun v => v) (fun f => some (rep 1 f)) = lins (sp1 46 (DL.tl w))
    rw [loop_lines, words_tl]
    cases lins (sp1 46 (DL.tl w)) with
    | none => rfl
    | some l => show some (rep 1 ([] ++ l)) = _; rw [rep1]; rfl
  | [w, d], _ =>
    show (if (false || (true && !decide (d = PySem.Str.ofString "D"))) = true then none else ctl (loopC T__law_read_l1 [] (Txt.split w dot)) (fun v => v) (fun f => some (rep 2 f))) = if DL.tl d = [68] then (lins (sp1 46 (DL.tl w))).map fun l => l ++ l else none
    have e : d = PySem.Str.ofString "D" ↔ DL.tl d = [68] := str_eq_iff
    by_cases h : DL.tl d = [68]
    · rw [if_pos h, decide_eq_true (e.mpr h), if_neg (by decide), loop_lines, words_tl]
      cases lins (sp1 46 (DL.tl w)) with
      | none => rfl
      | some l => show some (rep 2 ([] ++ l)) = _; rw [rep2]; rfl
    · rw [if_neg h, decide_eq_false (fun z => h (e.mp z)), if_pos (show (false || true && !false) = true by decide)]
  | a :: b :: c :: r, _ =>
    rw [if_pos (by
      have : decide ((2 : Int) < (((a :: b :: c :: r).length : Nat) : Int)) = true := decide_eq_true (by simp; omega)
      rw [this]; rfl)]
    rfl
theorem both_read (text : Str) : T__law_read text = T_read_measure text := by rw [lread_T, read_T, read_eq]
theorem lread_S {text : Str} (h : text.length ≤ 100000) : S__law_read text := by
  have ws : (Txt.split text spc).map DL.tl = sp1 32 (DL.tl text) := split_tl (by decide) spc_tl text
  have wl : ∀ w, w ∈ Txt.split text spc → w.length ≤ text.length := fun w hw => by
    rw [str_len, str_len]
    show (DL.tl w).length ≤ (DL.tl text).length
    exact sp1_sub 32 _ _ (by rw [← ws]; exact List.mem_map.mpr ⟨w, hw, rfl⟩)
  have wn : Txt.split text spc ≠ [] := fun e => by
    rw [e] at ws
    exact sp1_ne 32 _ ws.symm
  have w0 : ixOk (Txt.split text spc) 0 := ixOk_pos (by decide) (by have := List.length_pos_iff.mpr wn; omega)
  have sl : (Txt.split text spc).length ≤ 100001 := by
    have := congrArg List.length ws
    rw [List.length_map] at this
    rw [this]
    have := sp1_len 32 (DL.tl text)
    have e : text.length = (DL.tl text).length := str_len text
    omega
  refine ⟨(split_ok h).2, ?_⟩
  show lt (Txt.split text spc) _
  simp only [lt_app]
  have l0 := wl _ (atZ_mem w0)
  have dl := split_len (atZ (Txt.split text spc) 0)
  refine ⟨fun _ z => ixOk_pos (by decide) (by have := of_decide_eq_true z; omega), fun z => ?_⟩
  refine ⟨⟨w0, (split_ok (by omega)).1⟩, ?_, ?_⟩
  · have key : ∀ (r p : List Str), p ++ r = Txt.split (atZ (Txt.split text spc) 0) dot → ∀ fd : List Int, fd.length ≤ p.length → loopS S__law_read_l1 T__law_read_l1 fd r := by
      intro r
      induction r with
      | nil => intro p _ fd _; trivial
      | cons w r ih =>
        intro p hp fd hf
        have hw : w ∈ Txt.split (atZ (Txt.split text spc) 0) dot := by rw [← hp]; simp
        have w1 := in_split hw
        have pl : p.length ≤ 100001 := by
          have := congrArg List.length hp
          rw [List.length_append] at this
          omega
        refine ⟨⟨fun q => ⟨by omega, fun _ => ⟨⟨?_, by omega⟩, fun _ => by unfold charsT; rw [List.length_map]; have e : w.length = (DL.tl w).length := str_len w; show (DL.tl w).length ≤ _; omega⟩⟩, fun q => ?_⟩, ?_⟩
        · have q := of_decide_eq_false q
          rw [str_empty_iff] at q
          have : 0 < (DL.tl w).length := List.length_pos_iff.mpr q
          exact ixOk_pos (by decide) (by show (0 : Int) < ((DL.tl w).length : Nat); omega)
        · rw [bad_word] at q
          obtain ⟨a, b, _⟩ := line_int (w := w) (by simpa using q)
          exact ⟨⟨a, b⟩, by omega⟩
        · have st : T__law_read_l1 fd w = if (!(lin (DL.tl w)).isSome) = true then .rt none else .nx (fd ++ [intT w]) := by
            unfold T__law_read_l1
            rw [bad_word]
            rfl
          rw [st]
          split
          · rename_i s' e
            split at e
            · cases e
            · cases e
              exact ih (p ++ [w]) (by rw [← hp]; simp) _ (by simp; omega)
          · trivial
    exact key _ [] rfl [] (Nat.le_refl _)
  · show ctlS (loopC T__law_read_l1 [] (Txt.split (atZ (Txt.split text spc) 0) dot)) _
    rw [loop_lines, lins_words]
    split
    · show repOk ([] ++ (Txt.split (atZ (Txt.split text spc) 0) dot).map intT).length ((List.length (Txt.split text spc) : Nat) : Int) = true
      have two : (Txt.split text spc).length ≤ 2 := by
        rw [Bool.or_eq_false_iff] at z
        have := of_decide_eq_false z.1
        omega
      rw [List.nil_append, List.length_map]
      unfold repOk
      rw [Bool.and_eq_true, Nat.ble_eq, Nat.ble_eq]
      refine ⟨by omega, ?_⟩
      rw [Int.toNat_natCast]
      exact Nat.le_trans (Nat.mul_le_mul (show _ ≤ 100001 by omega) two) (by decide)
    · trivial
end K90
namespace K90
open PySem DL PyProof.Rows L2
/-! what is read -/
def Gd (n : Int) : Prop := 1 ≤ n ∧ n < 10 ^ 30
theorem dv_bd : ∀ (w : List Nat) (acc : Nat), w.all isDig = true → acc * 10 ^ w.length ≤ w.foldl (fun acc c => acc * 10 + (c - 48)) acc ∧ w.foldl (fun acc c => acc * 10 + (c - 48)) acc < (acc + 1) * 10 ^ w.length
  | [], acc, _ => by simp
  | c :: r, acc, h => by
    rw [List.all_cons, Bool.and_eq_true] at h
    have hc : 48 ≤ c ∧ c ≤ 57 := by
      have := h.1
      unfold isDig at this
      rw [Bool.and_eq_true, decide_eq_true_iff, decide_eq_true_iff] at this
      exact this
    obtain ⟨a, b⟩ := dv_bd r (acc * 10 + (c - 48)) h.2
    rw [List.foldl_cons, List.length_cons, Nat.pow_succ]
    constructor
    · refine Nat.le_trans ?_ a
      rw [show acc * (10 ^ r.length * 10) = (acc * 10) * 10 ^ r.length by ac_rfl]
      exact Nat.mul_le_mul_right _ (by omega)
    · refine Nat.lt_of_lt_of_le b ?_
      rw [show (acc + 1) * (10 ^ r.length * 10) = ((acc + 1) * 10) * 10 ^ r.length by ac_rfl]
      exact Nat.mul_le_mul_right _ (by omega)
theorem lin_good {w : List Nat} {n : Int} (h : lin w = some n) : Gd n := by
  obtain ⟨a, b, c, d, e⟩ := lin_some h
  cases w with
  | nil => exact absurd rfl b
  | cons x r =>
    have x48 : x ≠ 48 := d
    rw [List.all_cons, Bool.and_eq_true] at a
    have hx : 48 ≤ x ∧ x ≤ 57 := by
      have := a.1
      unfold isDig at this
      rw [Bool.and_eq_true, decide_eq_true_iff, decide_eq_true_iff] at this
      exact this
    have hv : NumText.digitsVal (x :: r) = r.foldl (fun acc c => acc * 10 + (c - 48)) (0 * 10 + (x - 48)) := rfl
    obtain ⟨p, q⟩ := dv_bd r (0 * 10 + (x - 48)) a.2
    have pos : 0 < 10 ^ r.length := Nat.pow_pos (by decide)
    have lo : 1 * 10 ^ r.length ≤ (0 * 10 + (x - 48)) * 10 ^ r.length := Nat.mul_le_mul_right _ (by omega)
    have hi : (0 * 10 + (x - 48) + 1) * 10 ^ r.length ≤ 10 * 10 ^ r.length := Nat.mul_le_mul_right _ (by omega)
    have len : r.length ≤ 29 := by simp at c; omega
    have pw : 10 * 10 ^ r.length ≤ 10 ^ 30 := by
      rw [show 10 * 10 ^ r.length = 10 ^ (r.length + 1) by rw [Nat.pow_succ]; omega]
      exact Nat.pow_le_pow_right (by decide) (by omega)
    rw [e, hv]
    constructor
    · omega
    · have : r.foldl (fun acc c => acc * 10 + (c - 48)) (0 * 10 + (x - 48)) < 10 ^ 30 := by omega
      have e30 : (10 : Int) ^ 30 = ((10 ^ 30 : Nat) : Int) := by decide
      rw [e30]
      exact Int.ofNat_lt.mpr this
theorem lins_good : ∀ {ws : List (List Nat)} {l : List Int}, lins ws = some l → l.length = ws.length ∧ ∀ n, n ∈ l → Gd n
  | [], l, h => by cases h; exact ⟨rfl, fun n hn => by cases hn⟩
  | w :: r, l, h => by
    unfold lins at h
    cases e : lin w with
    | none => rw [e] at h; cases h
    | some n =>
      rw [e] at h
      obtain ⟨t, h1, rfl⟩ := Option.map_eq_some_iff.mp h
      obtain ⟨a, b⟩ := lins_good h1
      refine ⟨by simp [a], fun m hm => ?_⟩
      rcases List.mem_cons.mp hm with rfl | hm
      · exact lin_good e
      · exact b m hm
theorem read_good {text : Str} {l : List Int} (h : T_read_measure text = some l) : l ≠ [] ∧ l.length ≤ 2 * (text.length + 1) ∧ ∀ n, n ∈ l → Gd n := by
  rw [read_T] at h
  unfold RM at h
  rw [← base_tl] at h
  obtain ⟨t, h1, h2⟩ := Option.map_eq_some_iff.mp h
  obtain ⟨a, b⟩ := lins_good h1
  have n0 := sp1_ne 46 (DL.tl (base text))
  have n1 := List.length_pos_iff.mpr n0
  have n2 := sp1_len 46 (DL.tl (base text))
  have bl := base_len text
  have e : (base text).length = (DL.tl (base text)).length := str_len _
  have tne : t ≠ [] := fun z => by rw [z] at a; simp at a; omega
  by_cases w : tw (DL.tl text) = true
  · rw [if_pos w] at h2
    subst h2
    exact ⟨by simp [tne], by rw [List.length_append]; omega, fun n hn => b n ((List.mem_append.mp hn).elim id id)⟩
  · rw [if_neg w] at h2
    subst h2
    exact ⟨tne, by omega, b⟩
structure Hy (q : List Str) : Prop where
  n : q.length ≤ 50
  t : ∀ x, x ∈ q → x.length ≤ 10000
theorem uniq_snoc {α : Type} [DecidableEq α] (l : List α) (x : α) : uniqT (l ++ [x]) = if x ∈ uniqT l then uniqT l else uniqT l ++ [x] := by
  unfold uniqT; rw [List.foldl_append]; rfl
theorem uniq_len {α : Type} [DecidableEq α] (l : List α) : (uniqT l).length ≤ l.length := (uniq_nd l).length_le_of_subset fun x hx => (uniq_mem l).mp hx
section
variable {κ β α : Type} [DecidableEq κ]
theorem mget_map (g : κ → β) (k : κ) : ∀ ks : List κ, mget (ks.map fun x => (x, g x)) k = if k ∈ ks then some (g k) else none
  | [] => rfl
  | x :: ks => by
    show (if x = k then some (g x) else mget (ks.map fun x => (x, g x)) k) = _
    by_cases h : x = k
    · subst h; rw [if_pos rfl, if_pos List.mem_cons_self]
    · rw [if_neg h, mget_map g k ks]
      by_cases m : k ∈ ks
      · rw [if_pos m, if_pos (List.mem_cons_of_mem _ m)]
      · rw [if_neg m, if_neg (fun z => (List.mem_cons.mp z).elim (fun e => h e.symm) m)]
theorem mput_map (g : κ → β) (k : κ) (v : β) (ks : List κ) : mput (ks.map fun x => (x, g x)) k v = if k ∈ ks then ks.map (fun x => (x, if x = k then v else g x)) else ks.map (fun x => (x, g x)) ++ [(k, v)] := by
  unfold mput
  rw [mget_map]
  by_cases m : k ∈ ks
  · rw [if_pos m, if_pos m, if_pos (show (some (g k)).isSome = true from rfl), List.map_map]
    refine List.map_congr_left fun x _ => ?_
    show (if x = k then (x, v) else (x, g x)) = _
    by_cases h : x = k
    · rw [if_pos h, if_pos h]
    · rw [if_neg h, if_neg h]
  · rw [if_neg m, if_neg m, if_neg (by simp)]
theorem grp_step {f : α → κ} {P : List α → κ → β} {up : β → β} {z : β} (l : List α) (x : α) (h1 : f x ∉ l.map f → P l (f x) = z) (h2 : ∀ k, P (l ++ [x]) k = if f x = k then up (P l k) else P l k) :
    mput ((uniqT (l.map f)).map fun k => (k, P l k)) (f x) (up ((mget ((uniqT (l.map f)).map fun k => (k, P l k)) (f x)).getD z)) = (uniqT ((l ++ [x]).map f)).map fun k => (k, P (l ++ [x]) k) := by
  rw [mget_map, mput_map, List.map_append, List.map_singleton, uniq_snoc]
  by_cases m : f x ∈ uniqT (l.map f)
  · rw [if_pos m, if_pos m, if_pos m]
    refine List.map_congr_left fun k _ => ?_
    rw [h2]
    by_cases e : f x = k
    · subst e; rw [if_pos rfl, if_pos rfl]; rfl
    · rw [if_neg e, if_neg (fun y => e y.symm)]
  · rw [if_neg m, if_neg m, if_neg m, List.map_append]
    congr 1
    · refine List.map_congr_left fun k hk => ?_
      rw [h2, if_neg (fun y : f x = k => m (by rw [y]; exact hk))]
    · rw [List.map_singleton, h2, if_pos rfl, h1 (fun y => m ((uniq_mem _).mpr y))]
      rfl
end
def nums (q : List Str) : List Int := rg1 ((q.length : Nat) : Int)
theorem nums_in {q : List Str} {i : Int} (h : i ∈ nums q) : ixOk q i := let ⟨a, b⟩ := mem_rg1.mp h; ixOk_pos a b
def sp (q : List Str) (i : Int) : Option (List Int) := T_read_measure (atZ q i)
def fs (q : List Str) (i : Int) : List Int := (sp q i).getD default
def told (q : List Str) (l : List Int) : List Int := l.filter fun i => !decide (sp q i = none)
def P (q : List Str) (l : List Int) (s : List Int) : List Int := l.filter fun i => decide (fs q i = s)
def FS (q : List Str) (l : List Int) : List (List Int × List Int) := (uniqT ((told q l).map (fs q))).map fun s => (s, P q (told q l) s)
theorem P_snoc (q : List Str) (l : List Int) (x : Int) (s : List Int) : P q (l ++ [x]) s = if fs q x = s then P q l s ++ [x] else P q l s := by
  unfold P
  rw [List.filter_append]
  by_cases h : fs q x = s
  · rw [if_pos h, List.filter_cons_of_pos (by simp [h])]; rfl
  · rw [if_neg h, List.filter_cons_of_neg (by simp [h])]; simp
theorem P_nil (q : List Str) (l : List Int) (s : List Int) (h : s ∉ l.map (fs q)) : P q l s = [] := by
  unfold P
  rw [List.filter_eq_nil_iff]
  intro i hi e
  exact h (List.mem_map.mpr ⟨i, hi, of_decide_eq_true e⟩)
theorem told_snoc (q : List Str) (l : List Int) (x : Int) : told q (l ++ [x]) = if sp q x = none then told q l else told q l ++ [x] := by
  unfold told
  rw [List.filter_append]
  by_cases h : sp q x = none
  · rw [if_pos h, List.filter_cons_of_neg (by simp [h])]; simp
  · rw [if_neg h, List.filter_cons_of_pos (by simp [h])]; rfl
theorem by_step (q : List Str) (l : List Int) (x : Int) : T_by_measure_l1 q (FS q l) x = FS q (l ++ [x]) := by
  unfold T_by_measure_l1
  simp only [lt_app]
  show (if (!decide (sp q x = none)) = true then mput (FS q l) (fs q x) (((mget (FS q l) (fs q x)).getD []) ++ [x]) else FS q l) = _
  unfold FS
  rw [told_snoc]
  by_cases h : sp q x = none
  · rw [if_pos h, if_neg (by simp [h])]
  · rw [if_neg h, if_pos (by simp [h])]
    exact grp_step (f := fs q) (P := P q) (up := fun r => r ++ [x]) (z := []) (told q l) x (P_nil q _ _) (P_snoc q _ x)
theorem FS_len (q : List Str) (l : List Int) : (FS q l).length ≤ l.length := by
  unfold FS
  rw [List.length_map]
  refine Nat.le_trans (uniq_len _) ?_
  rw [List.length_map]
  exact List.length_filter_le _ _
theorem FS_get (q : List Str) (l : List Int) (s : List Int) : ((mget (FS q l) s).getD []).length ≤ l.length := by
  unfold FS
  rw [mget_map]
  split
  · exact Nat.le_trans (List.length_filter_le _ _) (List.length_filter_le _ _)
  · exact Nat.zero_le _
theorem by_fold {q : List Str} (Q : Hy q) : foldS (S_by_measure_l1 q) (T_by_measure_l1 q) [] (nums q) ∧ (nums q).foldl (T_by_measure_l1 q) [] = FS q (nums q) := by
  have nl : (nums q).length ≤ 50 := by unfold nums; rw [len_rg1]; exact Q.n
  refine ⟨foldS_of (FS q) _ rfl fun p x r e => ⟨?_, by_step q p x⟩, foldl_of (FS q) _ rfl fun p x r _ => by_step q p x⟩
  have pl' : p.length ≤ 50 := by have := congrArg List.length e; simp at this; omega
  have xi : ixOk q x := nums_in (by rw [e]; simp)
  refine ⟨⟨xi, read_S (by have := Q.t _ (atZ_mem xi); omega)⟩, fun z => ?_⟩
  have z : sp q x ≠ none := fun e => by
    rw [show T_read_measure (atZ q x) = none from e] at z
    simp at z
  have g := FS_get q p (fs q x)
  have f := FS_len q p
  exact ⟨⟨z, by show ((mget (FS q p) (fs q x)).getD []).length + 1 ≤ _; omega⟩, z, by omega⟩
def nam (q : List Str) : List (List Int) := sortT (ltL ltI) (uniqT ((told q (nums q)).map (fs q)))
theorem by_T {q : List Str} (Q : Hy q) : T_by_measure q = (nam q).map fun s => (s, P q (told q (nums q)) s) := by
  show (sortT (ltL ltI) (mkeys ((nums q).foldl (T_by_measure_l1 q) []))).map (fun s => (s, ((mget ((nums q).foldl (T_by_measure_l1 q) []) s).getD default))) = _
  rw [(by_fold Q).2]
  have mk : mkeys (FS q (nums q)) = uniqT ((told q (nums q)).map (fs q)) := by
    unfold mkeys FS
    rw [List.map_map]
    exact List.map_id'' (fun x => rfl) _
  rw [mk]
  refine List.map_congr_left fun s hs => ?_
  have hs : s ∈ uniqT ((told q (nums q)).map (fs q)) := (sort_mem (ltL ltI)).mp hs
  unfold FS
  rw [mget_map, if_pos hs]
  rfl
theorem nam_len (q : List Str) : (nam q).length ≤ q.length := by
  unfold nam
  rw [(sort_perm _ _).length_eq]
  refine Nat.le_trans (uniq_len _) ?_
  rw [List.length_map]
  refine Nat.le_trans (List.length_filter_le _ _) ?_
  unfold nums; rw [len_rg1]; exact Nat.le_refl _
theorem by_S {q : List Str} (Q : Hy q) : S_by_measure q := by
  have hq := Q.n
  refine ⟨bndZ_len (by omega), (by_fold Q).1, ?_⟩
  show lt ((nums q).foldl (T_by_measure_l1 q) []) _
  rw [(by_fold Q).2]
  simp only [lt_app]
  have mk : mkeys (FS q (nums q)) = uniqT ((told q (nums q)).map (fs q)) := by
    unfold mkeys FS
    rw [List.map_map]
    exact List.map_id'' (fun x => rfl) _
  have l := FS_len q (nums q)
  have nl : (nums q).length = q.length := by unfold nums; rw [len_rg1]
  have nn := nam_len q
  rw [mk]
  refine ⟨fun x hx => ?_, by show (nam q).length ≤ _; omega, fun s hs => ?_⟩
  · obtain ⟨i, hi, rfl⟩ := List.mem_map.mp ((uniq_mem _).mp hx)
    have h2 := (List.mem_filter.mp hi).2
    unfold fs
    cases e : sp q i with
    | none => rw [e] at h2; simp at h2
    | some l => exact (read_good e).1
  have hs : s ∈ uniqT ((told q (nums q)).map (fs q)) := (sort_mem (ltL ltI)).mp hs
  unfold FS
  rw [mget_map, if_pos hs]
  simp
end K90
namespace K90
open PySem DL PyProof.Rows L2
/-! what is written -/
def J (l : List Int) : Str := T_written_lines l
def wn (n : Int) : Str := toString n
theorem wn_tl {n : Int} (h : Gd n) : DL.tl (wn n) = TL.numL n.toNat := tl_toStringI (by have := h.1; omega)
theorem toNat_lt {n : Int} (h : Gd n) : n.toNat < 10 ^ 30 := by
  have := h.2
  have e30 : (10 : Int) ^ 30 = ((10 ^ 30 : Nat) : Int) := by decide
  rw [e30] at this
  have h1 := h.1
  omega
theorem wn_len {n : Int} (h : Gd n) : (wn n).length ≤ 30 := by
  rw [str_len]
  show (DL.tl (wn n)).length ≤ 30
  rw [wn_tl h]
  exact TL.numL_len (by decide) (toNat_lt h)
theorem wn_lin {n : Int} (h : Gd n) : lin (DL.tl (wn n)) = some n := by
  have l := wn_len h
  have e : (wn n).length = (DL.tl (wn n)).length := str_len _
  rw [e, wn_tl h] at l
  rw [wn_tl h]
  unfold lin
  rw [numW_num (by have := h.1; omega) l]
  congr 1
  have := h.1
  omega
theorem joinL_mem {S : List Nat} {x : Nat} : ∀ {ps : List (List Nat)}, x ∈ TL.joinL S ps → x ∈ S ∨ ∃ p, p ∈ ps ∧ x ∈ p
  | [], h => by cases h
  | [p], h => .inr ⟨p, by simp, h⟩
  | p :: q :: r, h => by
    rcases List.mem_append.mp (show x ∈ p ++ (S ++ TL.joinL S (q :: r)) from h) with z | z
    · exact .inr ⟨p, by simp, z⟩
    · rcases List.mem_append.mp z with z | z
      · exact .inl z
      · rcases joinL_mem z with y | ⟨w, h1, h2⟩
        · exact .inl y
        · exact .inr ⟨w, List.mem_cons_of_mem _ h1, h2⟩
theorem joinL_len {S : List Nat} {k : Nat} : ∀ {ps : List (List Nat)}, (∀ p, p ∈ ps → p.length ≤ k) → (TL.joinL S ps).length ≤ ps.length * (k + S.length)
  | [], _ => Nat.zero_le _
  | [p], h => by have := h p (by simp); show p.length ≤ 1 * _; omega
  | p :: q :: r, h => by
    have ih := joinL_len (S := S) (k := k) (ps := q :: r) fun p hp => h p (List.mem_cons_of_mem _ hp)
    have := h p (by simp)
    show (p ++ (S ++ TL.joinL S (q :: r))).length ≤ _
    rw [List.length_append, List.length_append, List.length_cons, Nat.add_mul]
    omega
def GL (l : List Int) : Prop := l ≠ [] ∧ ∀ n, n ∈ l → Gd n
theorem J_tl (l : List Int) : DL.tl (J l) = TL.joinL [46] (l.map fun n => DL.tl (wn n)) := by
  show DL.tl (Txt.join dot (l.map wn)) = _
  rw [show DL.tl (Txt.join dot (l.map wn)) = TL.joinL dot.cps.toList ((l.map wn).map fun y => y.cps.toList) from join_tl _ _, List.map_map]
  rfl
theorem J_free {l : List Int} (g : ∀ n, n ∈ l → Gd n) : 32 ∉ DL.tl (J l) := fun h => by
  rw [J_tl] at h
  rcases joinL_mem h with z | ⟨p, hp, z⟩
  · simp at z
  · obtain ⟨n, hn, rfl⟩ := List.mem_map.mp hp
    rw [wn_tl (g n hn)] at z
    exact TL.numL_free (by decide) z
theorem J_len {l : List Int} (g : ∀ n, n ∈ l → Gd n) : (J l).length ≤ l.length * 31 := by
  rw [str_len]
  show (DL.tl (J l)).length ≤ _
  rw [J_tl]
  have := joinL_len (S := [46]) (k := 30) (ps := l.map fun n => DL.tl (wn n)) fun p hp => by
    obtain ⟨n, hn, rfl⟩ := List.mem_map.mp hp
    have := wn_len (g n hn)
    rw [str_len] at this
    exact this
  rw [List.length_map] at this
  exact this
theorem J_split {l : List Int} (g : GL l) : Txt.split (J l) dot = l.map wn := by
  refine split_join1 (c := 46) (by decide) (by simp [g.1]) (fun p hp => ?_) dot_tl
  obtain ⟨n, hn, rfl⟩ := List.mem_map.mp hp
  show 46 ∉ DL.tl (wn n)
  rw [wn_tl (g.2 n hn)]
  exact TL.numL_free (by decide)
theorem J_sp {l : List Int} (g : GL l) : sp1 46 (DL.tl (J l)) = l.map fun n => DL.tl (wn n) := by
  rw [← words_tl, J_split g, List.map_map]
  rfl
theorem lins_nums : ∀ {l : List Int}, (∀ n, n ∈ l → Gd n) → lins (l.map fun n => DL.tl (wn n)) = some l
  | [], _ => rfl
  | n :: l, g => by
    show (match lin (DL.tl (wn n)) with | none => none | some m => (lins (l.map fun n => DL.tl (wn n))).map fun t => m :: t) = _
    rw [wn_lin (g n (by simp)), lins_nums fun m hm => g m (List.mem_cons_of_mem _ hm)]
    rfl
theorem read_J {l : List Int} (g : GL l) : T_read_measure (J l) = some l := by
  rw [read_T]
  unfold RM
  have t : tw (DL.tl (J l)) = false := by
    rw [Bool.eq_false_iff]
    intro z
    obtain ⟨a, e⟩ := (tw_iff _).mp z
    exact J_free g.2 (by rw [e]; simp)
  rw [t, if_neg (by decide), J_sp g, lins_nums g.2]
  rfl
def dd : Str := PySem.Str.ofString " D"
theorem JD_tl (l : List Int) : DL.tl (J l ++ dd) = DL.tl (J l) ++ [32, 68] := str_app _ _
theorem read_JD {l : List Int} (g : GL l) : T_read_measure (J l ++ dd) = some (l ++ l) := by
  rw [read_T]
  unfold RM
  rw [JD_tl, (tw_iff _).mpr ⟨_, rfl⟩, if_pos rfl, tw_take, J_sp g, lins_nums g.2]
  rfl
/-! halves -/
def H (l : List Int) : List Int := l.take (l.length / 2)
def twice (l : List Int) : Bool := decide (1 < l.length / 2) && decide (l = H l ++ H l)
theorem half_cut (l : List Int) : cutD l none (some (((l.length : Nat) : Int) / 2)) = H l ∧ cutD l (some (((l.length : Nat) : Int) / 2)) none = l.drop (l.length / 2) := by
  rw [cut_take (by omega), cut_drop (by omega)]
  have : (((l.length : Nat) : Int) / 2).toNat = l.length / 2 := by omega
  rw [this]
  exact ⟨rfl, rfl⟩
theorem half_T (l : List Int) : T_half_of l = if twice l = true then some (H l) else none := by
  unfold T_half_of
  simp only [lt_app]
  rw [(half_cut l).1]
  have : decide ((1 : Int) < ((l.length : Nat) : Int) / 2) = decide (1 < l.length / 2) := decide_eq_decide.mpr (by omega)
  rw [this]
  rfl
theorem half_sym (l : List Int) : (l = H l ++ H l) ↔ H l = l.drop (l.length / 2) := by
  constructor
  · intro h
    have e : l = l.take (l.length / 2) ++ l.drop (l.length / 2) := (List.take_append_drop _ _).symm
    have : H l ++ H l = H l ++ l.drop (l.length / 2) := h.symm.trans e
    exact List.append_cancel_left this
  · intro h
    conv => lhs; rw [← List.take_append_drop (l.length / 2) l]
    rw [← h]; rfl
theorem written_T (l : List Int) : T_written_measure l = if twice l = true then J (H l) ++ dd else J l := by
  unfold T_written_measure
  rw [half_T]
  simp only [lt_app]
  by_cases h : twice l = true
  · rw [if_pos h, if_pos h]; rfl
  · rw [if_neg h, if_neg h]; rfl
theorem text_T (l : List Int) : T__law_text l = T_written_measure l := by
  rw [written_T]
  unfold T__law_text
  simp only [lt_app]
  rw [(half_cut l).1, (half_cut l).2]
  have e : (decide ((1 : Int) < ((l.length : Nat) : Int) / 2) && decide (H l = l.drop (l.length / 2))) = twice l := by
    unfold twice
    rw [show decide ((1 : Int) < ((l.length : Nat) : Int) / 2) = decide (1 < l.length / 2) from decide_eq_decide.mpr (by omega), decide_eq_decide.mpr (half_sym l).symm]
  rw [e]
  rfl
theorem H_good {l : List Int} (g : GL l) (h : twice l = true) : GL (H l) := by
  unfold twice at h
  rw [Bool.and_eq_true, decide_eq_true_iff, decide_eq_true_iff] at h
  refine ⟨fun e => ?_, fun n hn => g.2 n (List.mem_of_mem_take hn)⟩
  have : (H l).length = 0 := by rw [e]; rfl
  unfold H at this
  rw [List.length_take] at this
  omega
theorem read_written {l : List Int} (g : GL l) : T_read_measure (T_written_measure l) = some l := by
  rw [written_T]
  by_cases h : twice l = true
  · rw [if_pos h, read_JD (H_good g h)]
    unfold twice at h
    rw [Bool.and_eq_true, decide_eq_true_iff, decide_eq_true_iff] at h
    rw [← h.2]
  · rw [if_neg h, read_J g]
theorem wl_S {l : List Int} (g : ∀ n, n ∈ l → Gd n) (h : l.length ≤ 30000) : ((List.length l ≤ 16777216 ∧ (∀ own_, own_ ∈ l → Nat.log2 (Int.natAbs own_) < 1920)) ∧ joinOk (PySem.Str.ofString ".") (List.map (fun (own_ : Int) => (toString own_ : Str)) l)) := by
  refine ⟨⟨by omega, fun n hn => ?_⟩, ?_⟩
  · have gn := g n hn
    have : n.natAbs < 2 ^ 100 := by
      have t := toNat_lt gn
      have e : (10 : Nat) ^ 30 < 2 ^ 100 := by decide
      have := gn.1
      omega
    exact Nat.lt_trans (PySem.Flt.log2_lt_of (by decide) this) (by decide)
  · refine joinOk_small (k := 30) (fun y hy => ?_) ?_
    · obtain ⟨n, hn, rfl⟩ := List.mem_map.mp hy
      exact wn_len (g n hn)
    · rw [List.length_map]
      show l.length * 30 + l.length * 1 ≤ _
      omega
theorem written_S {l : List Int} (g : ∀ n, n ∈ l → Gd n) (h : l.length ≤ 30000) : S_written_measure l := by
  have hl : (H l).length ≤ l.length := by unfold H; rw [List.length_take]; omega
  have hg : ∀ n, n ∈ H l → Gd n := fun n hn => g n (List.mem_of_mem_take hn)
  refine ⟨fun _ => by rw [(half_cut l).1]; omega, ?_⟩
  rw [half_T]
  simp only [lt_app]
  refine ⟨fun _ => wl_S g h, fun z => ?_⟩
  have z := of_decide_eq_false z
  by_cases q : twice l = true
  · rw [if_pos q]
    have := J_len hg
    exact ⟨⟨by simp, wl_S hg (by show (H l).length ≤ _; omega)⟩, by show (J (H l)).length + 2 ≤ _; omega⟩
  · rw [if_neg q] at z; exact absurd rfl z
theorem text_S {l : List Int} (g : ∀ n, n ∈ l → Gd n) (h : l.length ≤ 30000) : S__law_text l := by
  have hl : (H l).length ≤ l.length := by unfold H; rw [List.length_take]; omega
  have hg : ∀ n, n ∈ H l → Gd n := fun n hn => g n (List.mem_of_mem_take hn)
  show lt (((l.length : Nat) : Int) / 2) _
  simp only [lt_app]
  rw [(half_cut l).1]
  have := J_len hg
  exact ⟨fun _ => ⟨wl_S hg (by omega), by show (J (H l)).length + 2 ≤ _; omega⟩, fun _ => wl_S g h⟩
theorem written_len {l : List Int} (g : ∀ n, n ∈ l → Gd n) : (T_written_measure l).length ≤ l.length * 31 + 2 := by
  have hl : (H l).length ≤ l.length := by unfold H; rw [List.length_take]; omega
  have a := J_len g
  have b := J_len (l := H l) fun n hn => g n (List.mem_of_mem_take hn)
  have c : (H l).length * 31 ≤ l.length * 31 := Nat.mul_le_mul_right _ hl
  rw [written_T]
  split
  · rw [str_app_len]; show (J (H l)).length + 2 ≤ _; omega
  · omega
end K90
namespace K90
open PySem DL PyProof.Rows L2
/-! tunes -/
def rp (k : Nat) (t : List Int) : List Int := (List.replicate k t).flatten
theorem rep_rp (k : Nat) (t : List Int) : rep (k : Int) t = rp k t := by unfold rep rp; rw [Int.toNat_natCast]
theorem rp_succ (k : Nat) (t : List Int) : rp (k + 1) t = t ++ rp k t := by unfold rp; rw [List.replicate_succ, List.flatten_cons]
theorem rp_len (k : Nat) (t : List Int) : (rp k t).length = k * t.length := by
  induction k with
  | zero => simp [rp]
  | succ k ih => rw [rp_succ, List.length_append, ih, Nat.add_mul]; omega
theorem rp_add (a b : Nat) (t : List Int) : rp (a + b) t = rp a t ++ rp b t := by
  induction a with
  | zero => simp [rp]
  | succ a ih => rw [show a + 1 + b = (a + b) + 1 by omega, rp_succ, rp_succ, ih, List.append_assoc]
theorem rp_rp (a b : Nat) (t : List Int) : rp a (rp b t) = rp (a * b) t := by
  induction a with
  | zero => simp [rp]
  | succ a ih => rw [rp_succ, ih, Nat.add_mul, Nat.one_mul, Nat.add_comm, rp_add]
def Fit (m t : List Int) : Prop := ∃ k : Nat, 0 < k ∧ m = rp k t
theorem fit_iff {m t : List Int} (ht : t ≠ []) : T_fits_tune m t = true ↔ Fit m t := by
  have tp : 0 < t.length := List.length_pos_iff.mpr ht
  unfold T_fits_tune
  simp only [lt_app]
  have e : ((m.length : Nat) : Int) / ((t.length : Nat) : Int) = ((m.length / t.length : Nat) : Int) := (Int.natCast_ediv _ _).symm
  rw [e, rep_rp, Bool.and_eq_true, decide_eq_true_iff, decide_eq_true_iff]
  constructor
  · rintro ⟨a, b⟩
    exact ⟨_, by omega, b⟩
  · rintro ⟨k, k0, rfl⟩
    have : (rp k t).length / t.length = k := by rw [rp_len, Nat.mul_div_cancel _ tp]
    rw [this]
    exact ⟨by omega, rfl⟩
theorem fit_S {m t : List Int} (ht : t ≠ []) (hm : m.length ≤ 1000) (htl : t.length ≤ 1000) : S_fits_tune m t := by
  have tp : 0 < t.length := List.length_pos_iff.mpr ht
  have e : ((m.length : Nat) : Int) / ((t.length : Nat) : Int) = ((m.length / t.length : Nat) : Int) := (Int.natCast_ediv _ _).symm
  refine ⟨(bd_small (k := 10) (by omega) (by simp; omega)).divOk (by omega), ?_⟩
  show lt (((m.length : Nat) : Int) / ((t.length : Nat) : Int)) _
  rw [e]
  simp only [lt_app]
  intro _
  have d : m.length / t.length ≤ m.length := Nat.div_le_self _ _
  have d2 : m.length / t.length * t.length ≤ m.length := Nat.div_mul_le_self _ _
  unfold repOk
  rw [Bool.and_eq_true, Nat.ble_eq, Nat.ble_eq]
  refine ⟨by rw [Int.natAbs_natCast]; omega, ?_⟩
  rw [Int.toNat_natCast, Nat.mul_comm]
  exact Nat.le_trans d2 (Nat.le_trans hm (by decide))
/-- the law's count: the least that is long enough -/
theorem fits_w {m t : List Int} (ht : t ≠ []) : ∀ (d k : Nat), m.length ≤ k + d → ∃ j, k ≤ j ∧ (j = k ∨ t.length * (j - 1) < m.length) ∧ m.length ≤ t.length * j ∧ j ≤ max k m.length ∧ whileN (C__law_fits_w1 m t) (T__law_fits_w1 m t) d (k : Int) = (j : Int) ∧ (m.length ≤ 1000 → t.length ≤ 1000 → k ≤ 1001 → whileZ (Sc__law_fits_w1 m t) (Ss__law_fits_w1 m t) (C__law_fits_w1 m t) (T__law_fits_w1 m t) d (k : Int))
  | d, k, h => by
    have tp : 0 < t.length := List.length_pos_iff.mpr ht
    have km : k ≤ t.length * k := Nat.le_mul_of_pos_left _ tp
    have cd : C__law_fits_w1 m t (k : Int) = decide (t.length * k < m.length) := by
      unfold C__law_fits_w1
      refine decide_eq_decide.mpr ?_
      rw [show ((t.length : Nat) : Int) * (k : Int) = ((t.length * k : Nat) : Int) by rw [Int.natCast_mul]]
      omega
    have sc : m.length ≤ 1000 → t.length ≤ 1000 → k ≤ 1001 → Sc__law_fits_w1 m t (k : Int) := fun a b c => mul_ok_of (by omega) (by omega)
    by_cases c : t.length * k < m.length
    · cases d with
      | zero => omega
      | succ d =>
        obtain ⟨j, h1, h2, h3, h4, h5, h6⟩ := fits_w (m := m) ht d (k + 1) (by omega)
        refine ⟨j, by omega, .inr ?_, h3, by omega, ?_, fun a b e => ⟨sc a b e, fun _ => ⟨trivial, h6 a b (by omega)⟩⟩⟩
        · rcases h2 with h2 | h2
          · rw [h2]; simpa using c
          · exact h2
        · unfold whileN
          rw [cd, decide_eq_true c, if_pos rfl]
          exact h5
    · refine ⟨k, Nat.le_refl _, .inl rfl, by omega, by omega, ?_, fun a b e => ?_⟩
      · cases d with
        | zero => rfl
        | succ d =>
          unfold whileN
          rw [cd, decide_eq_false c, if_neg (by decide)]
      · cases d with
        | zero => exact ⟨sc a b e, by rw [cd]; exact decide_eq_false c⟩
        | succ d => exact ⟨sc a b e, fun z => by rw [cd] at z; exact absurd (of_decide_eq_true z) c⟩
theorem lfit {m t : List Int} (ht : t ≠ []) (hm : m ≠ []) : (T__law_fits m t = true ↔ Fit m t) ∧ (m.length ≤ 1000 → t.length ≤ 1000 → S__law_fits m t) := by
  have tp : 0 < t.length := List.length_pos_iff.mpr ht
  have mp : 0 < m.length := List.length_pos_iff.mpr hm
  obtain ⟨j, h1, h2, h3, h4, h5, h6⟩ := fits_w (m := m) ht (m.length + 1) 1 (by omega)
  have w : T__law_fits m t = decide (rp j t = m) := by
    show decide (rep (whileN (C__law_fits_w1 m t) (T__law_fits_w1 m t) (m.length + 1) ((1 : Nat) : Int)) t = m) = _
    rw [h5, rep_rp]
  refine ⟨?_, fun a b => ⟨h6 a b (by omega), ?_⟩⟩
  · rw [w, decide_eq_true_iff]
    constructor
    · intro e; exact ⟨j, by omega, e.symm⟩
    · rintro ⟨k, k0, e⟩
      have : j = k := by
        have le := rp_len k t
        rw [← e] at le
        rcases h2 with h2 | h2
        · rw [h2] at h3
          rw [le] at h3
          have : k ≤ 1 := by
            refine Classical.byContradiction fun z => ?_
            have : 2 * t.length ≤ k * t.length := Nat.mul_le_mul_right _ (by omega)
            omega
          omega
        · rw [le, Nat.mul_comm k] at h2 h3
          have a1 : j - 1 < k := Nat.lt_of_mul_lt_mul_left h2
          have a2 : k ≤ j := Nat.le_of_mul_le_mul_left h3 tp
          omega
      rw [this, ← e]
  · show lt (whileN (C__law_fits_w1 m t) (T__law_fits_w1 m t) (m.length + 1) ((1 : Nat) : Int)) _
    rw [h5]
    simp only [lt_app]
    unfold repOk
    rw [Bool.and_eq_true, Nat.ble_eq, Nat.ble_eq]
    refine ⟨by omega, ?_⟩
    rw [Int.toNat_natCast]
    exact Nat.le_trans (Nat.mul_le_mul b (show j ≤ 1000 by omega)) (by decide)
theorem fit_refl (m : List Int) : Fit m m := ⟨1, by decide, by simp [rp]⟩
theorem fit_two (m : List Int) : Fit (m ++ m) m := ⟨2, by decide, by simp [rp]⟩
theorem fit_trans {m t u : List Int} (h1 : Fit m t) (h2 : Fit t u) : Fit m u := by
  obtain ⟨a, a0, rfl⟩ := h1
  obtain ⟨b, b0, rfl⟩ := h2
  exact ⟨a * b, Nat.mul_pos a0 b0, rp_rp a b u⟩
theorem getD_l {a b : List Int} {i : Nat} {d : Int} (h : i < a.length) : (a ++ b).getD i d = a.getD i d := by
  rw [List.getD_eq_getElem?_getD, List.getD_eq_getElem?_getD, List.getElem?_append_left h]
theorem getD_r {a b : List Int} {i : Nat} {d : Int} (h : a.length ≤ i) : (a ++ b).getD i d = b.getD (i - a.length) d := by
  rw [List.getD_eq_getElem?_getD, List.getD_eq_getElem?_getD, List.getElem?_append_right h]
theorem rp_at {t : List Int} {d : Int} : ∀ (k i : Nat), i < k * t.length → (rp k t).getD i d = t.getD (i % t.length) d
  | 0, i, h => by omega
  | k + 1, i, h => by
    rw [rp_succ]
    by_cases c : i < t.length
    · rw [Nat.mod_eq_of_lt c, getD_l c]
    · rw [getD_r (by omega), rp_at k (i - t.length) (by rw [Nat.add_mul] at h; omega), ← Nat.mod_eq_sub_mod (Nat.le_of_not_lt c)]
/-- two neighbours in length: all alike -/
theorem all_alike {m t u : List Int} (ht : t ≠ []) (hl : u.length = t.length + 1) (h1 : Fit m t) (h2 : Fit m u) : ∀ i, i < m.length → m.getD i 0 = m.getD 0 0 := by
  obtain ⟨a, a0, e1⟩ := h1
  obtain ⟨b, b0, e2⟩ := h2
  have tp : 0 < t.length := List.length_pos_iff.mpr ht
  have l1 : m.length = a * t.length := by rw [e1, rp_len]
  have l2 : m.length = b * (t.length + 1) := by rw [e2, rp_len, hl]
  have g1 : ∀ i, i < m.length → m.getD i 0 = t.getD (i % t.length) 0 := fun i hi => by
    conv => lhs; rw [e1]
    exact rp_at a i (by rw [← l1]; exact hi)
  have g2 : ∀ i, i < m.length → m.getD i 0 = u.getD (i % (t.length + 1)) 0 := fun i hi => by
    conv => lhs; rw [e2]
    rw [rp_at b i (by rw [hl, ← l2]; exact hi), hl]
  have dv : (t.length + 1) ∣ a := by
    have : (t.length + 1) ∣ a * t.length := ⟨b, by rw [← l1, l2, Nat.mul_comm]⟩
    refine Nat.Coprime.dvd_of_dvd_mul_right ?_ this
    show Nat.gcd (t.length + 1) t.length = 1
    rw [Nat.gcd_comm, Nat.gcd_self_add_right, Nat.gcd_one_right]
  have ap : t.length + 1 ≤ a := Nat.le_of_dvd a0 dv
  intro i hi
  have r := Nat.mod_lt i tp
  have jl : (i % t.length) * (t.length + 1) < m.length := by
    rw [l1]
    have x1 : (i % t.length) * (t.length + 1) < t.length * (t.length + 1) := Nat.mul_lt_mul_of_pos_right r (by omega)
    have x2 : (t.length + 1) * t.length ≤ a * t.length := Nat.mul_le_mul_right _ ap
    rw [Nat.mul_comm t.length] at x1
    omega
  have m0 : 0 < m.length := by omega
  have jm : (i % t.length) * (t.length + 1) % t.length = i % t.length := by
    rw [Nat.mul_add, Nat.mul_one, Nat.add_comm, Nat.add_mul_mod_self_right, Nat.mod_mod]
  have jm2 : (i % t.length) * (t.length + 1) % (t.length + 1) = 0 := Nat.mul_mod_left _ _
  have s1 := g1 _ jl
  have s2 := g2 _ jl
  rw [jm] at s1
  rw [jm2] at s2
  rw [g1 i hi, ← s1, s2, g2 0 m0, Nat.zero_mod]
theorem uniq_one {m : List Int} (hm : m ≠ []) (h : ∀ i, i < m.length → m.getD i 0 = m.getD 0 0) : (uniqT m).length = 1 := by
  have mp : 0 < m.length := List.length_pos_iff.mpr hm
  have sub : ∀ x, x ∈ uniqT m → x ∈ [m.getD 0 0] := fun x hx => by
    obtain ⟨i, hi, e⟩ := List.mem_iff_getElem.mp ((uniq_mem m).mp hx)
    have := h i hi
    rw [show m.getD i 0 = m[i] by rw [List.getD_eq_getElem?_getD, List.getElem?_eq_getElem hi]; rfl, e] at this
    rw [this]; simp
  have a := (uniq_nd m).length_le_of_subset sub
  have b : 0 < (uniqT m).length := List.length_pos_iff.mpr (List.ne_nil_of_mem ((uniq_mem m).mpr (List.getElem_mem mp)))
  simp at a
  omega
end K90
namespace K90
open PySem DL PyProof.Rows L2
theorem okT_len {α : Type} {l : List α} (h : l.length ≤ 1000000) : okT okA l := ⟨h, fun _ _ => trivial⟩
/-- lines of a measure as drawn -/
structure Ln (l : List Int) : Prop where
  ne : l ≠ []
  len : l.length ≤ 15
  gd : ∀ n, n ∈ l → Gd n
theorem Ln.g {l : List Int} (h : Ln l) : GL l := ⟨h.ne, h.gd⟩
theorem l1_eq (h : List Str) : T__law_are_texts_right_l1 h = T_by_measure_l1 h := by
  funext f n
  unfold T__law_are_texts_right_l1 T_by_measure_l1
  rw [both_read]
theorem lS_of {h : List Str} (Q : Hy h) : foldS (S__law_are_texts_right_l1 h) (T__law_are_texts_right_l1 h) [] (nums h) := by
  rw [l1_eq]
  have nl : (nums h).length ≤ 50 := by unfold nums; rw [len_rg1]; exact Q.n
  refine foldS_of (FS h) _ rfl fun p x r e => ⟨?_, by_step h p x⟩
  have pl' : p.length ≤ 50 := by have := congrArg List.length e; simp at this; omega
  have xi : ixOk h x := nums_in (by rw [e]; simp)
  refine ⟨⟨xi, lread_S (by have := Q.t _ (atZ_mem xi); omega)⟩, ?_⟩
  rw [both_read]
  simp only [lt_app]
  intro z
  have z : sp h x ≠ none := fun e => by
    rw [show T_read_measure (atZ h x) = none from e] at z
    simp at z
  have g := FS_get h p (fs h x)
  have f := FS_len h p
  exact ⟨⟨z, by show ((mget (FS h p) (fs h x)).getD []).length + 1 ≤ _; omega⟩, z, by omega⟩
theorem nam_mem {h : List Str} {s : List Int} (hs : s ∈ nam h) : ∃ x, x ∈ h ∧ T_read_measure x = some s := by
  obtain ⟨i, hi, e⟩ := List.mem_map.mp ((uniq_mem _).mp ((sort_mem (ltL ltI)).mp hs))
  obtain ⟨h1, h2⟩ := List.mem_filter.mp hi
  refine ⟨atZ h i, atZ_mem (nums_in h1), ?_⟩
  unfold fs at e
  cases q : sp h i with
  | none => rw [q] at h2; simp at h2
  | some l => rw [q] at e; exact q.trans (congrArg some e)
theorem ok_by {h : List Str} (Q : Hy h) : okT (okP (okT okA) (okT okA)) (T_by_measure h) := by
  have hq := Q.n
  have nl := nam_len h
  rw [by_T Q]
  refine ⟨by rw [List.length_map]; omega, fun x hx => ?_⟩
  obtain ⟨s, hs, rfl⟩ := List.mem_map.mp hx
  obtain ⟨t, ht, e⟩ := nam_mem hs
  have := (read_good e).2.1
  have tl := Q.t t ht
  refine ⟨okT_len (by show s.length ≤ _; omega), okT_len ?_⟩
  show (P h (told h (nums h)) s).length ≤ _
  refine Nat.le_trans (Nat.le_trans (List.length_filter_le _ _) (List.length_filter_le _ _)) ?_
  unfold nums; rw [len_rg1]; omega
theorem same_mS {a b : Str} (ha : a.length ≤ 100000) (hb : b.length ≤ 100000) : S_same_measure a b := ⟨read_S ha, fun _ => read_S hb⟩
theorem cutS_len (z : Str) (lo hi : Option Int) : (cutS z lo hi).length ≤ z.length := by
  rw [str_len, str_len]
  show (DL.tl (cutS z lo hi)).length ≤ (DL.tl z).length
  rw [cutS_tl]
  unfold DL.cutD
  rw [List.length_take, List.length_drop]
  omega
theorem texts_W {l : List Int} (L : Ln l) {R : Bool → Prop} (hR : R true) : W__law_are_texts_right l R := by
  have ll := L.len
  have wS : S_written_measure l := written_S L.gd (by omega)
  have tS : S__law_text l := text_S L.gd (by omega)
  have wl := written_len L.gd
  have jl := J_len L.gd
  refine ⟨⟨⟨wS, tS⟩, fun _ => ⟨⟨tS, read_S (by rw [text_T]; omega)⟩, fun x hx => by cases hx; exact okT_len (by omega)⟩⟩, chk (by rw [text_T, read_written L.g, decide_eq_true rfl, decide_eq_true rfl]; rfl) ?_⟩
  refine ⟨tS, ?_⟩
  intro text htext
  have tl : text.length ≤ 500 := by rw [htext, text_T]; omega
  clear htext
  refine ⟨wl_S L.gd (by omega), ?_⟩
  intro plain hplain
  have hplain : plain = J l := hplain
  have pl : plain.length ≤ 500 := by rw [hplain]; omega
  have rp1 : T_read_measure plain = some l := by rw [hplain]; exact read_J L.g
  have rp2 : T_read_measure (plain ++ PySem.Str.ofString " D") = some (l ++ l) := by rw [hplain]; exact read_JD L.g
  clear hplain
  refine ⟨by omega, by omega, fun at_ a0 a1 => ?_⟩
  rintro at_ rfl
  have c1 := cutS_len text none (some at_)
  have c2 := cutS_len text (some (at_ + 1)) none
  have c3 := cutS_len text (some at_) none
  have k1 : Str.length (PySem.Str.ofString ".") = 1 := rfl
  have k2 : Str.length (PySem.Str.ofString "0") = 1 := rfl
  have k3 : Str.length (PySem.Str.ofString " ") = 1 := rfl
  have k4 : Str.length (PySem.Str.ofString " D") = 2 := rfl
  have k5 : Str.length (PySem.Str.ofString "D") = 1 := rfl
  have k6 : Str.length (PySem.Str.ofString " d") = 2 := rfl
  have k7 : Str.length (PySem.Str.ofString "1") = 1 := rfl
  have low := PyProof.Rows.len_lower text
  have rps : Str.length (repSt (PySem.Str.ofString "1") 31) = 31 := by decide +kernel
  refine ⟨⟨by omega, by omega, by omega, ⟨by omega, by omega, by omega⟩, ⟨⟨by omega, by omega⟩, by omega, by rw [str_app_len]; omega⟩, ⟨by omega, by omega⟩, by omega, by rw [str_app_len]; omega⟩, ?_⟩
  rintro _ rfl
  refine ⟨⟨⟨⟨⟨by omega, by omega⟩, by omega, by rw [str_app_len]; omega⟩, by omega, by omega, by omega, by decide, by decide⟩, show 8 + 10 ≤ 16777216 by decide⟩, ?_⟩
  intro texts htexts
  have tk : ∀ x, x ∈ texts → x.length ≤ 1600 := fun x hx => by
    rw [htexts] at hx
    simp only [List.mem_append, List.mem_cons, List.not_mem_nil, or_false] at hx
    rcases hx with (rfl | rfl | rfl | rfl | rfl | rfl | rfl | rfl) | (rfl | rfl | rfl | rfl | rfl | rfl | rfl | rfl | rfl | rfl)
    · omega
    · omega
    · rw [str_app_len]; omega
    · rw [str_app_len]; omega
    · rw [str_app_len]; omega
    · rw [str_app_len]; omega
    · rw [str_app_len, str_app_len]; omega
    · rw [str_app_len, str_app_len]; omega
    · rw [str_app_len, str_app_len]; omega
    · omega
    · rw [str_app_len]; omega
    · rw [str_app_len]; omega
    · decide
    · decide
    · decide
    · omega
    · decide
    · decide
  have t1 : atZ texts 1 = plain := by rw [htexts]; rfl
  have t2 : atZ texts 2 = plain ++ PySem.Str.ofString " D" := by rw [htexts]; rfl
  have tn : texts.length = 18 := by rw [htexts]; rfl
  clear htexts
  have i1 : ixOk texts 1 := ixOk_pos (by decide) (by omega)
  have i2 : ixOk texts 2 := ixOk_pos (by decide) (by omega)
  have b2 : (plain ++ PySem.Str.ofString " D").length ≤ 1600 := by rw [← t2]; exact tk _ (atZ_mem i2)
  refine loopW_unit _ (fun x hx K hK => ?_) ?_
  · have xl := tk x hx
    refine ⟨lread_S (by omega), ?_⟩
    intro due hdue
    rw [both_read] at hdue
    have dl : ∀ r, due = some r → r ≠ [] ∧ r.length ≤ 2 * (x.length + 1) ∧ ∀ n, n ∈ r → Gd n := fun r e => read_good (by rw [← hdue]; exact e)
    have okd : okO (okT okA) due := fun r e => okT_len (by have := (dl r e).2.1; omega)
    refine ⟨⟨read_S (by omega), okd⟩, chk (by rw [hdue, decide_eq_true rfl]; rfl) ?_⟩
    have s1 : T_same_measure x plain = ((!decide (due = none)) && (decide (due = (some l)))) := by
      unfold T_same_measure
      simp only [lt_app]
      rw [rp1, ← hdue]
    have s2 : T_same_measure (plain ++ PySem.Str.ofString " D") x = decide (due = some (l ++ l)) := by
      unfold T_same_measure
      simp only [lt_app]
      rw [rp2, ← hdue]
      rw [show decide ((some (l ++ l) : Option (List Int)) = none) = false from decide_eq_false (by simp)]
      show (true && decide (some (l ++ l) = due)) = _
      rw [Bool.true_and]
      exact decide_eq_decide.mpr ⟨Eq.symm, Eq.symm⟩
    refine ⟨⟨⟨i1, same_mS (by omega) (by rw [t1]; omega)⟩, fun _ => ⟨⟨i2, same_mS (by rw [t2]; omega) (by omega)⟩, by omega⟩⟩, chk (by rw [t1, t2, s1, s2, decide_eq_true rfl, decide_eq_true rfl]; rfl) ?_⟩
    cases due with
    | none => exact ⟨fun z => absurd z (by simp), chk rfl hK⟩
    | some r =>
      obtain ⟨r1, r2, r3⟩ := dl r rfl
      have g : GL r := ⟨r1, r3⟩
      have wl2 := written_len r3
      refine ⟨fun _ => ⟨⟨⟨by simp, written_S r3 (by show r.length ≤ _; omega)⟩, read_S (by show (T_written_measure r).length ≤ _; omega)⟩, okd⟩, chk ?_ hK⟩
      show (!decide (some r = none) && !decide (T_read_measure (T_written_measure r) = some r)) = false
      rw [read_written g, decide_eq_true rfl]
      simp
  · refine ⟨by decide, fun v v0 v1 => ⟨bndZ_small (by omega) (by omega), by simp [rg1]; omega, ?_⟩⟩
    refine compW_all (fun x : Str => x ∈ texts) _ (fun x _ R' hR' => ⟨by omega, fun u u0 u1 => ⟨ixOk_pos u0 u1, hR' _ (atZ_mem (ixOk_pos u0 u1))⟩⟩) fun ys hyl hys => ?_
    rintro h rfl _ rfl
    have Q : Hy h := ⟨by rw [hyl]; simp [rg1]; omega, fun x hx => by have := tk x (hys x hx); omega⟩
    have hq := Q.n
    refine ⟨bndZ_len (by omega), lS_of Q, ?_⟩
    intro rows hrows
    rw [l1_eq] at hrows
    have hrows : rows = (nums h).foldl (T_by_measure_l1 h) [] := hrows
    have bS := by_S Q
    have bT : (List.map (fun (own_ : (List Int)) => (own_, ((mget rows own_).getD default))) (sortT (ltL ltI) (mkeys rows))) = T_by_measure h := by rw [hrows]; rfl
    have fin := bS.2.2
    rw [bT]
    refine ⟨⟨bS, ?_, ok_by Q⟩, ?_⟩
    · rw [hrows]; exact fin
    · rw [decide_eq_true rfl]; exact hR
/-! tunes -/
structure Tn (t : List Int) : Prop where
  ne : t ≠ []
  len : t.length ≤ 15
theorem tunes_W {ms ts : List (List Int)} (hm : ∀ m, m ∈ ms → Ln m) (ht : ∀ t, t ∈ ts → Tn t) (lm : ms.length ≤ 20) (lt_ : ts.length ≤ 20) {R : Bool → Prop} (hR : R true) : W__law_are_tunes_right ms ts R := by
  have at_t : ∀ k, k ∈ rg1 ((ts.length : Nat) : Int) → ixOk ts k ∧ Tn (atZ ts k) := fun k hk => by
    obtain ⟨a, b⟩ := mem_rg1.mp hk
    have := ixOk_pos (l := ts) a b
    exact ⟨this, ht _ (atZ_mem this)⟩
  have eq : ∀ m t, Ln m → Tn t → T_fits_tune m t = T__law_fits m t := fun m t M T => Bool.eq_iff_iff.mpr ((fit_iff T.ne).trans (lfit T.ne M.ne).1.symm)
  have fS : ∀ m t, Ln m → Tn t → S_fits_tune m t := fun m t M T => fit_S T.ne (by have := M.len; omega) (by have := T.len; omega)
  have lS : ∀ m t, Ln m → Tn t → S__law_fits m t := fun m t M T => (lfit T.ne M.ne).2 (by have := M.len; omega) (by have := T.len; omega)
  refine ⟨⟨by omega, fun m mm => ⟨bndZ_len (by omega), by rw [len_rg1]; omega, fun k hk => ⟨(at_t k hk).1, lS m _ (hm m mm) (at_t k hk).2⟩⟩⟩, ?_⟩
  intro due hdue
  let F : List (List Int) → List (List Int) := fun p => p.map fun m => List.map (fun (k_ : Int) => k_) (List.filter (fun (k_ : Int) => (T__law_fits m (atZ ts k_))) (rg1 ((List.length ts : Nat) : Int)))
  have key : ∀ p m r, ms = p ++ m :: r → S_tunes_for_l1 ts (F p) m ∧ T_tunes_for_l1 ts (F p) m = F (p ++ [m]) := fun p m r e => by
    have M := hm m (by rw [e]; simp)
    have pl := congrArg List.length e
    simp at pl
    refine ⟨⟨⟨bndZ_len (by omega), by rw [len_rg1]; omega, fun k hk => ⟨(at_t k hk).1, fS m _ M (at_t k hk).2⟩⟩, by show (List.map _ p).length < _; rw [List.length_map]; omega⟩, ?_⟩
    show F p ++ [List.map (fun (number_ : Int) => number_) (List.filter (fun (number_ : Int) => (T_fits_tune m (atZ ts number_))) (rg1 ((List.length ts : Nat) : Int)))] = F (p ++ [m])
    show F p ++ _ = List.map _ (p ++ [m])
    rw [List.map_append, List.filter_congr fun k hk => eq m _ M (at_t k hk).2]
    rfl
  have tf : T_tunes_for ms ts = due := by
    rw [hdue]
    exact foldl_of F ms rfl fun p m r e => (key p m r e).2
  have tS : S_tunes_for ms ts := foldS_of F ms rfl key
  have okd : okT (okT okA) due := by
    rw [hdue]
    refine ⟨by rw [List.length_map]; omega, fun x hx => ?_⟩
    obtain ⟨m, _, rfl⟩ := List.mem_map.mp hx
    refine okT_len ?_
    rw [List.length_map]
    exact Nat.le_trans (List.length_filter_le _ _) (by rw [len_rg1]; omega)
  clear key F
  refine ⟨⟨tS, okd⟩, chk (by rw [tf, decide_eq_true rfl]; rfl) (loopW_unit _ (fun m mm K hK => ?_) hR)⟩
  have M := hm m mm
  have ml := M.len
  have f1 : T_fits_tune m m = true := (fit_iff M.ne).mpr (fit_refl m)
  have f2 : T_fits_tune (m ++ m) m = true := (fit_iff M.ne).mpr (fit_two m)
  refine ⟨⟨fit_S M.ne (by omega) (by omega), fun _ => ⟨by omega, fit_S M.ne (by rw [List.length_append]; omega) (by omega)⟩⟩, chk (by rw [f1, f2]; rfl) ?_⟩
  intro half hhalf
  have hhalf : half = H m := by rw [hhalf]; exact (half_cut m).1
  subst hhalf
  have wl := written_len M.gd
  have dec : decide ((cutS (T_written_measure m) (some (-(2 : Int))) none) = (PySem.Str.ofString " D")) = twice m := by
    rw [tw_T, written_T]
    by_cases h : twice m = true
    · rw [if_pos h, JD_tl, h]; exact (tw_iff _).mpr ⟨_, rfl⟩
    · rw [if_neg h]
      have h' : twice m = false := by simpa using h
      rw [h', Bool.eq_false_iff]
      intro z
      obtain ⟨a, e⟩ := (tw_iff _).mp z
      exact J_free M.gd (by rw [e]; simp)
  have hf : twice m = true → T_fits_tune m (H m) = true := fun h => by
    refine (fit_iff (H_good M.g h).1).mpr ⟨2, by decide, ?_⟩
    unfold twice at h
    rw [Bool.and_eq_true, decide_eq_true_iff, decide_eq_true_iff] at h
    rw [show rp 2 (H m) = H m ++ H m by simp [rp]]
    exact h.2
  refine ⟨⟨⟨written_S M.gd (by omega), by omega⟩, fun z => ?_⟩, chk ?_ ?_⟩
  · rw [dec] at z
    exact fit_S (H_good M.g z).1 (by omega) (by unfold H; rw [List.length_take]; omega)
  · rw [dec]
    by_cases h : twice m = true
    · rw [hf h]; simp
    · have h' : twice m = false := by simpa using h
      rw [h']; rfl
  refine loopW_unit _ (fun t tt K' hK' => ?_) hK
  have T := ht t tt
  refine ⟨⟨fS m t M T, lS m t M T⟩, chk (by rw [eq m t M T, decide_eq_true rfl]; rfl) (loopW_unit _ (fun u uu K2 hK2 => ?_) hK')⟩
  have U := ht u uu
  have tu : S_fits_tune t u := fit_S U.ne (by have := T.len; omega) (by have := U.len; omega)
  refine ⟨⟨fS m t M T, fun _ => ⟨tu, fun _ => fS m u M U⟩⟩, chk ?_ ⟨⟨fS m t M T, fun _ => ⟨fS m u M U, fun _ _ => by omega⟩⟩, chk ?_ hK2⟩⟩
  · cases a : T_fits_tune m t with
    | false => rfl
    | true =>
      cases b : T_fits_tune t u with
      | false => rfl
      | true =>
        rw [(fit_iff U.ne).mpr (fit_trans ((fit_iff T.ne).mp a) ((fit_iff U.ne).mp b))]; rfl
  · cases a : T_fits_tune m t with
    | false => rfl
    | true =>
      cases b : T_fits_tune m u with
      | false => rfl
      | true =>
        by_cases c : absI (((List.length t : Nat) : Int) - ((List.length u : Nat) : Int)) = 1
        · have alike : ∀ i, i < m.length → m.getD i 0 = m.getD 0 0 := by
            have c2 : u.length = t.length + 1 ∨ t.length = u.length + 1 := by unfold absI at c; split at c <;> omega
            rcases c2 with c2 | c2
            · exact all_alike T.ne c2 ((fit_iff T.ne).mp a) ((fit_iff U.ne).mp b)
            · exact all_alike U.ne c2 ((fit_iff U.ne).mp b) ((fit_iff T.ne).mp a)
          rw [uniq_one M.ne alike]
          simp
        · rw [decide_eq_false c]; rfl
/-! lines drawn -/
theorem gd_small {n : Int} (h : 1 ≤ n) (h2 : n ≤ 1000) : Gd n := ⟨h, by
  have e : (10 : Int) ^ 30 = 1000000000000000000000000000000 := by decide
  rw [e]; omega⟩
theorem lines_W {cell : Int} (c0 : 0 ≤ cell) (c1 : cell < 10 ^ 28) {R : List Int → Prop} (hR : ∀ l, Ln l → R l) : W__law_lines cell R := by
  refine ⟨by decide, fun v v0 v1 => ⟨bndZ_small (by omega) (by omega), by simp [rg1]; omega, ?_⟩⟩
  refine compW_all (fun x : Int => Gd x) _ (fun x _ Q hQ => ⟨by decide, fun a a0 a1 => ⟨by decide, fun b b0 b1 => ⟨by decide, fun i i0 i1 => ⟨ixOk_pos i0 (by show i < 3; omega), hQ _ ?_⟩⟩⟩⟩) fun ys hyl hys => ?_
  · rcases (show i = 0 ∨ i = 1 ∨ i = 2 by omega) with rfl | rfl | rfl
    · exact gd_small (show 1 ≤ (1 : Int) + a by omega) (show (1 : Int) + a ≤ 1000 by omega)
    · exact gd_small (show 1 ≤ (6 : Int) + 2 * b by omega) (show (6 : Int) + 2 * b ≤ 1000 by omega)
    · exact gd_small (show (1 : Int) ≤ 8 by decide) (show (8 : Int) ≤ 1000 by decide)
  rintro own rfl
  have ol : 1 ≤ own.length ∧ own.length ≤ 4 := by rw [hyl]; simp [rg1]; omega
  have fin : ∀ o : List Int, 1 ≤ o.length → o.length ≤ 5 → (∀ n, n ∈ o → Gd n) → (takeW (4 : Int) (fun v8322 => (ixOk ([(1 : Int), (1 : Int), (2 : Int), (3 : Int)] : (List Int)) v8322 ∧ (repOk (List.length o) (atZ ([(1 : Int), (1 : Int), (2 : Int), (3 : Int)] : (List Int)) v8322) = true ∧ (R (rep (atZ ([(1 : Int), (1 : Int), (2 : Int), (3 : Int)] : (List Int)) v8322) o)))))) := fun o o1 o5 og => by
    refine ⟨by decide, fun i i0 i1 => ⟨ixOk_pos i0 (by show i < 4; omega), ?_⟩⟩
    have each : ∀ k : Nat, 1 ≤ k → k ≤ 3 → repOk o.length (k : Int) = true ∧ R (rep (k : Int) o) := fun k k1 k3 => by
      refine ⟨?_, hR _ ⟨?_, ?_, ?_⟩⟩
      · unfold repOk
        rw [Bool.and_eq_true, Nat.ble_eq, Nat.ble_eq]
        refine ⟨by omega, ?_⟩
        rw [Int.toNat_natCast]
        exact Nat.le_trans (Nat.mul_le_mul o5 k3) (by decide)
      · rw [rep_rp]
        intro e
        have := rp_len k o
        rw [e] at this
        have : 1 * 1 ≤ k * o.length := Nat.mul_le_mul k1 o1
        simp at *
        omega
      · rw [rep_rp, rp_len]
        exact Nat.le_trans (Nat.mul_le_mul k3 o5) (by decide)
      · rw [rep_rp]
        intro n hn
        unfold rp at hn
        obtain ⟨t, ht, hn⟩ := List.mem_flatten.mp hn
        rw [(List.mem_replicate.mp ht).2] at hn
        exact og n hn
    rcases (show i = 0 ∨ i = 1 ∨ i = 2 ∨ i = 3 by omega) with rfl | rfl | rfl | rfl
    · exact each 1 (by decide) (by decide)
    · exact each 1 (by decide) (by decide)
    · exact each 2 (by decide) (by decide)
    · exact each 3 (by decide) (by decide)
  simp only [lt_app]
  refine ⟨by decide, fun w w0 w1 => ⟨fun _ => ⟨by show _ + 1 ≤ _; omega, ?_⟩, fun _ => fin _ ol.1 (by omega) hys⟩⟩
  rintro _ rfl
  refine fin _ (by rw [List.length_append]; show 1 ≤ _ + 1; omega) (by rw [List.length_append]; show _ + 1 ≤ 5; omega) fun n hn => ?_
  rcases List.mem_append.mp hn with z | z
  · exact hys n z
  · rw [List.mem_singleton.mp z]
    refine ⟨by omega, ?_⟩
    have e : (10 : Int) ^ 30 = 1000000000000000000000000000000 := by decide
    have e2 : (10 : Int) ^ 28 = 10000000000000000000000000000 := by decide
    rw [e2] at c1
    rw [e]; omega
end K90
namespace K90
open PySem DL PyProof.Rows L2
theorem f1 : T_read_measure (PySem.Str.ofString "8.6.8.6 D") = some (rep 4 [8, 6]) := by
  rw [read_T]; decide +kernel
theorem J_two {a b : Int} (ha : Gd a) (hb : Gd b) : DL.tl (J [a, b]) = TL.numL a.toNat ++ 46 :: TL.numL b.toNat := by
  rw [J_tl]
  show TL.joinL [46] [DL.tl (wn a), DL.tl (wn b)] = _
  rw [wn_tl ha, wn_tl hb]
  rfl
theorem f2 : T_written_measure (rep 2 [8, 6]) = PySem.Str.ofString "8.6 D" := by
  rw [written_T, show twice (rep 2 [8, 6]) = true by decide +kernel, if_pos rfl]
  refine str_ext ?_
  rw [show H (rep 2 [8, 6]) = [8, 6] by decide +kernel]
  show DL.tl (J [8, 6] ++ dd) = _
  rw [JD_tl, J_two (gd_small (by decide) (by decide)) (gd_small (by decide) (by decide))]
  decide +kernel
theorem f3 : T_written_measure [7, 7] = PySem.Str.ofString "7.7" := by
  rw [written_T, show twice [7, 7] = false by decide +kernel, if_neg (by decide)]
  refine str_ext ?_
  show DL.tl (J [7, 7]) = _
  rw [J_two (gd_small (by decide) (by decide)) (gd_small (by decide) (by decide))]
  decide +kernel
theorem f4 : T_same_measure (PySem.Str.ofString "8.8.8.8") (PySem.Str.ofString "8.8 D") = true := by
  unfold T_same_measure
  simp only [lt_app]
  rw [read_T, read_T]
  decide +kernel
theorem f5 : T_same_measure (PySem.Str.ofString "8..8") (PySem.Str.ofString "8..8") = false := by
  unfold T_same_measure
  simp only [lt_app]
  rw [read_T]
  decide +kernel
theorem f6 : T_fits_tune [8, 8, 8] [8, 8] = false := by decide +kernel
def h0 : List Str := [(PySem.Str.ofString "8.6"), (PySem.Str.ofString "x"), (PySem.Str.ofString "6"), (PySem.Str.ofString "8.6")]
theorem Q0 : Hy h0 := ⟨by decide, by decide +kernel⟩
theorem f7 : T_by_measure h0 = [([6], [2]), ([8, 6], [0, 3])] := by
  rw [by_T Q0]
  have s0 : sp h0 0 = some [8, 6] := by unfold sp; rw [read_T]; decide +kernel
  have s1 : sp h0 1 = none := by unfold sp; rw [read_T]; decide +kernel
  have s2 : sp h0 2 = some [6] := by unfold sp; rw [read_T]; decide +kernel
  have s3 : sp h0 3 = some [8, 6] := by unfold sp; rw [read_T]; decide +kernel
  have n0 : nums h0 = [0, 1, 2, 3] := by decide +kernel
  have t0 : told h0 (nums h0) = [0, 2, 3] := by
    rw [n0]
    unfold told
    simp [s0, s1, s2, s3]
  have u0 : uniqT ((told h0 (nums h0)).map (fs h0)) = [[8, 6], [6]] := by
    rw [t0]
    show uniqT [fs h0 0, fs h0 2, fs h0 3] = _
    unfold fs
    rw [s0, s2, s3]
    decide +kernel
  have m0 : nam h0 = [[6], [8, 6]] := by
    unfold nam
    rw [u0]
    exact sorted_unique (loL loI) ((sort_perm _ _).trans (List.Perm.swap _ _ _)) (sort_sorted (loL loI) _) (List.pairwise_cons.mpr ⟨fun x hx => by rw [List.mem_singleton.mp hx]; decide +kernel, List.pairwise_singleton _ _⟩)
  rw [m0, t0]
  unfold P fs
  simp [s0, s2, s3]
theorem f8 : T_tunes_for [[8, 6, 8, 6]] [[8], [8, 6], [8, 6, 8, 6, 8, 6]] = [[1]] := by decide +kernel
theorem law_W (ns : List Int) (h : ns.length ≤ 63) : W_law ns (fun r => r = true) := by
  refine ⟨by omega, fun cell c0 c1 => ?_⟩
  intro ce hce
  have ce0 : 0 ≤ ce := by rw [hce]; exact Int.emod_nonneg _ (by decide)
  have ce1 : ce < 10 ^ 28 := by rw [hce]; exact Int.emod_lt_of_pos _ (by decide)
  clear hce
  refine ⟨bndZ_small (by decide) (by decide), loopW_unit _ (fun turn _ K hK => ?_) ?_⟩
  · refine lines_W ce0 ce1 fun l L => ?_
    refine texts_W L (chk rfl ?_)
    refine ⟨by decide, fun v v0 v1 => ⟨bndZ_small (by omega) (by omega), by simp [rg1]; omega, ?_⟩⟩
    refine compW_all (fun x : List Int => Ln x) _ (fun x _ R hR => lines_W ce0 ce1 hR) fun ms ml hm => ?_
    rintro ms rfl
    have ml : ms.length ≤ 3 := by rw [ml]; simp [rg1]; omega
    refine ⟨by decide, fun w w0 w1 => ⟨bndZ_small (by omega) (by omega), by simp [rg1]; omega, ?_⟩⟩
    refine compW_all (fun x : List Int => Ln x) _ (fun x _ R hR => lines_W ce0 ce1 hR) fun ys yl hy => ?_
    have yl : ys.length ≤ 2 := by rw [yl]; simp [rg1]; omega
    refine ⟨by decide, fun u u0 u1 => ?_⟩
    have cl : (cutD ([([(8 : Int)] : (List Int)), ([(8 : Int), (6 : Int)] : (List Int)), ([(8 : Int), (8 : Int)] : (List Int))] : (List (List Int))) none (some u)).length ≤ 3 := by
      rw [cut_take u0, List.length_take]
      exact Nat.min_le_right _ _
    have cm : ∀ t, t ∈ cutD ([([(8 : Int)] : (List Int)), ([(8 : Int), (6 : Int)] : (List Int)), ([(8 : Int), (8 : Int)] : (List Int))] : (List (List Int))) none (some u) → Tn t := fun t ht => by
      rw [cut_take u0] at ht
      have := List.mem_of_mem_take ht
      simp only [List.mem_cons, List.not_mem_nil, or_false] at this
      rcases this with rfl | rfl | rfl
      · exact ⟨by decide, by decide⟩
      · exact ⟨by decide, by decide⟩
      · exact ⟨by decide, by decide⟩
    refine ⟨by omega, ?_⟩
    intro ts hts
    have t1 : ts.length + ms.length ≤ 8 := by rw [hts, List.length_append]; omega
    have t2 : ∀ t, t ∈ ts → Tn t := fun t ht => by
      rw [hts] at ht
      rcases List.mem_append.mp ht with z | z
      · exact ⟨(hy t z).ne, (hy t z).len⟩
      · exact cm t z
    clear hts
    refine loopW_of (fun (r s : List (List Int)) => (∀ m, m ∈ r → Ln m) ∧ (∀ t, t ∈ s → Tn t) ∧ s.length + r.length ≤ 8) ms ts ⟨hm, t2, t1⟩ (fun m r s I R hR => ?_) fun s I => ?_
    · obtain ⟨i1, i2, i3⟩ := I
      have M := i1 m (List.mem_cons_self ..)
      have mp : 0 < m.length := List.length_pos_iff.mpr M.ne
      have mq := M.len
      refine ⟨by omega, fun x x0 x1 => ⟨by simp at i3; omega, hR _ ⟨fun y hy => i1 y (List.mem_cons_of_mem _ hy), fun t ht => ?_, by simp at i3 ⊢; omega⟩⟩⟩
      rcases List.mem_append.mp ht with z | z
      · exact i2 t z
      · rw [List.mem_singleton.mp z, cut_take (by omega)]
        refine ⟨fun e => ?_, by rw [List.length_take]; omega⟩
        have := congrArg List.length e
        rw [List.length_take] at this
        have k : ([] : List Int).length = 0 := rfl
        rw [k] at this
        omega
    · obtain ⟨_, i2, i3⟩ := I
      exact tunes_W hm i2 (by omega) (by omega) (chk rfl hK)
  · have okl : ∀ l : List Int, l.length ≤ 10 → okT okA l := fun l h => okT_len (by omega)
    refine ⟨⟨⟨read_S (by decide), by decide, fun l e => by cases e; exact okl _ (by decide)⟩, fun _ => ⟨⟨by decide, written_S (fun n hn => ?_) (by decide)⟩, fun _ => written_S (fun n hn => ?_) (by decide)⟩⟩, chk (by rw [f1, f2, f3]; decide +kernel) ?_⟩
    · have : n ∈ ([8, 6, 8, 6] : List Int) := hn
      simp only [List.mem_cons, List.not_mem_nil, or_false] at this
      rcases this with rfl | rfl | rfl | rfl <;> exact gd_small (by decide) (by decide)
    · simp only [List.mem_cons, List.not_mem_nil, or_false] at hn
      rcases hn with rfl | rfl <;> exact gd_small (by decide) (by decide)
    refine ⟨⟨same_mS (by decide) (by decide), fun _ => ⟨same_mS (by decide) (by decide), fun _ => fit_S (by decide) (by decide) (by decide)⟩⟩, chk (by rw [f4, f5, f6]; decide +kernel) ?_⟩
    have kS : S_tunes_for_l1 [[8], [8, 6], [8, 6, 8, 6, 8, 6]] [] [8, 6, 8, 6] := by
      refine ⟨⟨bndZ_small (by decide) (by decide), by decide, fun k hk => ?_⟩, by decide⟩
      have : k = 0 ∨ k = 1 ∨ k = 2 := by
        obtain ⟨a, b⟩ := mem_rg1.mp hk
        simp at b
        omega
      rcases this with rfl | rfl | rfl
      · exact ⟨ixOk_pos (by decide) (by decide), fit_S (by decide) (by decide) (by decide)⟩
      · exact ⟨ixOk_pos (by decide) (by decide), fit_S (by decide) (by decide) (by decide)⟩
      · exact ⟨ixOk_pos (by decide) (by decide), fit_S (by decide) (by decide) (by decide)⟩
    refine ⟨⟨⟨by_S Q0, ?_⟩, fun _ => ⟨⟨kS, trivial⟩, ?_⟩⟩, ?_⟩
    · rw [← f7]; exact ok_by Q0
    · exact ⟨by decide, fun x hx => okl x (by rw [List.mem_singleton.mp hx]; decide)⟩
    · have e1 := f7
      have e2 := f8
      unfold h0 at e1
      refine Bool.and_eq_true_iff.mpr ⟨decide_eq_true e1, decide_eq_true e2⟩
theorem law_true (ns : List Int) (h : ns.length ≤ 63) (hb : ∀ z ∈ ns, Builtin.Int.intBits z ≤ 1048576) : m_law [.list (ns.map .int)] = some (.bool true) := by
  obtain ⟨v, h1, h2⟩ := w_law (law_W ns h)
  subst h2
  exact h1
end K90
namespace K90
open PySem PySem.Spec PyProof.Rows L2 DL
def topS (i : Nat) : Stmt := PySem.Challenge.pw_leadstrue_k90_whole_measures_and_tunes.main.body.getD i (.Pass ⟨0, 0, 0, 0⟩)
theorem sc__law_draws : FnScope ["script", "many", "cells", "rest", "draws", "k", "at", "cell", "mingled"] ["script", "many"] (defScope (topS 12)) := ⟨rfl, rfl, rfl, by decide +kernel, rfl, by decide +kernel, by decide +kernel⟩
theorem sc__law_same : FnScope ["actual", "due", "k"] ["actual", "due"] (defScope (topS 15)) := ⟨rfl, rfl, rfl, by decide +kernel, rfl, by decide +kernel, by decide +kernel⟩
theorem sc__law_take : FnScope ["draws", "many"] ["draws", "many"] (defScope (topS 13)) := ⟨rfl, rfl, rfl, by decide +kernel, rfl, by decide +kernel, by decide +kernel⟩
theorem sc__law_cell : FnScope ["script", "draws", "cell"] ["script", "draws"] (defScope (topS 14)) := ⟨rfl, rfl, rfl, by decide +kernel, rfl, by decide +kernel, by decide +kernel⟩
theorem sc__law_text : FnScope ["lines", "half", "own"] ["lines"] (defScope (topS 17)) := ⟨rfl, rfl, rfl, by decide +kernel, rfl, by decide +kernel, by decide +kernel⟩
theorem sc__law_others : FnScope ["draws", "lines", "text", "plain", "at", "found", "own"] ["draws", "lines"] (defScope (topS 19)) := ⟨rfl, rfl, rfl, by decide +kernel, rfl, by decide +kernel, by decide +kernel⟩
theorem sc__law_read : FnScope ["text", "words", "found", "word", "sign"] ["text"] (defScope (topS 18)) := ⟨rfl, rfl, rfl, by decide +kernel, rfl, by decide +kernel, by decide +kernel⟩
theorem sc_is_line : FnScope ["word", "sign"] ["word"] (defScope (topS 2)) := ⟨rfl, rfl, rfl, by decide +kernel, rfl, by decide +kernel, by decide +kernel⟩
theorem sc_read_measure : FnScope ["text", "twice", "words", "lines", "word"] ["text"] (defScope (topS 3)) := ⟨rfl, rfl, rfl, by decide +kernel, rfl, by decide +kernel, by decide +kernel⟩
theorem sc_by_measure : FnScope ["hymns", "found", "number", "lines"] ["hymns"] (defScope (topS 8)) := ⟨rfl, rfl, rfl, by decide +kernel, rfl, by decide +kernel, by decide +kernel⟩
theorem sc_half_of : FnScope ["lines", "many"] ["lines"] (defScope (topS 4)) := ⟨rfl, rfl, rfl, by decide +kernel, rfl, by decide +kernel, by decide +kernel⟩
theorem sc_written_lines : FnScope ["lines", "syllables"] ["lines"] (defScope (topS 5)) := ⟨rfl, rfl, rfl, by decide +kernel, rfl, by decide +kernel, by decide +kernel⟩
theorem sc_written_measure : FnScope ["lines", "half"] ["lines"] (defScope (topS 6)) := ⟨rfl, rfl, rfl, by decide +kernel, rfl, by decide +kernel, by decide +kernel⟩
theorem sc_same_measure : FnScope ["one", "other", "told"] ["one", "other"] (defScope (topS 7)) := ⟨rfl, rfl, rfl, by decide +kernel, rfl, by decide +kernel, by decide +kernel⟩
theorem sc__law_are_texts_right : FnScope ["draws", "lines", "texts", "text", "hymns", "rows", "k", "due", "own"] ["draws", "lines"] (defScope (topS 21)) := ⟨rfl, rfl, rfl, by decide +kernel, rfl, by decide +kernel, by decide +kernel⟩
theorem sc_fits_tune : FnScope ["measure", "tune", "many"] ["measure", "tune"] (defScope (topS 9)) := ⟨rfl, rfl, rfl, by decide +kernel, rfl, by decide +kernel, by decide +kernel⟩
theorem sc_tunes_for : FnScope ["measures", "tunes", "found", "measure", "number"] ["measures", "tunes"] (defScope (topS 10)) := ⟨rfl, rfl, rfl, by decide +kernel, rfl, by decide +kernel, by decide +kernel⟩
theorem sc__law_fits : FnScope ["measure", "tune", "many"] ["measure", "tune"] (defScope (topS 20)) := ⟨rfl, rfl, rfl, by decide +kernel, rfl, by decide +kernel, by decide +kernel⟩
theorem sc__law_are_tunes_right : FnScope ["draws", "measures", "tunes", "due", "measure", "half", "tune", "third", "k"] ["draws", "measures", "tunes"] (defScope (topS 22)) := ⟨rfl, rfl, rfl, by decide +kernel, rfl, by decide +kernel, by decide +kernel⟩
theorem sc__law_lines : FnScope ["draws", "cell", "own", "k"] ["draws", "cell"] (defScope (topS 16)) := ⟨rfl, rfl, rfl, by decide +kernel, rfl, by decide +kernel, by decide +kernel⟩
theorem sc_law : FnScope ["script", "draws", "cell", "turn", "measures", "tunes", "measure", "k"] ["script"] (defScope (topS 23)) := ⟨rfl, rfl, rfl, by decide +kernel, rfl, by decide +kernel, by decide +kernel⟩
structure Top (K : Fg) (mg : Str → Option Value) : Prop where
  d__law_draws : Def K mg "_law_draws" (topS 12) ["script", "many"]
  d__law_same : Def K mg "_law_same" (topS 15) ["actual", "due"]
  d__law_take : Def K mg "_law_take" (topS 13) ["draws", "many"]
  d__law_cell : Def K mg "_law_cell" (topS 14) ["script", "draws"]
  d__law_text : Def K mg "_law_text" (topS 17) ["lines"]
  d__law_others : Def K mg "_law_others" (topS 19) ["draws", "lines"]
  d__law_read : Def K mg "_law_read" (topS 18) ["text"]
  d_is_line : Def K mg "is_line" (topS 2) ["word"]
  d_read_measure : Def K mg "read_measure" (topS 3) ["text"]
  d_by_measure : Def K mg "by_measure" (topS 8) ["hymns"]
  d_half_of : Def K mg "half_of" (topS 4) ["lines"]
  d_written_lines : Def K mg "written_lines" (topS 5) ["lines"]
  d_written_measure : Def K mg "written_measure" (topS 6) ["lines"]
  d_same_measure : Def K mg "same_measure" (topS 7) ["one", "other"]
  d__law_are_texts_right : Def K mg "_law_are_texts_right" (topS 21) ["draws", "lines"]
  d_fits_tune : Def K mg "fits_tune" (topS 9) ["measure", "tune"]
  d_tunes_for : Def K mg "tunes_for" (topS 10) ["measures", "tunes"]
  d__law_fits : Def K mg "_law_fits" (topS 20) ["measure", "tune"]
  d__law_are_tunes_right : Def K mg "_law_are_tunes_right" (topS 22) ["draws", "measures", "tunes"]
  d__law_lines : Def K mg "_law_lines" (topS 16) ["draws", "cell"]
  d_law : Def K mg "law" (topS 23) ["script"]
  n_abs : mg "abs" = none
  n_all : mg "all" = none
  n_bool : mg "bool" = none
  n_int : mg "int" = none
  n_isinstance : mg "isinstance" = none
  n_len : mg "len" = none
  n_list : mg "list" = none
  n_range : mg "range" = none
  n_set : mg "set" = none
  n_sorted : mg "sorted" = none
  n_str : mg "str" = none
  n_tuple : mg "tuple" = none
  c_DIGITS : ∃ t, mg "DIGITS" = some (.str (PySem.Str.ofString "0123456789") t)
section
variable {P : Program} {w : World} {K : Fg} {mg : Str → Option Value} {base : Heap}
theorem ok__law_draws (T : Top K mg) : Ent P w K mg base 1 "_law_draws" ["script", "many"] (spP K 2 .f m__law_draws) := by
  have S := sc__law_draws
  have z := ent_fresh (k := 0) (P := P) (w := w) (base := base) T.d__law_draws (b := b__law_draws) S (by repeat (first | exact nn_rt | exact nn_rtO | refine nn_last ?_ | refine nn_seq ?_ | refine nn_if ?_ ?_))
  refine z fun f cdv A outer s H E hr => ?_
  exact
    (sb_cons (sp_compO (own := [("cell", 7)]) rfl S.nd (ip_any (kd := .k) (ep_var (pv 0))) (blkOk_by (by rfl)) (fun _ _ _ _ _ => (gg_name S.nd rfl (.inl rfl))) (fun _ _ _ _ _ => ts_nil) (fun _ _ _ _ _ => (ep_callT cd_int (by rfl) T.n_int (ab_cons (ep_var (pv 7)) ab_nil))) (oo_name 7) rfl rfl (by rfl)) (sb_cons (sg_if (tp_cmp (od_eq hr.units) (ep_callB cd_len (by rfl) T.n_len (ab_cons (ep_varB (pv 2)) ab_nil)) ep_int) (sb_one (sg_expr (eg_mut PySem.F.plainAttrs_list PySem.F.slot_list_append PySem.F.type_list_append mu_append (pv 2) (ap_cons ep_int ap_nil)))) sb_nil) (sb_cons (sg_setO S.nd rfl (.inl rfl) (ep_callT (cd_lst (kd := .f) trivial) (by rfl) T.n_list (ab_cons (ep_varB (pv 2)) ab_nil))) (sb_cons (sg_setO S.nd rfl (.inl rfl) (ep_lst ap_nil)) (sb_cons (sg_for PassesOwn.never rfl (ip_range1 (by rfl) T.n_range (ap_cons (ep_var (pv 1)) ap_nil)) (gg_name S.nd rfl (.inl rfl)) (sb_cons (sg_set S.nd rfl (.inl rfl) (ep_bin od_mod (ep_var (pv 5)) (ep_callB cd_len (by rfl) T.n_len (ab_cons (ep_varB (pv 2)) ab_nil)))) (sb_one (sg_if (tw_tg (tpw_and (tp_cmp (od_ge hr.units) (ep_ix ix_d (ep_varB (pv 2)) (ep_var (pv 6))) (ep_bin od_pow ep_int ep_int)) (tw_and1 (tp_cmp (od_gt hr.units) (ep_ix ix_d (ep_varB (pv 3)) (ep_var (pv 6))) ep_int)))) (sb_cons (sg_expr (eg_mut PySem.F.plainAttrs_list PySem.F.slot_list_append PySem.F.type_list_append mu_append (pv 4) (ap_cons (ep_bin od_mod (ep_callT cd_int (by rfl) T.n_int (ab_cons (ep_ix ix_d (ep_varB (pv 3)) (ep_var (pv 6))) ab_nil)) ep_int) ap_nil))) (sb_one (sg_storeL (ep_bin od_div (ep_ix ix_d (ep_varB (pv 3)) (ep_var (pv 6))) ep_int) (pv 3) (ep_var (pv 6))))) (sb_cons (sg_set S.nd rfl (.inl rfl) (ep_bin od_mod (ep_callT cd_int (by rfl) T.n_int (ab_cons (ep_bin od_add (ep_bin od_add (ep_bin od_mul (ep_ix ix_d (ep_varB (pv 2)) (ep_var (pv 6))) ep_int) (ep_bin od_mul (ep_var (pv 5)) ep_int)) ep_int) ab_nil)) ep_int)) (sb_one (sg_expr (eg_mut PySem.F.plainAttrs_list PySem.F.slot_list_append PySem.F.type_list_append mu_append (pv 4) (ap_cons (ep_bin od_mod (ep_callT cd_int (by rfl) T.n_int (ab_cons (ep_bin od_add (ep_bin od_add (ep_bin od_mul (ep_var (pv 8)) (ep_var (pv 8))) (ep_bin od_mul ep_int (ep_var (pv 8)))) (ep_var (pv 5))) ab_nil)) ep_int) ap_nil))))))))) (sb_cons (sg_expr (eg_mut0 PySem.F.plainAttrs_list PySem.F.slot_list_reverse PySem.F.type_list_reverse mu_reverse (pv 4))) (sb_one (sg_retO (pv 4)))))))))
theorem at__law_same (T : Top K mg) (S : FnScope ["actual", "due", "k"] ["actual", "due"] (defScope (topS 15))) : ∀ n : Nat, Ent P w K mg base n "_law_same" ["actual", "due"] (spP K 2 .k (m__law_same n))
  | 0 => ent_none T.d__law_same
  | k + 1 => by
    have slf := at__law_same T S k
    have z := ent_pure (k := k) (P := P) (w := w) (base := base) T.d__law_same (b := b__law_same (m__law_same k)) S
    refine z fun f cdv A outer s H E hr => ?_
    exact
      (sb_cons (sg_if (tp_val (ep_isi (T := .bo) (by rfl) T.n_isinstance rfl (ep_var (pv 1)) (by rfl) T.n_bool (by decide +kernel))) (sb_one (sg_ret (ep_and (ep_isi (T := .bo) (by rfl) T.n_isinstance rfl (ep_var (pv 0)) (by rfl) T.n_bool (by decide +kernel)) (eg_one (ep_cmp (od_eq hr.units) (ep_var (pv 0)) (ep_var (pv 1))))))) sb_nil) (sb_cons (sg_if (tp_val (ep_isi (T := .it) (by rfl) T.n_isinstance rfl (ep_var (pv 1)) (by rfl) T.n_int (by decide +kernel))) (sb_one (sg_ret (ep_and (ep_isi (T := .it) (by rfl) T.n_isinstance rfl (ep_var (pv 0)) (by rfl) T.n_int (by decide +kernel)) (ep_and (ep_notV (ep_isi (T := .bo) (by rfl) T.n_isinstance rfl (ep_var (pv 0)) (by rfl) T.n_bool (by decide +kernel))) (eg_one (ep_cmp (od_eq hr.units) (ep_var (pv 0)) (ep_var (pv 1)))))))) sb_nil) (sb_cons (sg_if (tp_val (ep_isi (T := .st) (by rfl) T.n_isinstance rfl (ep_var (pv 1)) (by rfl) T.n_str (by decide +kernel))) (sb_one (sg_ret (ep_and (ep_isi (T := .st) (by rfl) T.n_isinstance rfl (ep_var (pv 0)) (by rfl) T.n_str (by decide +kernel)) (eg_one (ep_cmp (od_eq hr.units) (ep_var (pv 0)) (ep_var (pv 1))))))) sb_nil) (sb_cons (sg_if (tp_cmp od_is (ep_var (pv 1)) ep_non) (sb_one (sg_ret (ep_cmp od_is (ep_var (pv 0)) ep_non))) sb_nil) (sb_cons (sg_if (tw_tg (tpw_or (tp_not (tp_val (ep_isi (T := .tu) (by rfl) T.n_isinstance rfl (ep_var (pv 0)) (by rfl) T.n_tuple (by decide +kernel)))) (tw_or1 (tp_cmp (od_ne hr.units) (ep_callB cd_len (by rfl) T.n_len (ab_cons (ep_var (pv 0)) ab_nil)) (ep_callB cd_len (by rfl) T.n_len (ab_cons (ep_var (pv 1)) ab_nil)))))) (sb_one (sg_ret ep_bl)) sb_nil) (sb_cons (sg_for PassesOwn.never rfl (ip_range1 (by rfl) T.n_range (ap_cons (ep_callB cd_len (by rfl) T.n_len (ab_cons (ep_var (pv 1)) ab_nil)) ap_nil)) (gg_name S.nd rfl (.inl rfl)) (sb_one (sg_if (tp_not (tp_val (pcall slf hr (by rfl) (ap_cons (ep_ix ix_d (ep_var (pv 0)) (ep_var (pv 2))) (ap_cons (ep_ix ix_d (ep_var (pv 1)) (ep_var (pv 2))) ap_nil))))) (sb_one (sg_ret ep_bl)) sb_nil))) (sb_one (sg_ret ep_bl))))))))
theorem ok__law_same (T : Top K mg) : Ent P w K mg base 6 "_law_same" ["actual", "due"] (spP K 2 .k (m__law_same 6)) := at__law_same T sc__law_same 6
theorem ok__law_take (T : Top K mg) : Ent P w K mg base 1 "_law_take" ["draws", "many"] (spM K 2 0 m__law_take) := by
  have S := sc__law_take
  have z := ent_mut (k := 0) (j := 0) (P := P) (w := w) (base := base) T.d__law_take (b := b__law_take) S
  refine z fun f cdv A outer s H E hr => ?_
  exact
    (sb_cons (sg_if (tp_cmp (od_eq hr.units) (ep_callB cd_len (by rfl) T.n_len (ab_cons (ep_varB (pv 0)) ab_nil)) ep_int) (sb_one (sg_ret ep_int)) sb_nil) (sb_one (sg_ret (eg_bin od_mod (eg_callT cd_int (by rfl) T.n_int (ag_cons (eg_mut0 PySem.F.plainAttrs_list PySem.F.slot_list_pop PySem.F.type_list_pop mu_pop (pv 0)) ap_nil)) (ep_var (pv 1))))))
theorem ok__law_cell (T : Top K mg) (E__law_take : Ent P w K mg base 1 "_law_take" ["draws", "many"] (spM K 2 0 m__law_take)) : Ent P w K mg base 2 "_law_cell" ["script", "draws"] (spM K 2 1 m__law_cell) := by
  have S := sc__law_cell
  have z := ent_mut (k := 1) (j := 1) (P := P) (w := w) (base := base) T.d__law_cell (b := b__law_cell) S
  refine z fun f cdv A outer s H E hr => ?_
  exact
    (sb_cons (sg_if (tp_cmp (od_eq hr.units) (ep_callB cd_len (by rfl) T.n_len (ab_cons (ep_var (pv 0)) ab_nil)) ep_int) (sb_one (sg_ret ep_int)) sb_nil) (sb_cons (sg_set S.nd rfl (.inl rfl) (eg_callT cd_int (by rfl) T.n_int (ag_cons (eg_ix ix_d (ep_var (pv 0)) (mcall E__law_take (hr.mono (by decide)) (by rfl) (am_here (pv 1) (ap_cons (ep_callB cd_len (by rfl) T.n_len (ab_cons (ep_var (pv 0)) ab_nil)) ap_nil)))) ap_nil))) (sb_one (sg_ret (ep_bin od_mul (ep_bin od_mod (ep_callB cd_abs (by rfl) T.n_abs (ab_cons (ep_var (pv 2)) ab_nil)) (ep_bin od_pow ep_int ep_int)) (ep_ix ix_d (ep_lst (ap_cons ep_int (ap_cons (ep_un ud_neg ep_int) ap_nil))) (ep_callT cd_int (by rfl) T.n_int (ab_cons (ep_cmp (od_lt hr.units) (ep_var (pv 2)) ep_int) ab_nil))))))))
theorem ok__law_text (T : Top K mg) : Ent P w K mg base 1 "_law_text" ["lines"] (spP K 1 .k m__law_text) := by
  have S := sc__law_text
  have z := ent_pure (k := 0) (P := P) (w := w) (base := base) T.d__law_text (b := b__law_text) S
  refine z fun f cdv A outer s H E hr => ?_
  exact
    (sb_cons (sg_set S.nd rfl (.inl rfl) (ep_bin od_div (ep_callB cd_len (by rfl) T.n_len (ab_cons (ep_var (pv 0)) ab_nil)) ep_int)) (sb_cons (sg_if (tw_tg (tpw_and (tp_cmp (od_gt hr.units) (ep_var (pv 1)) ep_int) (tw_and1 (tp_cmp (od_eq hr.units) (ep_sl sl_d (ep_var (pv 0)) og_none (og_some (ep_var (pv 1)))) (ep_sl sl_d (ep_var (pv 0)) (og_some (ep_var (pv 1))) og_none))))) (sb_cons (sg_ret (ep_bin od_add (ep_meth PySem.F.plainAttrs_str PySem.F.slot_str_join PySem.F.type_str_join md_join ep_str (ab_cons (ep_comp (own := [("own", 2)]) rfl S.nd (ip_any (kd := .k) (ep_sl sl_d (ep_var (pv 0)) og_none (og_some (ep_var (pv 1))))) (blkOk_by (by rfl)) (fun _ _ _ _ _ => (gg_name S.nd rfl (.inl rfl))) (fun _ _ _ _ _ => ts_nil) (fun _ _ _ _ _ => (ep_callT cd_str (by rfl) T.n_str (ab_cons (ep_var (pv 2)) ab_nil))) (oo_name 2)) ab_nil)) ep_str)) sb_nil) sb_nil) (sb_cons (sg_ret (ep_meth PySem.F.plainAttrs_str PySem.F.slot_str_join PySem.F.type_str_join md_join ep_str (ab_cons (ep_comp (own := [("own", 2)]) rfl S.nd (ip_any (kd := .k) (ep_var (pv 0))) (blkOk_by (by rfl)) (fun _ _ _ _ _ => (gg_name S.nd rfl (.inl rfl))) (fun _ _ _ _ _ => ts_nil) (fun _ _ _ _ _ => (ep_callT cd_str (by rfl) T.n_str (ab_cons (ep_var (pv 2)) ab_nil))) (oo_name 2)) ab_nil))) sb_nil)))
theorem ok__law_others (T : Top K mg) (E__law_take : Ent P w K mg base 1 "_law_take" ["draws", "many"] (spM K 2 0 m__law_take)) (E__law_text : Ent P w K mg base 1 "_law_text" ["lines"] (spP K 1 .k m__law_text)) : Ent P w K mg base 2 "_law_others" ["draws", "lines"] (spM K 2 0 m__law_others) := by
  have S := sc__law_others
  have z := ent_mut (k := 1) (j := 0) (P := P) (w := w) (base := base) T.d__law_others (b := b__law_others) S
  refine z fun f cdv A outer s H E hr => ?_
  exact
    (sb_cons (sg_set S.nd rfl (.inl rfl) (pcall E__law_text (hr.mono (by decide)) (by rfl) (ap_cons (ep_var (pv 1)) ap_nil))) (sb_cons (sg_set S.nd rfl (.inl rfl) (ep_meth PySem.F.plainAttrs_str PySem.F.slot_str_join PySem.F.type_str_join md_join ep_str (ab_cons (ep_comp (own := [("own", 6)]) rfl S.nd (ip_any (kd := .k) (ep_var (pv 1))) (blkOk_by (by rfl)) (fun _ _ _ _ _ => (gg_name S.nd rfl (.inl rfl))) (fun _ _ _ _ _ => ts_nil) (fun _ _ _ _ _ => (ep_callT cd_str (by rfl) T.n_str (ab_cons (ep_var (pv 6)) ab_nil))) (oo_name 6)) ab_nil))) (sb_cons (sg_set S.nd rfl (.inl rfl) (mcall E__law_take (hr.mono (by decide)) (by rfl) (am_here (pv 0) (ap_cons (ep_bin od_add (ep_callB cd_len (by rfl) T.n_len (ab_cons (ep_var (pv 2)) ab_nil)) ep_int) ap_nil)))) (sb_cons (sg_set S.nd rfl (.inl rfl) ((ep_lst (ap_cons (ep_var (pv 2)) (ap_cons (ep_var (pv 3)) (ap_cons (ep_bin od_add (ep_var (pv 3)) ep_str) (ap_cons (ep_bin od_add (ep_var (pv 3)) ep_str) (ap_cons (ep_bin od_add (ep_var (pv 2)) ep_str) (ap_cons (ep_bin od_add (ep_sl sl_d (ep_var (pv 2)) og_none (og_some (ep_var (pv 4)))) (ep_sl sl_d (ep_var (pv 2)) (og_some (ep_bin od_add (ep_var (pv 4)) ep_int)) og_none)) (ap_cons (ep_bin od_add (ep_bin od_add (ep_sl sl_d (ep_var (pv 2)) og_none (og_some (ep_var (pv 4)))) ep_str) (ep_sl sl_d (ep_var (pv 2)) (og_some (ep_var (pv 4))) og_none)) (ap_cons (ep_bin od_add (ep_bin od_add (ep_sl sl_d (ep_var (pv 2)) og_none (og_some (ep_var (pv 4)))) ep_str) (ep_sl sl_d (ep_var (pv 2)) (og_some (ep_var (pv 4))) og_none)) ap_nil))))))))).toK)) (sb_cons (sg_ret (ep_bin od_add (ep_var (pv 5)) (ep_lst (ap_cons (ep_bin od_add (ep_bin od_add (ep_sl sl_d (ep_var (pv 2)) og_none (og_some (ep_var (pv 4)))) ep_str) (ep_sl sl_d (ep_var (pv 2)) (og_some (ep_var (pv 4))) og_none)) (ap_cons (ep_meth0 PySem.F.plainAttrs_str PySem.F.slot_str_lower PySem.F.type_str_lower md_lower (ep_var (pv 2))) (ap_cons (ep_bin od_add ep_str (ep_var (pv 2))) (ap_cons (ep_bin od_add (ep_var (pv 3)) ep_str) (ap_cons ep_str (ap_cons ep_str (ap_cons ep_str (ap_cons (ep_bin od_repS ep_str ep_int) (ap_cons ep_str (ap_cons ep_str ap_nil))))))))))))) sb_nil)))))
theorem ok__law_read (T : Top K mg) : Ent P w K mg base 1 "_law_read" ["text"] (spP K 1 .k m__law_read) := by
  have S := sc__law_read
  have z := ent_pure (k := 0) (P := P) (w := w) (base := base) T.d__law_read (b := b__law_read) S
  refine z fun f cdv A outer s H E hr => ?_
  exact
    (sb_cons (sg_set S.nd rfl (.inl rfl) ((ep_meth PySem.F.plainAttrs_str PySem.F.slot_str_split PySem.F.type_str_split (md_split (kd := .f) trivial) (ep_var (pv 0)) (ab_cons ep_str ab_nil)).toK)) (sb_cons (sg_if (tw_tg (tpw_or (tp_cmp (od_gt hr.units) (ep_callB cd_len (by rfl) T.n_len (ab_cons (ep_var (pv 1)) ab_nil)) ep_int) (tw_or1 (tw_tg (tpw_and (tp_cmp (od_eq hr.units) (ep_callB cd_len (by rfl) T.n_len (ab_cons (ep_var (pv 1)) ab_nil)) ep_int) (tw_and1 (tp_cmp (od_ne hr.units) (ep_ix ix_d (ep_var (pv 1)) ep_int) ep_str))))))) (sb_cons (sg_ret ep_non) sb_nil) sb_nil) (sb_cons (sg_setO S.nd rfl (.inl rfl) (ep_lst ap_nil)) (sb_cons (sg_for PassesOwn.never rfl (ip_any (kd := .f) (ep_meth PySem.F.plainAttrs_str PySem.F.slot_str_split PySem.F.type_str_split (md_split (kd := .f) trivial) (ep_ix ix_d (ep_var (pv 1)) ep_int) (ab_cons ep_str ab_nil))) (gg_name S.nd rfl (.inl rfl)) (SB.fg [3] (sb_cons (sg_if (tw_tg (tpw_or (tp_cmp (od_eq hr.units) (ep_var (pv 3)) ep_str) (tpw_or (tp_cmp (od_gt hr.units) (ep_callB cd_len (by rfl) T.n_len (ab_cons (ep_var (pv 3)) ab_nil)) ep_int) (tpw_or (tp_cmp (od_eq hr.units) (ep_ix ix_d (ep_var (pv 3)) ep_int) ep_str) (tw_or1 (tp_cmp (od_gt hr.units) (ep_callB cd_len (by rfl) T.n_len (ab_cons (ep_comp (own := [("sign", 4)]) rfl S.nd (ip_any (kd := .k) (ep_var (pv 3))) (blkOk_by (by rfl)) (fun _ _ _ _ _ => (gg_name S.nd rfl (.inl rfl))) (fun _ _ _ _ _ => (ts_one (tp_cmp (od_nin hr.units) (ep_var (pv 4)) ep_str))) (fun _ _ _ _ _ => (ep_var (pv 4))) (oo_name 4)) ab_nil)) ep_int)))))) (sb_cons (sg_ret ep_non) sb_nil) sb_nil) (sb_cons (sg_expr (eg_mut PySem.F.plainAttrs_list PySem.F.slot_list_append PySem.F.type_list_append mu_append (pv 2) (ap_cons (ep_callT cd_int (by rfl) T.n_int (ab_cons (ep_var (pv 3)) ab_nil)) ap_nil))) sb_nil)))) (sb_cons (sg_ret (ep_callT cd_tup (by rfl) T.n_tuple (ab_cons (ep_bin od_mul (ep_varB (pv 2)) (ep_callB cd_len (by rfl) T.n_len (ab_cons (ep_var (pv 1)) ab_nil))) ab_nil))) sb_nil)))))
theorem ok_is_line (T : Top K mg) : Ent P w K mg base 1 "is_line" ["word"] (spP K 1 .k m_is_line) := by
  have S := sc_is_line
  have z := ent_pure (k := 0) (P := P) (w := w) (base := base) T.d_is_line (b := b_is_line) S
  refine z fun f cdv A outer s H E hr => ?_
  exact
    (sb_cons (sg_ret (ep_and (ep_chain (od_lt hr.units) (od_le hr.units) ep_int (ep_callB cd_len (by rfl) T.n_len (ab_cons (ep_var (pv 0)) ab_nil)) ep_int) (ep_and (ep_cmp (od_ne hr.units) (ep_ix ix_d (ep_var (pv 0)) ep_int) ep_str) (eg_one (ep_callB (cd_all rfl) (by rfl) T.n_all (ab_cons (ep_comp (own := [("sign", 1)]) rfl S.nd (ip_any (kd := .k) (ep_var (pv 0))) (blkOk_by (by rfl)) (fun _ _ _ _ _ => (gg_name S.nd rfl (.inl rfl))) (fun _ _ _ _ _ => ts_nil) (fun _ _ _ _ _ => (ep_cmp (od_in hr.units) (ep_var (pv 1)) (ep_gstr (by rfl) T.c_DIGITS.choose_spec))) (oo_name 1)) ab_nil)))))) sb_nil)
theorem ok_read_measure (T : Top K mg) (E_is_line : Ent P w K mg base 1 "is_line" ["word"] (spP K 1 .k m_is_line)) : Ent P w K mg base 2 "read_measure" ["text"] (spP K 1 .k m_read_measure) := by
  have S := sc_read_measure
  have z := ent_pure (k := 1) (P := P) (w := w) (base := base) T.d_read_measure (b := b_read_measure) S
  refine z fun f cdv A outer s H E hr => ?_
  exact
    (sb_cons (sg_set S.nd rfl (.inl rfl) (ep_cmp (od_eq hr.units) (ep_sl sl_d (ep_var (pv 0)) (og_some (ep_un ud_neg ep_int)) og_none) ep_str)) (sb_cons (sg_set S.nd rfl (.inl rfl) ((ep_meth PySem.F.plainAttrs_str PySem.F.slot_str_split PySem.F.type_str_split (md_split (kd := .f) trivial) (ep_if (tp_val (ep_var (pv 1))) (ep_sl sl_d (ep_var (pv 0)) og_none (og_some (ep_un ud_neg ep_int))) (ep_var (pv 0))) (ab_cons ep_str ab_nil)).toK)) (sb_cons (sg_if (tp_not (tp_val (ep_callB (cd_all rfl) (by rfl) T.n_all (ab_cons (ep_comp (own := [("word", 4)]) rfl S.nd (ip_any (kd := .k) (ep_var (pv 2))) (blkOk_by (by rfl)) (fun _ _ _ _ _ => (gg_name S.nd rfl (.inl rfl))) (fun _ _ _ _ _ => ts_nil) (fun _ _ _ _ _ => (pcall E_is_line (hr.mono (by decide)) (by rfl) (ap_cons (ep_var (pv 4)) ap_nil))) (oo_name 4)) ab_nil)))) (sb_cons (sg_ret ep_non) sb_nil) sb_nil) (sb_cons (sg_set S.nd rfl (.inl rfl) (ep_callT cd_tup (by rfl) T.n_tuple (ab_cons (ep_comp (own := [("word", 4)]) rfl S.nd (ip_any (kd := .k) (ep_var (pv 2))) (blkOk_by (by rfl)) (fun _ _ _ _ _ => (gg_name S.nd rfl (.inl rfl))) (fun _ _ _ _ _ => ts_nil) (fun _ _ _ _ _ => (ep_callT cd_int (by rfl) T.n_int (ab_cons (ep_var (pv 4)) ab_nil))) (oo_name 4)) ab_nil))) (sb_cons (sg_ret (ep_if (tp_val (ep_var (pv 1))) (ep_bin od_add (ep_var (pv 3)) (ep_var (pv 3))) (ep_var (pv 3)))) sb_nil)))))
theorem ok_by_measure (T : Top K mg) (E_read_measure : Ent P w K mg base 2 "read_measure" ["text"] (spP K 1 .k m_read_measure)) : Ent P w K mg base 3 "by_measure" ["hymns"] (spP K 1 .k m_by_measure) := by
  have S := sc_by_measure
  have z := ent_pure (k := 2) (P := P) (w := w) (base := base) T.d_by_measure (b := b_by_measure) S
  refine z fun f cdv A outer s H E hr => ?_
  exact
    (sb_cons (sg_setO S.nd rfl (.inr rfl) ep_dnewT) (sb_cons (sg_for PassesOwn.never rfl (ip_range1 (by rfl) T.n_range (ap_cons (ep_callB cd_len (by rfl) T.n_len (ab_cons (ep_var (pv 0)) ab_nil)) ap_nil)) (gg_name S.nd rfl (.inl rfl)) (SB.fg [2, 3] (sb_cons (sg_set S.nd rfl (.inl rfl) (pcall E_read_measure (hr.mono (by decide)) (by rfl) (ap_cons (ep_ix ix_d (ep_var (pv 0)) (ep_var (pv 2))) ap_nil))) (sb_cons (sg_if (tp_cmp od_isnot (ep_var (pv 3)) ep_non) (sb_cons (sg_storeD hr.units (ep_bin od_add (ep_dget2 hr.units (ep_varB (pv 1)) (ep_var (pv 3)) (ep_tup ap_nil)) (ep_tup (ap_cons (ep_var (pv 2)) ap_nil))) (pv 1) (ep_var (pv 3))) sb_nil) sb_nil) sb_nil)))) (sb_cons (sg_ret (ep_callT cd_tup (by rfl) T.n_tuple (ab_cons (ep_comp (own := [("lines", 3)]) rfl S.nd (ip_any (kd := .f) (ep_callB (cd_sortMT (kd := .f) trivial rfl hr.units) (by rfl) T.n_sorted (ab_cons (ep_varB (pv 1)) ab_nil))) (blkOk_by (by rfl)) (fun _ _ _ _ _ => (gg_name S.nd rfl (.inl rfl))) (fun _ _ _ _ _ => ts_nil) (fun _ _ _ _ _ => (ep_tup (ap_cons (ep_var (pv 3)) (ap_cons (ep_dget hr.units (ep_varB (pv 1)) (ep_var (pv 3))) ap_nil)))) (oo_name 3)) ab_nil))) sb_nil)))
theorem ok_half_of (T : Top K mg) : Ent P w K mg base 1 "half_of" ["lines"] (spP K 1 .k m_half_of) := by
  have S := sc_half_of
  have z := ent_pure (k := 0) (P := P) (w := w) (base := base) T.d_half_of (b := b_half_of) S
  refine z fun f cdv A outer s H E hr => ?_
  exact
    (sb_cons (sg_set S.nd rfl (.inl rfl) (ep_bin od_div (ep_callB cd_len (by rfl) T.n_len (ab_cons (ep_var (pv 0)) ab_nil)) ep_int)) (sb_cons (sg_ret (ep_if (tw_tg (tpw_and (tp_cmp (od_gt hr.units) (ep_var (pv 1)) ep_int) (tw_and1 (tp_cmp (od_eq hr.units) (ep_var (pv 0)) (ep_bin od_add (ep_sl sl_d (ep_var (pv 0)) og_none (og_some (ep_var (pv 1)))) (ep_sl sl_d (ep_var (pv 0)) og_none (og_some (ep_var (pv 1))))))))) (ep_sl sl_d (ep_var (pv 0)) og_none (og_some (ep_var (pv 1)))) ep_non)) sb_nil))
theorem ok_written_lines (T : Top K mg) : Ent P w K mg base 1 "written_lines" ["lines"] (spP K 1 .k m_written_lines) := by
  have S := sc_written_lines
  have z := ent_pure (k := 0) (P := P) (w := w) (base := base) T.d_written_lines (b := b_written_lines) S
  refine z fun f cdv A outer s H E hr => ?_
  exact
    (sb_cons (sg_ret (ep_meth PySem.F.plainAttrs_str PySem.F.slot_str_join PySem.F.type_str_join md_join ep_str (ab_cons (ep_comp (own := [("syllables", 1)]) rfl S.nd (ip_any (kd := .k) (ep_var (pv 0))) (blkOk_by (by rfl)) (fun _ _ _ _ _ => (gg_name S.nd rfl (.inl rfl))) (fun _ _ _ _ _ => ts_nil) (fun _ _ _ _ _ => (ep_callT cd_str (by rfl) T.n_str (ab_cons (ep_var (pv 1)) ab_nil))) (oo_name 1)) ab_nil))) sb_nil)
theorem ok_written_measure (T : Top K mg) (E_half_of : Ent P w K mg base 1 "half_of" ["lines"] (spP K 1 .k m_half_of)) (E_written_lines : Ent P w K mg base 1 "written_lines" ["lines"] (spP K 1 .k m_written_lines)) : Ent P w K mg base 2 "written_measure" ["lines"] (spP K 1 .k m_written_measure) := by
  have S := sc_written_measure
  have z := ent_pure (k := 1) (P := P) (w := w) (base := base) T.d_written_measure (b := b_written_measure) S
  refine z fun f cdv A outer s H E hr => ?_
  exact
    (sb_cons (sg_set S.nd rfl (.inl rfl) (pcall E_half_of (hr.mono (by decide)) (by rfl) (ap_cons (ep_var (pv 0)) ap_nil))) (sb_cons (sg_ret (ep_if (tp_cmp od_is (ep_var (pv 1)) ep_non) (pcall E_written_lines (hr.mono (by decide)) (by rfl) (ap_cons (ep_var (pv 0)) ap_nil)) (ep_bin od_add (pcall E_written_lines (hr.mono (by decide)) (by rfl) (ap_cons (ep_var (pv 1)) ap_nil)) ep_str))) sb_nil))
theorem ok_same_measure (T : Top K mg) (E_read_measure : Ent P w K mg base 2 "read_measure" ["text"] (spP K 1 .k m_read_measure)) : Ent P w K mg base 3 "same_measure" ["one", "other"] (spP K 2 .k m_same_measure) := by
  have S := sc_same_measure
  have z := ent_pure (k := 2) (P := P) (w := w) (base := base) T.d_same_measure (b := b_same_measure) S
  refine z fun f cdv A outer s H E hr => ?_
  exact
    (sb_cons (sg_set S.nd rfl (.inl rfl) (pcall E_read_measure (hr.mono (by decide)) (by rfl) (ap_cons (ep_var (pv 0)) ap_nil))) (sb_cons (sg_ret (ep_and (ep_cmp od_isnot (ep_var (pv 2)) ep_non) (eg_one (ep_cmp (od_eq hr.units) (ep_var (pv 2)) (pcall E_read_measure (hr.mono (by decide)) (by rfl) (ap_cons (ep_var (pv 1)) ap_nil)))))) sb_nil))
theorem ok__law_are_texts_right (T : Top K mg) (E__law_others : Ent P w K mg base 2 "_law_others" ["draws", "lines"] (spM K 2 0 m__law_others)) (E__law_read : Ent P w K mg base 1 "_law_read" ["text"] (spP K 1 .k m__law_read)) (E__law_same : Ent P w K mg base 6 "_law_same" ["actual", "due"] (spP K 2 .k (m__law_same 6))) (E__law_take : Ent P w K mg base 1 "_law_take" ["draws", "many"] (spM K 2 0 m__law_take)) (E__law_text : Ent P w K mg base 1 "_law_text" ["lines"] (spP K 1 .k m__law_text)) (E_by_measure : Ent P w K mg base 3 "by_measure" ["hymns"] (spP K 1 .k m_by_measure)) (E_read_measure : Ent P w K mg base 2 "read_measure" ["text"] (spP K 1 .k m_read_measure)) (E_same_measure : Ent P w K mg base 3 "same_measure" ["one", "other"] (spP K 2 .k m_same_measure)) (E_written_measure : Ent P w K mg base 2 "written_measure" ["lines"] (spP K 1 .k m_written_measure)) : Ent P w K mg base 7 "_law_are_texts_right" ["draws", "lines"] (spM K 2 0 m__law_are_texts_right) := by
  have S := sc__law_are_texts_right
  have z := ent_mut (k := 6) (j := 0) (P := P) (w := w) (base := base) T.d__law_are_texts_right (b := b__law_are_texts_right) S
  refine z fun f cdv A outer s H E hr => ?_
  exact
    (sb_cons (sg_if (tw_tg (tpw_or (tp_not (tp_val (pcall E__law_same (hr.mono (by decide)) (by rfl) (ap_cons (pcall E_written_measure (hr.mono (by decide)) (by rfl) (ap_cons (ep_var (pv 1)) ap_nil)) (ap_cons (pcall E__law_text (hr.mono (by decide)) (by rfl) (ap_cons (ep_var (pv 1)) ap_nil)) ap_nil))))) (tw_or1 (tp_not (tp_val (pcall E__law_same (hr.mono (by decide)) (by rfl) (ap_cons (pcall E_read_measure (hr.mono (by decide)) (by rfl) (ap_cons (pcall E__law_text (hr.mono (by decide)) (by rfl) (ap_cons (ep_var (pv 1)) ap_nil)) ap_nil)) (ap_cons (ep_var (pv 1)) ap_nil)))))))) (sb_cons (sg_ret ep_bl) sb_nil) sb_nil) (sb_cons (sg_set S.nd rfl (.inr rfl) (mcall E__law_others (hr.mono (by decide)) (by rfl) (am_here (pv 0) (ap_cons (ep_var (pv 1)) ap_nil)))) (sb_cons (sg_for PassesOwn.never rfl (ip_any (kd := .k) (ep_var (pv 2))) (gg_name S.nd rfl (.inl rfl)) (SB.fg [3, 7] (sb_cons (sg_set S.nd rfl (.inl rfl) (pcall E__law_read (hr.mono (by decide)) (by rfl) (ap_cons (ep_var (pv 3)) ap_nil))) (sb_cons (sg_if (tp_not (tp_val (pcall E__law_same (hr.mono (by decide)) (by rfl) (ap_cons (pcall E_read_measure (hr.mono (by decide)) (by rfl) (ap_cons (ep_var (pv 3)) ap_nil)) (ap_cons (ep_var (pv 7)) ap_nil))))) (sb_cons (sg_ret ep_bl) sb_nil) sb_nil) (sb_cons (sg_if (tw_tg (tpw_or (tp_not (tp_val (pcall E__law_same (hr.mono (by decide)) (by rfl) (ap_cons (pcall E_same_measure (hr.mono (by decide)) (by rfl) (ap_cons (ep_var (pv 3)) (ap_cons (ep_ix ix_d (ep_var (pv 2)) ep_int) ap_nil))) (ap_cons (ep_and (ep_cmp od_isnot (ep_var (pv 7)) ep_non) (eg_one (ep_cmp (od_eq hr.units) (ep_var (pv 7)) (ep_var (pv 1))))) ap_nil))))) (tw_or1 (tp_not (tp_val (pcall E__law_same (hr.mono (by decide)) (by rfl) (ap_cons (pcall E_same_measure (hr.mono (by decide)) (by rfl) (ap_cons (ep_ix ix_d (ep_var (pv 2)) ep_int) (ap_cons (ep_var (pv 3)) ap_nil))) (ap_cons (ep_cmp (od_eq hr.units) (ep_var (pv 7)) (ep_bin od_add (ep_var (pv 1)) (ep_var (pv 1)))) ap_nil)))))))) (sb_cons (sg_ret ep_bl) sb_nil) sb_nil) (sb_cons (sg_if (tw_tg (tpw_and (tp_cmp od_isnot (ep_var (pv 7)) ep_non) (tw_and1 (tp_not (tp_val (pcall E__law_same (hr.mono (by decide)) (by rfl) (ap_cons (pcall E_read_measure (hr.mono (by decide)) (by rfl) (ap_cons (pcall E_written_measure (hr.mono (by decide)) (by rfl) (ap_cons (ep_var (pv 7)) ap_nil)) ap_nil)) (ap_cons (ep_var (pv 7)) ap_nil)))))))) (sb_cons (sg_ret ep_bl) sb_nil) sb_nil) sb_nil)))))) (sb_cons (sg_set S.nd rfl (.inl rfl) (eg_callT cd_tup (by rfl) T.n_tuple (ag_cons ((eg_comp (own := [("k", 6)]) rfl S.nd (ig_range1 (by rfl) T.n_range (ag_cons (mcall E__law_take (hr.mono (by decide)) (by rfl) (am_here (pv 0) (ap_cons ep_int ap_nil))) ap_nil)) (blkOk_by (by rfl)) (fun _ _ _ _ _ => (gg_name S.nd rfl (.inl rfl))) (fun _ _ _ _ _ => ts_nil) (fun _ _ _ _ _ => (eg_ix ix_d (ep_var (pv 2)) (mcall E__law_take (hr.mono (by decide)) (by rfl) (am_here (pv 0) (ap_cons (ep_callB cd_len (by rfl) T.n_len (ab_cons (ep_var (pv 2)) ab_nil)) ap_nil))))) (oo_name 6) (fun h => nomatch h)).toK) ap_nil))) (sb_cons (sg_setO S.nd rfl (.inr rfl) ep_dnewT) (sb_cons (sg_for PassesOwn.never rfl (ip_range1 (by rfl) T.n_range (ap_cons (ep_callB cd_len (by rfl) T.n_len (ab_cons (ep_var (pv 4)) ab_nil)) ap_nil)) (gg_name S.nd rfl (.inl rfl)) (SB.fg [6, 7] (sb_cons (sg_set S.nd rfl (.inl rfl) (pcall E__law_read (hr.mono (by decide)) (by rfl) (ap_cons (ep_ix ix_d (ep_var (pv 4)) (ep_var (pv 6))) ap_nil))) (sb_cons (sg_if (tp_cmp od_isnot (ep_var (pv 7)) ep_non) (sb_cons (sg_storeD hr.units (ep_bin od_add (ep_dget2 hr.units (ep_varB (pv 5)) (ep_var (pv 7)) (ep_tup ap_nil)) (ep_tup (ap_cons (ep_var (pv 6)) ap_nil))) (pv 5) (ep_var (pv 7))) sb_nil) sb_nil) sb_nil)))) (sb_cons (sg_ret (pcall E__law_same (hr.mono (by decide)) (by rfl) (ap_cons (pcall E_by_measure (hr.mono (by decide)) (by rfl) (ap_cons (ep_var (pv 4)) ap_nil)) (ap_cons (ep_callT cd_tup (by rfl) T.n_tuple (ab_cons (ep_comp (own := [("own", 8)]) rfl S.nd (ip_any (kd := .f) (ep_callB (cd_sortMT (kd := .f) trivial rfl hr.units) (by rfl) T.n_sorted (ab_cons (ep_varB (pv 5)) ab_nil))) (blkOk_by (by rfl)) (fun _ _ _ _ _ => (gg_name S.nd rfl (.inl rfl))) (fun _ _ _ _ _ => ts_nil) (fun _ _ _ _ _ => (ep_tup (ap_cons (ep_var (pv 8)) (ap_cons (ep_dget hr.units (ep_varB (pv 5)) (ep_var (pv 8))) ap_nil)))) (oo_name 8)) ab_nil)) ap_nil)))) sb_nil)))))))
theorem ok_fits_tune (T : Top K mg) : Ent P w K mg base 1 "fits_tune" ["measure", "tune"] (spP K 2 .k m_fits_tune) := by
  have S := sc_fits_tune
  have z := ent_pure (k := 0) (P := P) (w := w) (base := base) T.d_fits_tune (b := b_fits_tune) S
  refine z fun f cdv A outer s H E hr => ?_
  exact
    (sb_cons (sg_set S.nd rfl (.inl rfl) (ep_bin od_div (ep_callB cd_len (by rfl) T.n_len (ab_cons (ep_var (pv 0)) ab_nil)) (ep_callB cd_len (by rfl) T.n_len (ab_cons (ep_var (pv 1)) ab_nil)))) (sb_cons (sg_ret (ep_and (ep_cmp (od_gt hr.units) (ep_var (pv 2)) ep_int) (eg_one (ep_cmp (od_eq hr.units) (ep_var (pv 0)) (ep_bin od_repT (ep_var (pv 1)) (ep_var (pv 2))))))) sb_nil))
theorem ok_tunes_for (T : Top K mg) (E_fits_tune : Ent P w K mg base 1 "fits_tune" ["measure", "tune"] (spP K 2 .k m_fits_tune)) : Ent P w K mg base 2 "tunes_for" ["measures", "tunes"] (spP K 2 .k m_tunes_for) := by
  have S := sc_tunes_for
  have z := ent_pure (k := 1) (P := P) (w := w) (base := base) T.d_tunes_for (b := b_tunes_for) S
  refine z fun f cdv A outer s H E hr => ?_
  exact
    (sb_cons (sg_setO S.nd rfl (.inl rfl) (ep_lst ap_nil)) (sb_cons (sg_for PassesOwn.never rfl (ip_any (kd := .k) (ep_var (pv 0))) (gg_name S.nd rfl (.inr rfl)) (SB.fg [3] (sb_cons (sg_expr (eg_mut PySem.F.plainAttrs_list PySem.F.slot_list_append PySem.F.type_list_append mu_append (pv 2) (ap_cons (ep_callT cd_tup (by rfl) T.n_tuple (ab_cons (ep_comp (own := [("number", 4)]) rfl S.nd (ip_range1 (by rfl) T.n_range (ap_cons (ep_callB cd_len (by rfl) T.n_len (ab_cons (ep_var (pv 1)) ab_nil)) ap_nil)) (blkOk_by (by rfl)) (fun _ _ _ _ _ => (gg_name S.nd rfl (.inl rfl))) (fun _ _ _ _ _ => (ts_one (tp_val (pcall E_fits_tune (hr.mono (by decide)) (by rfl) (ap_cons (ep_var (pv 3)) (ap_cons (ep_ix ix_d (ep_var (pv 1)) (ep_var (pv 4))) ap_nil)))))) (fun _ _ _ _ _ => (ep_var (pv 4))) (oo_name 4)) ab_nil)) ap_nil))) sb_nil))) (sb_cons (sg_ret (ep_callT cd_tup (by rfl) T.n_tuple (ab_cons (ep_varB (pv 2)) ab_nil))) sb_nil)))
theorem ok__law_fits (T : Top K mg) : Ent P w K mg base 1 "_law_fits" ["measure", "tune"] (spP K 2 .k m__law_fits) := by
  have S := sc__law_fits
  have z := ent_pure (k := 0) (P := P) (w := w) (base := base) T.d__law_fits (b := b__law_fits) S
  refine z fun f cdv A outer s H E hr => ?_
  exact
    (sb_cons (sg_set S.nd rfl (.inl rfl) ep_int) (sb_cons (sg_while PassesOwn.never (tp_cmp (od_lt hr.units) (ep_bin od_mul (ep_callB cd_len (by rfl) T.n_len (ab_cons (ep_var (pv 1)) ab_nil)) (ep_var (pv 2))) (ep_callB cd_len (by rfl) T.n_len (ab_cons (ep_var (pv 0)) ab_nil))) (SB.fg [] (sb_cons (sg_set S.nd rfl (.inl rfl) (ep_bin od_add (ep_var (pv 2)) ep_int)) sb_nil))) (sb_cons (sg_ret (ep_cmp (od_eq hr.units) (ep_bin od_repT (ep_var (pv 1)) (ep_var (pv 2))) (ep_var (pv 0)))) sb_nil)))
theorem ok__law_are_tunes_right (T : Top K mg) (E__law_fits : Ent P w K mg base 1 "_law_fits" ["measure", "tune"] (spP K 2 .k m__law_fits)) (E__law_same : Ent P w K mg base 6 "_law_same" ["actual", "due"] (spP K 2 .k (m__law_same 6))) (E_fits_tune : Ent P w K mg base 1 "fits_tune" ["measure", "tune"] (spP K 2 .k m_fits_tune)) (E_tunes_for : Ent P w K mg base 2 "tunes_for" ["measures", "tunes"] (spP K 2 .k m_tunes_for)) (E_written_measure : Ent P w K mg base 2 "written_measure" ["lines"] (spP K 1 .k m_written_measure)) : Ent P w K mg base 7 "_law_are_tunes_right" ["draws", "measures", "tunes"] (spM K 3 0 m__law_are_tunes_right) := by
  have S := sc__law_are_tunes_right
  have z := ent_mut (k := 6) (j := 0) (P := P) (w := w) (base := base) T.d__law_are_tunes_right (b := b__law_are_tunes_right) S
  refine z fun f cdv A outer s H E hr => ?_
  exact
    (sb_cons (sg_set S.nd rfl (.inl rfl) (ep_callT cd_tup (by rfl) T.n_tuple (ab_cons (ep_comp (own := [("measure", 4)]) rfl S.nd (ip_any (kd := .k) (ep_var (pv 1))) (blkOk_by (by rfl)) (fun _ _ _ _ _ => (gg_name S.nd rfl (.inr rfl))) (fun _ _ _ _ _ => ts_nil) (fun _ _ _ _ _ => (ep_callT cd_tup (by rfl) T.n_tuple (ab_cons (ep_comp (own := [("k", 8)]) rfl S.nd (ip_range1 (by rfl) T.n_range (ap_cons (ep_callB cd_len (by rfl) T.n_len (ab_cons (ep_var (pv 2)) ab_nil)) ap_nil)) (blkOk_by (by rfl)) (fun _ _ _ _ _ => (gg_name S.nd rfl (.inl rfl))) (fun _ _ _ _ _ => (ts_one (tp_val (pcall E__law_fits (hr.mono (by decide)) (by rfl) (ap_cons (ep_var (pv 4)) (ap_cons (ep_ix ix_d (ep_var (pv 2)) (ep_var (pv 8))) ap_nil)))))) (fun _ _ _ _ _ => (ep_var (pv 8))) (oo_name 8)) ab_nil))) (oo_name 4)) ab_nil))) (sb_cons (sg_if (tp_not (tp_val (pcall E__law_same (hr.mono (by decide)) (by rfl) (ap_cons (pcall E_tunes_for (hr.mono (by decide)) (by rfl) (ap_cons (ep_var (pv 1)) (ap_cons (ep_var (pv 2)) ap_nil))) (ap_cons (ep_var (pv 3)) ap_nil))))) (sb_cons (sg_ret ep_bl) sb_nil) sb_nil) (sb_cons (sg_for PassesOwn.never rfl (ip_any (kd := .k) (ep_var (pv 1))) (gg_name S.nd rfl (.inl rfl)) (SB.fg [4, 5, 6, 7] (sb_cons (sg_if (tw_tg (tpw_or (tp_not (tp_val (pcall E__law_same (hr.mono (by decide)) (by rfl) (ap_cons (pcall E_fits_tune (hr.mono (by decide)) (by rfl) (ap_cons (ep_var (pv 4)) (ap_cons (ep_var (pv 4)) ap_nil))) (ap_cons ep_bl ap_nil))))) (tw_or1 (tp_not (tp_val (pcall E__law_same (hr.mono (by decide)) (by rfl) (ap_cons (pcall E_fits_tune (hr.mono (by decide)) (by rfl) (ap_cons (ep_bin od_add (ep_var (pv 4)) (ep_var (pv 4))) (ap_cons (ep_var (pv 4)) ap_nil))) (ap_cons ep_bl ap_nil)))))))) (sb_cons (sg_ret ep_bl) sb_nil) sb_nil) (sb_cons (sg_set S.nd rfl (.inl rfl) (ep_sl sl_d (ep_var (pv 4)) og_none (og_some (ep_bin od_div (ep_callB cd_len (by rfl) T.n_len (ab_cons (ep_var (pv 4)) ab_nil)) ep_int)))) (sb_cons (sg_if (tw_tg (tpw_and (tp_cmp (od_eq hr.units) (ep_sl sl_d (pcall E_written_measure (hr.mono (by decide)) (by rfl) (ap_cons (ep_var (pv 4)) ap_nil)) (og_some (ep_un ud_neg ep_int)) og_none) ep_str) (tw_and1 (tp_not (tp_val (pcall E__law_same (hr.mono (by decide)) (by rfl) (ap_cons (pcall E_fits_tune (hr.mono (by decide)) (by rfl) (ap_cons (ep_var (pv 4)) (ap_cons (ep_var (pv 5)) ap_nil))) (ap_cons ep_bl ap_nil)))))))) (sb_cons (sg_ret ep_bl) sb_nil) sb_nil) (sb_cons (sg_for PassesOwn.never rfl (ip_any (kd := .k) (ep_var (pv 2))) (gg_name S.nd rfl (.inl rfl)) (SB.fg [6, 7] (sb_cons (sg_if (tp_not (tp_val (pcall E__law_same (hr.mono (by decide)) (by rfl) (ap_cons (pcall E_fits_tune (hr.mono (by decide)) (by rfl) (ap_cons (ep_var (pv 4)) (ap_cons (ep_var (pv 6)) ap_nil))) (ap_cons (pcall E__law_fits (hr.mono (by decide)) (by rfl) (ap_cons (ep_var (pv 4)) (ap_cons (ep_var (pv 6)) ap_nil))) ap_nil))))) (sb_cons (sg_ret ep_bl) sb_nil) sb_nil) (sb_cons (sg_for PassesOwn.never rfl (ip_any (kd := .k) (ep_var (pv 2))) (gg_name S.nd rfl (.inl rfl)) (SB.fg [7] (sb_cons (sg_if (tw_tg (tpw_and (tp_val (pcall E_fits_tune (hr.mono (by decide)) (by rfl) (ap_cons (ep_var (pv 4)) (ap_cons (ep_var (pv 6)) ap_nil)))) (tpw_and (tp_val (pcall E_fits_tune (hr.mono (by decide)) (by rfl) (ap_cons (ep_var (pv 6)) (ap_cons (ep_var (pv 7)) ap_nil)))) (tw_and1 (tp_not (tp_val (pcall E_fits_tune (hr.mono (by decide)) (by rfl) (ap_cons (ep_var (pv 4)) (ap_cons (ep_var (pv 7)) ap_nil))))))))) (sb_cons (sg_ret ep_bl) sb_nil) sb_nil) (sb_cons (sg_if (tw_tg (tpw_and (tp_val (pcall E_fits_tune (hr.mono (by decide)) (by rfl) (ap_cons (ep_var (pv 4)) (ap_cons (ep_var (pv 6)) ap_nil)))) (tpw_and (tp_val (pcall E_fits_tune (hr.mono (by decide)) (by rfl) (ap_cons (ep_var (pv 4)) (ap_cons (ep_var (pv 7)) ap_nil)))) (tpw_and (tp_cmp (od_eq hr.units) (ep_callB cd_abs (by rfl) T.n_abs (ab_cons (ep_bin od_sub (ep_callB cd_len (by rfl) T.n_len (ab_cons (ep_var (pv 6)) ab_nil)) (ep_callB cd_len (by rfl) T.n_len (ab_cons (ep_var (pv 7)) ab_nil))) ab_nil)) ep_int) (tw_and1 (tp_cmp (od_ne hr.units) (ep_lensetT rfl (by rfl) T.n_len (by rfl) T.n_set (ep_var (pv 4))) ep_int)))))) (sb_cons (sg_ret ep_bl) sb_nil) sb_nil) sb_nil)))) sb_nil)))) sb_nil)))))) (sb_cons (sg_ret ep_bl) sb_nil))))
theorem ok__law_lines (T : Top K mg) (E__law_take : Ent P w K mg base 1 "_law_take" ["draws", "many"] (spM K 2 0 m__law_take)) : Ent P w K mg base 2 "_law_lines" ["draws", "cell"] (spM K 2 0 m__law_lines) := by
  have S := sc__law_lines
  have z := ent_mut (k := 1) (j := 0) (P := P) (w := w) (base := base) T.d__law_lines (b := b__law_lines) S
  refine z fun f cdv A outer s H E hr => ?_
  exact
    (sb_cons (sg_set S.nd rfl (.inl rfl) (eg_callT cd_tup (by rfl) T.n_tuple (ag_cons ((eg_comp (own := [("k", 3)]) rfl S.nd (ig_range1 (by rfl) T.n_range (ag_cons (eg_bin od_add ep_int (mcall E__law_take (hr.mono (by decide)) (by rfl) (am_here (pv 0) (ap_cons ep_int ap_nil)))) ap_nil)) (blkOk_by (by rfl)) (fun _ _ _ _ _ => (gg_name S.nd rfl (.inl rfl))) (fun _ _ _ _ _ => ts_nil) (fun _ _ _ _ _ => (eg_ix ix_d (eg_lst (ag_cons (eg_bin od_add ep_int (mcall E__law_take (hr.mono (by decide)) (by rfl) (am_here (pv 0) (ap_cons ep_int ap_nil)))) (ag_cons (eg_bin od_add ep_int (eg_bin od_mul ep_int (mcall E__law_take (hr.mono (by decide)) (by rfl) (am_here (pv 0) (ap_cons ep_int ap_nil))))) (ag_cons ep_int ap_nil)))) (mcall E__law_take (hr.mono (by decide)) (by rfl) (am_here (pv 0) (ap_cons ep_int ap_nil))))) (oo_name 3) (fun h => nomatch h)).toK) ap_nil))) (sb_cons (sg_if (tg_cmp (od_eq hr.units) (mcall E__law_take (hr.mono (by decide)) (by rfl) (am_here (pv 0) (ap_cons ep_int ap_nil))) ep_int) (sb_cons (sg_set S.nd rfl (.inl rfl) (ep_bin od_add (ep_var (pv 2)) (ep_tup (ap_cons (ep_bin od_add ep_int (ep_var (pv 1))) ap_nil)))) sb_nil) sb_nil) (sb_cons (sg_ret (eg_bin od_repT (ep_var (pv 2)) (eg_ix ix_d (ep_lst (ap_cons ep_int (ap_cons ep_int (ap_cons ep_int (ap_cons ep_int ap_nil))))) (mcall E__law_take (hr.mono (by decide)) (by rfl) (am_here (pv 0) (ap_cons ep_int ap_nil)))))) sb_nil)))
theorem ok_law (T : Top K mg) (E__law_are_texts_right : Ent P w K mg base 7 "_law_are_texts_right" ["draws", "lines"] (spM K 2 0 m__law_are_texts_right)) (E__law_are_tunes_right : Ent P w K mg base 7 "_law_are_tunes_right" ["draws", "measures", "tunes"] (spM K 3 0 m__law_are_tunes_right)) (E__law_cell : Ent P w K mg base 2 "_law_cell" ["script", "draws"] (spM K 2 1 m__law_cell)) (E__law_draws : Ent P w K mg base 1 "_law_draws" ["script", "many"] (spP K 2 .f m__law_draws)) (E__law_lines : Ent P w K mg base 2 "_law_lines" ["draws", "cell"] (spM K 2 0 m__law_lines)) (E__law_same : Ent P w K mg base 6 "_law_same" ["actual", "due"] (spP K 2 .k (m__law_same 6))) (E__law_take : Ent P w K mg base 1 "_law_take" ["draws", "many"] (spM K 2 0 m__law_take)) (E_by_measure : Ent P w K mg base 3 "by_measure" ["hymns"] (spP K 1 .k m_by_measure)) (E_fits_tune : Ent P w K mg base 1 "fits_tune" ["measure", "tune"] (spP K 2 .k m_fits_tune)) (E_read_measure : Ent P w K mg base 2 "read_measure" ["text"] (spP K 1 .k m_read_measure)) (E_same_measure : Ent P w K mg base 3 "same_measure" ["one", "other"] (spP K 2 .k m_same_measure)) (E_tunes_for : Ent P w K mg base 2 "tunes_for" ["measures", "tunes"] (spP K 2 .k m_tunes_for)) (E_written_measure : Ent P w K mg base 2 "written_measure" ["lines"] (spP K 1 .k m_written_measure)) : Ent P w K mg base 8 "law" ["script"] (spP K 1 .k m_law) := by
  have S := sc_law
  have z := ent_pure (k := 7) (P := P) (w := w) (base := base) T.d_law (b := b_law) S
  refine z fun f cdv A outer s H E hr => ?_
  exact
    (sb_cons (sg_setO S.nd rfl (.inr rfl) (pcall E__law_draws (hr.mono (by decide)) (by rfl) (ap_cons (ep_var (pv 0)) (ap_cons ep_int ap_nil)))) (sb_cons (sg_set S.nd rfl (.inr rfl) (eg_bin od_mod (eg_callB cd_abs (by rfl) T.n_abs (ag_cons (mcall E__law_cell (hr.mono (by decide)) (by rfl) (am_cons (ep_var (pv 0)) (am_here (pv 1) ap_nil))) ap_nil)) (ep_bin od_pow ep_int ep_int))) (sb_cons (sg_for PassesOwn.never rfl (ip_range1 (by rfl) T.n_range (ap_cons ep_int ap_nil)) (gg_name S.nd rfl (.inl rfl)) (SB.fg [3, 4, 5, 6] (sb_cons (sg_if (tg_not (tg_val (mcall E__law_are_texts_right (hr.mono (by decide)) (by rfl) (am_here (pv 1) (ag_cons (mcall E__law_lines (hr.mono (by decide)) (by rfl) (am_here (pv 1) (ap_cons (ep_var (pv 2)) ap_nil))) ap_nil))))) (sb_cons (sg_ret ep_bl) sb_nil) sb_nil) (sb_cons (sg_set S.nd rfl (.inl rfl) (eg_callT cd_tup (by rfl) T.n_tuple (ag_cons ((eg_comp (own := [("k", 7)]) rfl S.nd (ig_range1 (by rfl) T.n_range (ag_cons (mcall E__law_take (hr.mono (by decide)) (by rfl) (am_here (pv 1) (ap_cons ep_int ap_nil))) ap_nil)) (blkOk_by (by rfl)) (fun _ _ _ _ _ => (gg_name S.nd rfl (.inl rfl))) (fun _ _ _ _ _ => ts_nil) (fun _ _ _ _ _ => (mcall E__law_lines (hr.mono (by decide)) (by rfl) (am_here (pv 1) (ap_cons (ep_var (pv 2)) ap_nil)))) (oo_name 7) (fun h => nomatch h)).toK) ap_nil))) (sb_cons (sg_setO S.nd rfl (.inl rfl) (eg_bin (od_cat (kd := .f) trivial) (eg_comp (own := [("k", 7)]) rfl S.nd (ig_range1 (by rfl) T.n_range (ag_cons (mcall E__law_take (hr.mono (by decide)) (by rfl) (am_here (pv 1) (ap_cons ep_int ap_nil))) ap_nil)) (blkOk_by (by rfl)) (fun _ _ _ _ _ => (gg_name S.nd rfl (.inl rfl))) (fun _ _ _ _ _ => ts_nil) (fun _ _ _ _ _ => (mcall E__law_lines (hr.mono (by decide)) (by rfl) (am_here (pv 1) (ap_cons (ep_var (pv 2)) ap_nil)))) (oo_name 7) (fun h => nomatch h)) (eg_sl sl_d (ep_lst (ap_cons (ep_tup (ap_cons ep_int ap_nil)) (ap_cons (ep_tup (ap_cons ep_int (ap_cons ep_int ap_nil))) (ap_cons (ep_tup (ap_cons ep_int (ap_cons ep_int ap_nil))) ap_nil)))) (oe_of og_none) (oe_some (mcall E__law_take (hr.mono (by decide)) (by rfl) (am_here (pv 1) (ap_cons ep_int ap_nil))))))) (sb_cons (sg_for PassesOwn.never rfl (ip_any (kd := .k) (ep_var (pv 4))) (gg_name S.nd rfl (.inl rfl)) (SB.fg [6] (sb_cons (sg_expr (eg_mut PySem.F.plainAttrs_list PySem.F.slot_list_append PySem.F.type_list_append mu_append (pv 5) (ag_cons (eg_sl sl_d (ep_var (pv 6)) (oe_of og_none) (oe_some (eg_bin od_add ep_int (mcall E__law_take (hr.mono (by decide)) (by rfl) (am_here (pv 1) (ap_cons (ep_callB cd_len (by rfl) T.n_len (ab_cons (ep_var (pv 6)) ab_nil)) ap_nil)))))) ap_nil))) sb_nil))) (sb_cons (sg_if (tg_not (tg_val (mcall E__law_are_tunes_right (hr.mono (by decide)) (by rfl) (am_here (pv 1) (ap_cons (ep_var (pv 4)) (ap_cons (ep_callT cd_tup (by rfl) T.n_tuple (ab_cons (ep_varB (pv 5)) ab_nil)) ap_nil)))))) (sb_cons (sg_ret ep_bl) sb_nil) sb_nil) sb_nil))))))) (sb_cons (sg_if (tw_tg (tpw_or (tp_not (tp_val (pcall E__law_same (hr.mono (by decide)) (by rfl) (ap_cons (pcall E_read_measure (hr.mono (by decide)) (by rfl) (ap_cons ep_str ap_nil)) (ap_cons (ep_bin od_repT (ep_tup (ap_cons ep_int (ap_cons ep_int ap_nil))) ep_int) ap_nil))))) (tpw_or (tp_not (tp_val (pcall E__law_same (hr.mono (by decide)) (by rfl) (ap_cons (pcall E_written_measure (hr.mono (by decide)) (by rfl) (ap_cons (ep_bin od_repT (ep_tup (ap_cons ep_int (ap_cons ep_int ap_nil))) ep_int) ap_nil)) (ap_cons ep_str ap_nil))))) (tw_or1 (tp_not (tp_val (pcall E__law_same (hr.mono (by decide)) (by rfl) (ap_cons (pcall E_written_measure (hr.mono (by decide)) (by rfl) (ap_cons (ep_tup (ap_cons ep_int (ap_cons ep_int ap_nil))) ap_nil)) (ap_cons ep_str ap_nil))))))))) (sb_cons (sg_ret ep_bl) sb_nil) sb_nil) (sb_cons (sg_if (tw_tg (tpw_or (tp_not (tp_val (pcall E__law_same (hr.mono (by decide)) (by rfl) (ap_cons (pcall E_same_measure (hr.mono (by decide)) (by rfl) (ap_cons ep_str (ap_cons ep_str ap_nil))) (ap_cons ep_bl ap_nil))))) (tpw_or (tp_not (tp_val (pcall E__law_same (hr.mono (by decide)) (by rfl) (ap_cons (pcall E_same_measure (hr.mono (by decide)) (by rfl) (ap_cons ep_str (ap_cons ep_str ap_nil))) (ap_cons ep_bl ap_nil))))) (tw_or1 (tp_not (tp_val (pcall E__law_same (hr.mono (by decide)) (by rfl) (ap_cons (pcall E_fits_tune (hr.mono (by decide)) (by rfl) (ap_cons (ep_tup (ap_cons ep_int (ap_cons ep_int (ap_cons ep_int ap_nil)))) (ap_cons (ep_tup (ap_cons ep_int (ap_cons ep_int ap_nil))) ap_nil))) (ap_cons ep_bl ap_nil))))))))) (sb_cons (sg_ret ep_bl) sb_nil) sb_nil) (sb_cons (sg_ret (ep_and (pcall E__law_same (hr.mono (by decide)) (by rfl) (ap_cons (pcall E_by_measure (hr.mono (by decide)) (by rfl) (ap_cons (ep_tup (ap_cons ep_str (ap_cons ep_str (ap_cons ep_str (ap_cons ep_str ap_nil))))) ap_nil)) (ap_cons (ep_tup (ap_cons (ep_tup (ap_cons (ep_tup (ap_cons ep_int ap_nil)) (ap_cons (ep_tup (ap_cons ep_int ap_nil)) ap_nil))) (ap_cons (ep_tup (ap_cons (ep_tup (ap_cons ep_int (ap_cons ep_int ap_nil))) (ap_cons (ep_tup (ap_cons ep_int (ap_cons ep_int ap_nil))) ap_nil))) ap_nil))) ap_nil))) (eg_one (pcall E__law_same (hr.mono (by decide)) (by rfl) (ap_cons (pcall E_tunes_for (hr.mono (by decide)) (by rfl) (ap_cons (ep_tup (ap_cons (ep_tup (ap_cons ep_int (ap_cons ep_int (ap_cons ep_int (ap_cons ep_int ap_nil))))) ap_nil)) (ap_cons (ep_tup (ap_cons (ep_tup (ap_cons ep_int ap_nil)) (ap_cons (ep_tup (ap_cons ep_int (ap_cons ep_int ap_nil))) (ap_cons (ep_tup (ap_cons ep_int (ap_cons ep_int (ap_cons ep_int (ap_cons ep_int (ap_cons ep_int (ap_cons ep_int ap_nil))))))) ap_nil)))) ap_nil))) (ap_cons (ep_tup (ap_cons (ep_tup (ap_cons ep_int ap_nil)) ap_nil)) ap_nil)))))) sb_nil))))))
end
set_option maxHeartbeats 0 in
theorem all_mk {l : PySem.W.OpenLaw} {w : World} {K : PySem.W.Frag} {h : Heap} {mg : Str → Option Value} {fa f0 f1 f2 f3 f4 f5 f6 f7 f8 f9 f10 f11 f12 f13 f14 f15 f16 f17 f18 f19 f20 : Addr} (X : K.In h) (G : h.Ns mainGlobals mg) (hfa : mg "law" = some (.ref fa))
    {od0 an0 od1 an1 od2 an2 od3 an3 od4 an4 od5 an5 od6 an6 od7 an7 od8 an8 od9 an9 od10 an10 od11 an11 od12 an12 od13 an13 od14 an14 od15 an15 od16 an16 od17 an17 od18 an18 od19 an19 od20 an20 : Option Addr} {sl0 sl1 sl2 sl3 sl4 sl5 sl6 sl7 sl8 sl9 sl10 sl11 sl12 sl13 sl14 sl15 sl16 sl17 sl18 sl19 sl20 : Array (Option Value)} {oc0 kV0 dc0 pm0 cd0 ct0 oc1 kV1 dc1 pm1 cd1 ct1 oc2 kV2 dc2 pm2 cd2 ct2 oc3 kV3 dc3 pm3 cd3 ct3 oc4 kV4 dc4 pm4 cd4 ct4 oc5 kV5 dc5 pm5 cd5 ct5 oc6 kV6 dc6 pm6 cd6 ct6 oc7 kV7 dc7 pm7 cd7 ct7 oc8 kV8 dc8 pm8 cd8 ct8 oc9 kV9 dc9 pm9 cd9 ct9 oc10 kV10 dc10 pm10 cd10 ct10 oc11 kV11 dc11 pm11 cd11 ct11 oc12 kV12 dc12 pm12 cd12 ct12 oc13 kV13 dc13 pm13 cd13 ct13 oc14 kV14 dc14 pm14 cd14 ct14 oc15 kV15 dc15 pm15 cd15 ct15 oc16 kV16 dc16 pm16 cd16 ct16 oc17 kV17 dc17 pm17 cd17 ct17 oc18 kV18 dc18 pm18 cd18 ct18 oc19 kV19 dc19 pm19 cd19 ct19 oc20 kV20 dc20 pm20 cd20 ct20 : Value}
    (a0 : PySem.W.nsIn K mainGlobals "_law_draws" = some (some (.ref f0))) (l0 : K.lookup f0 = some ⟨oc0, od0, .func (PySem.W.fnOf "_law_draws" "_law_draws" (defArgs (topS 12)) (defBody (topS 12)) (defScope (topS 12)) .none kV0 dc0 pm0 an0 cd0 ct0), sl0⟩) (c0 : PySem.W.codeIn K cd0 "_law_draws" = true) (k0 : PySem.W.keepIn K (.ref f0) = true)
    (a1 : PySem.W.nsIn K mainGlobals "_law_same" = some (some (.ref f1))) (l1 : K.lookup f1 = some ⟨oc1, od1, .func (PySem.W.fnOf "_law_same" "_law_same" (defArgs (topS 15)) (defBody (topS 15)) (defScope (topS 15)) .none kV1 dc1 pm1 an1 cd1 ct1), sl1⟩) (c1 : PySem.W.codeIn K cd1 "_law_same" = true) (k1 : PySem.W.keepIn K (.ref f1) = true)
    (a2 : PySem.W.nsIn K mainGlobals "_law_take" = some (some (.ref f2))) (l2 : K.lookup f2 = some ⟨oc2, od2, .func (PySem.W.fnOf "_law_take" "_law_take" (defArgs (topS 13)) (defBody (topS 13)) (defScope (topS 13)) .none kV2 dc2 pm2 an2 cd2 ct2), sl2⟩) (c2 : PySem.W.codeIn K cd2 "_law_take" = true) (k2 : PySem.W.keepIn K (.ref f2) = true)
    (a3 : PySem.W.nsIn K mainGlobals "_law_cell" = some (some (.ref f3))) (l3 : K.lookup f3 = some ⟨oc3, od3, .func (PySem.W.fnOf "_law_cell" "_law_cell" (defArgs (topS 14)) (defBody (topS 14)) (defScope (topS 14)) .none kV3 dc3 pm3 an3 cd3 ct3), sl3⟩) (c3 : PySem.W.codeIn K cd3 "_law_cell" = true) (k3 : PySem.W.keepIn K (.ref f3) = true)
    (a4 : PySem.W.nsIn K mainGlobals "_law_text" = some (some (.ref f4))) (l4 : K.lookup f4 = some ⟨oc4, od4, .func (PySem.W.fnOf "_law_text" "_law_text" (defArgs (topS 17)) (defBody (topS 17)) (defScope (topS 17)) .none kV4 dc4 pm4 an4 cd4 ct4), sl4⟩) (c4 : PySem.W.codeIn K cd4 "_law_text" = true) (k4 : PySem.W.keepIn K (.ref f4) = true)
    (a5 : PySem.W.nsIn K mainGlobals "_law_others" = some (some (.ref f5))) (l5 : K.lookup f5 = some ⟨oc5, od5, .func (PySem.W.fnOf "_law_others" "_law_others" (defArgs (topS 19)) (defBody (topS 19)) (defScope (topS 19)) .none kV5 dc5 pm5 an5 cd5 ct5), sl5⟩) (c5 : PySem.W.codeIn K cd5 "_law_others" = true) (k5 : PySem.W.keepIn K (.ref f5) = true)
    (a6 : PySem.W.nsIn K mainGlobals "_law_read" = some (some (.ref f6))) (l6 : K.lookup f6 = some ⟨oc6, od6, .func (PySem.W.fnOf "_law_read" "_law_read" (defArgs (topS 18)) (defBody (topS 18)) (defScope (topS 18)) .none kV6 dc6 pm6 an6 cd6 ct6), sl6⟩) (c6 : PySem.W.codeIn K cd6 "_law_read" = true) (k6 : PySem.W.keepIn K (.ref f6) = true)
    (a7 : PySem.W.nsIn K mainGlobals "is_line" = some (some (.ref f7))) (l7 : K.lookup f7 = some ⟨oc7, od7, .func (PySem.W.fnOf "is_line" "is_line" (defArgs (topS 2)) (defBody (topS 2)) (defScope (topS 2)) .none kV7 dc7 pm7 an7 cd7 ct7), sl7⟩) (c7 : PySem.W.codeIn K cd7 "is_line" = true) (k7 : PySem.W.keepIn K (.ref f7) = true)
    (a8 : PySem.W.nsIn K mainGlobals "read_measure" = some (some (.ref f8))) (l8 : K.lookup f8 = some ⟨oc8, od8, .func (PySem.W.fnOf "read_measure" "read_measure" (defArgs (topS 3)) (defBody (topS 3)) (defScope (topS 3)) .none kV8 dc8 pm8 an8 cd8 ct8), sl8⟩) (c8 : PySem.W.codeIn K cd8 "read_measure" = true) (k8 : PySem.W.keepIn K (.ref f8) = true)
    (a9 : PySem.W.nsIn K mainGlobals "by_measure" = some (some (.ref f9))) (l9 : K.lookup f9 = some ⟨oc9, od9, .func (PySem.W.fnOf "by_measure" "by_measure" (defArgs (topS 8)) (defBody (topS 8)) (defScope (topS 8)) .none kV9 dc9 pm9 an9 cd9 ct9), sl9⟩) (c9 : PySem.W.codeIn K cd9 "by_measure" = true) (k9 : PySem.W.keepIn K (.ref f9) = true)
    (a10 : PySem.W.nsIn K mainGlobals "half_of" = some (some (.ref f10))) (l10 : K.lookup f10 = some ⟨oc10, od10, .func (PySem.W.fnOf "half_of" "half_of" (defArgs (topS 4)) (defBody (topS 4)) (defScope (topS 4)) .none kV10 dc10 pm10 an10 cd10 ct10), sl10⟩) (c10 : PySem.W.codeIn K cd10 "half_of" = true) (k10 : PySem.W.keepIn K (.ref f10) = true)
    (a11 : PySem.W.nsIn K mainGlobals "written_lines" = some (some (.ref f11))) (l11 : K.lookup f11 = some ⟨oc11, od11, .func (PySem.W.fnOf "written_lines" "written_lines" (defArgs (topS 5)) (defBody (topS 5)) (defScope (topS 5)) .none kV11 dc11 pm11 an11 cd11 ct11), sl11⟩) (c11 : PySem.W.codeIn K cd11 "written_lines" = true) (k11 : PySem.W.keepIn K (.ref f11) = true)
    (a12 : PySem.W.nsIn K mainGlobals "written_measure" = some (some (.ref f12))) (l12 : K.lookup f12 = some ⟨oc12, od12, .func (PySem.W.fnOf "written_measure" "written_measure" (defArgs (topS 6)) (defBody (topS 6)) (defScope (topS 6)) .none kV12 dc12 pm12 an12 cd12 ct12), sl12⟩) (c12 : PySem.W.codeIn K cd12 "written_measure" = true) (k12 : PySem.W.keepIn K (.ref f12) = true)
    (a13 : PySem.W.nsIn K mainGlobals "same_measure" = some (some (.ref f13))) (l13 : K.lookup f13 = some ⟨oc13, od13, .func (PySem.W.fnOf "same_measure" "same_measure" (defArgs (topS 7)) (defBody (topS 7)) (defScope (topS 7)) .none kV13 dc13 pm13 an13 cd13 ct13), sl13⟩) (c13 : PySem.W.codeIn K cd13 "same_measure" = true) (k13 : PySem.W.keepIn K (.ref f13) = true)
    (a14 : PySem.W.nsIn K mainGlobals "_law_are_texts_right" = some (some (.ref f14))) (l14 : K.lookup f14 = some ⟨oc14, od14, .func (PySem.W.fnOf "_law_are_texts_right" "_law_are_texts_right" (defArgs (topS 21)) (defBody (topS 21)) (defScope (topS 21)) .none kV14 dc14 pm14 an14 cd14 ct14), sl14⟩) (c14 : PySem.W.codeIn K cd14 "_law_are_texts_right" = true) (k14 : PySem.W.keepIn K (.ref f14) = true)
    (a15 : PySem.W.nsIn K mainGlobals "fits_tune" = some (some (.ref f15))) (l15 : K.lookup f15 = some ⟨oc15, od15, .func (PySem.W.fnOf "fits_tune" "fits_tune" (defArgs (topS 9)) (defBody (topS 9)) (defScope (topS 9)) .none kV15 dc15 pm15 an15 cd15 ct15), sl15⟩) (c15 : PySem.W.codeIn K cd15 "fits_tune" = true) (k15 : PySem.W.keepIn K (.ref f15) = true)
    (a16 : PySem.W.nsIn K mainGlobals "tunes_for" = some (some (.ref f16))) (l16 : K.lookup f16 = some ⟨oc16, od16, .func (PySem.W.fnOf "tunes_for" "tunes_for" (defArgs (topS 10)) (defBody (topS 10)) (defScope (topS 10)) .none kV16 dc16 pm16 an16 cd16 ct16), sl16⟩) (c16 : PySem.W.codeIn K cd16 "tunes_for" = true) (k16 : PySem.W.keepIn K (.ref f16) = true)
    (a17 : PySem.W.nsIn K mainGlobals "_law_fits" = some (some (.ref f17))) (l17 : K.lookup f17 = some ⟨oc17, od17, .func (PySem.W.fnOf "_law_fits" "_law_fits" (defArgs (topS 20)) (defBody (topS 20)) (defScope (topS 20)) .none kV17 dc17 pm17 an17 cd17 ct17), sl17⟩) (c17 : PySem.W.codeIn K cd17 "_law_fits" = true) (k17 : PySem.W.keepIn K (.ref f17) = true)
    (a18 : PySem.W.nsIn K mainGlobals "_law_are_tunes_right" = some (some (.ref f18))) (l18 : K.lookup f18 = some ⟨oc18, od18, .func (PySem.W.fnOf "_law_are_tunes_right" "_law_are_tunes_right" (defArgs (topS 22)) (defBody (topS 22)) (defScope (topS 22)) .none kV18 dc18 pm18 an18 cd18 ct18), sl18⟩) (c18 : PySem.W.codeIn K cd18 "_law_are_tunes_right" = true) (k18 : PySem.W.keepIn K (.ref f18) = true)
    (a19 : PySem.W.nsIn K mainGlobals "_law_lines" = some (some (.ref f19))) (l19 : K.lookup f19 = some ⟨oc19, od19, .func (PySem.W.fnOf "_law_lines" "_law_lines" (defArgs (topS 16)) (defBody (topS 16)) (defScope (topS 16)) .none kV19 dc19 pm19 an19 cd19 ct19), sl19⟩) (c19 : PySem.W.codeIn K cd19 "_law_lines" = true) (k19 : PySem.W.keepIn K (.ref f19) = true)
    (a20 : PySem.W.nsIn K mainGlobals "law" = some (some (.ref f20))) (l20 : K.lookup f20 = some ⟨oc20, od20, .func (PySem.W.fnOf "law" "law" (defArgs (topS 23)) (defBody (topS 23)) (defScope (topS 23)) .none kV20 dc20 pm20 an20 cd20 ct20), sl20⟩) (c20 : PySem.W.codeIn K cd20 "law" = true) (k20 : PySem.W.keepIn K (.ref f20) = true)
    (z_abs : PySem.W.nsIn K mainGlobals "abs" = some none)
    (z_all : PySem.W.nsIn K mainGlobals "all" = some none)
    (z_bool : PySem.W.nsIn K mainGlobals "bool" = some none)
    (z_int : PySem.W.nsIn K mainGlobals "int" = some none)
    (z_isinstance : PySem.W.nsIn K mainGlobals "isinstance" = some none)
    (z_len : PySem.W.nsIn K mainGlobals "len" = some none)
    (z_list : PySem.W.nsIn K mainGlobals "list" = some none)
    (z_range : PySem.W.nsIn K mainGlobals "range" = some none)
    (z_set : PySem.W.nsIn K mainGlobals "set" = some none)
    (z_sorted : PySem.W.nsIn K mainGlobals "sorted" = some none)
    (z_str : PySem.W.nsIn K mainGlobals "str" = some none)
    (z_tuple : PySem.W.nsIn K mainGlobals "tuple" = some none)
    {t_DIGITS : Tok} (g_DIGITS : PySem.W.nsIn K mainGlobals "DIGITS" = some (some (.str (PySem.Str.ofString "0123456789") t_DIGITS)))
    : ∃ fd : FuncData, (∀ (s : Shared) (v : Value), BindsTo s fd ⟨[v], []⟩ [("script", v)]) ∧ ∀ base : Heap, K.In base → base.Ns mainGlobals mg → FnOk l.prog w K mg base CX0 8 fa fd ["script"] (spP K 1 .k m_law) := by
  have e := hfa.symm.trans (PySem.W.mg_of X G a20)
  cases e
  have T : Top K mg := ⟨⟨_, _, fun_mk (st := topS 12) l0 c0 k0, PySem.W.mg_of X G a0, (fun_mk (st := topS 12) l0 c0 k0).binds (ps := ["script", "many"]) fun _ _ _ _ _ _ us hl => match us, hl with | [_, _], _ => rfl⟩, ⟨_, _, fun_mk (st := topS 15) l1 c1 k1, PySem.W.mg_of X G a1, (fun_mk (st := topS 15) l1 c1 k1).binds (ps := ["actual", "due"]) fun _ _ _ _ _ _ us hl => match us, hl with | [_, _], _ => rfl⟩, ⟨_, _, fun_mk (st := topS 13) l2 c2 k2, PySem.W.mg_of X G a2, (fun_mk (st := topS 13) l2 c2 k2).binds (ps := ["draws", "many"]) fun _ _ _ _ _ _ us hl => match us, hl with | [_, _], _ => rfl⟩, ⟨_, _, fun_mk (st := topS 14) l3 c3 k3, PySem.W.mg_of X G a3, (fun_mk (st := topS 14) l3 c3 k3).binds (ps := ["script", "draws"]) fun _ _ _ _ _ _ us hl => match us, hl with | [_, _], _ => rfl⟩, ⟨_, _, fun_mk (st := topS 17) l4 c4 k4, PySem.W.mg_of X G a4, (fun_mk (st := topS 17) l4 c4 k4).binds (ps := ["lines"]) fun _ _ _ _ _ _ us hl => match us, hl with | [_], _ => rfl⟩, ⟨_, _, fun_mk (st := topS 19) l5 c5 k5, PySem.W.mg_of X G a5, (fun_mk (st := topS 19) l5 c5 k5).binds (ps := ["draws", "lines"]) fun _ _ _ _ _ _ us hl => match us, hl with | [_, _], _ => rfl⟩, ⟨_, _, fun_mk (st := topS 18) l6 c6 k6, PySem.W.mg_of X G a6, (fun_mk (st := topS 18) l6 c6 k6).binds (ps := ["text"]) fun _ _ _ _ _ _ us hl => match us, hl with | [_], _ => rfl⟩, ⟨_, _, fun_mk (st := topS 2) l7 c7 k7, PySem.W.mg_of X G a7, (fun_mk (st := topS 2) l7 c7 k7).binds (ps := ["word"]) fun _ _ _ _ _ _ us hl => match us, hl with | [_], _ => rfl⟩, ⟨_, _, fun_mk (st := topS 3) l8 c8 k8, PySem.W.mg_of X G a8, (fun_mk (st := topS 3) l8 c8 k8).binds (ps := ["text"]) fun _ _ _ _ _ _ us hl => match us, hl with | [_], _ => rfl⟩, ⟨_, _, fun_mk (st := topS 8) l9 c9 k9, PySem.W.mg_of X G a9, (fun_mk (st := topS 8) l9 c9 k9).binds (ps := ["hymns"]) fun _ _ _ _ _ _ us hl => match us, hl with | [_], _ => rfl⟩, ⟨_, _, fun_mk (st := topS 4) l10 c10 k10, PySem.W.mg_of X G a10, (fun_mk (st := topS 4) l10 c10 k10).binds (ps := ["lines"]) fun _ _ _ _ _ _ us hl => match us, hl with | [_], _ => rfl⟩, ⟨_, _, fun_mk (st := topS 5) l11 c11 k11, PySem.W.mg_of X G a11, (fun_mk (st := topS 5) l11 c11 k11).binds (ps := ["lines"]) fun _ _ _ _ _ _ us hl => match us, hl with | [_], _ => rfl⟩, ⟨_, _, fun_mk (st := topS 6) l12 c12 k12, PySem.W.mg_of X G a12, (fun_mk (st := topS 6) l12 c12 k12).binds (ps := ["lines"]) fun _ _ _ _ _ _ us hl => match us, hl with | [_], _ => rfl⟩, ⟨_, _, fun_mk (st := topS 7) l13 c13 k13, PySem.W.mg_of X G a13, (fun_mk (st := topS 7) l13 c13 k13).binds (ps := ["one", "other"]) fun _ _ _ _ _ _ us hl => match us, hl with | [_, _], _ => rfl⟩, ⟨_, _, fun_mk (st := topS 21) l14 c14 k14, PySem.W.mg_of X G a14, (fun_mk (st := topS 21) l14 c14 k14).binds (ps := ["draws", "lines"]) fun _ _ _ _ _ _ us hl => match us, hl with | [_, _], _ => rfl⟩, ⟨_, _, fun_mk (st := topS 9) l15 c15 k15, PySem.W.mg_of X G a15, (fun_mk (st := topS 9) l15 c15 k15).binds (ps := ["measure", "tune"]) fun _ _ _ _ _ _ us hl => match us, hl with | [_, _], _ => rfl⟩, ⟨_, _, fun_mk (st := topS 10) l16 c16 k16, PySem.W.mg_of X G a16, (fun_mk (st := topS 10) l16 c16 k16).binds (ps := ["measures", "tunes"]) fun _ _ _ _ _ _ us hl => match us, hl with | [_, _], _ => rfl⟩, ⟨_, _, fun_mk (st := topS 20) l17 c17 k17, PySem.W.mg_of X G a17, (fun_mk (st := topS 20) l17 c17 k17).binds (ps := ["measure", "tune"]) fun _ _ _ _ _ _ us hl => match us, hl with | [_, _], _ => rfl⟩, ⟨_, _, fun_mk (st := topS 22) l18 c18 k18, PySem.W.mg_of X G a18, (fun_mk (st := topS 22) l18 c18 k18).binds (ps := ["draws", "measures", "tunes"]) fun _ _ _ _ _ _ us hl => match us, hl with | [_, _, _], _ => rfl⟩, ⟨_, _, fun_mk (st := topS 16) l19 c19 k19, PySem.W.mg_of X G a19, (fun_mk (st := topS 16) l19 c19 k19).binds (ps := ["draws", "cell"]) fun _ _ _ _ _ _ us hl => match us, hl with | [_, _], _ => rfl⟩, ⟨_, _, fun_mk (st := topS 23) l20 c20 k20, PySem.W.mg_of X G a20, (fun_mk (st := topS 23) l20 c20 k20).binds (ps := ["script"]) fun _ _ _ _ _ _ us hl => match us, hl with | [_], _ => rfl⟩, PySem.W.mg_none_of X G z_abs, PySem.W.mg_none_of X G z_all, PySem.W.mg_none_of X G z_bool, PySem.W.mg_none_of X G z_int, PySem.W.mg_none_of X G z_isinstance, PySem.W.mg_none_of X G z_len, PySem.W.mg_none_of X G z_list, PySem.W.mg_none_of X G z_range, PySem.W.mg_none_of X G z_set, PySem.W.mg_none_of X G z_sorted, PySem.W.mg_none_of X G z_str, PySem.W.mg_none_of X G z_tuple, ⟨t_DIGITS, PySem.W.mg_of X G g_DIGITS⟩⟩
  refine ⟨PySem.W.fnOf "law" "law" (defArgs (topS 23)) (defBody (topS 23)) (defScope (topS 23)) .none kV20 dc20 pm20 an20 cd20 ct20, fun s v => .of_eq rfl, fun base _ _ => ?_⟩
  have z : Ent l.prog w K mg base 8 "law" ["script"] (spP K 1 .k m_law) := by
    have e__law_draws := ok__law_draws (P := l.prog) (w := w) (base := base) T
    have e__law_same := ok__law_same (P := l.prog) (w := w) (base := base) T
    have e__law_take := ok__law_take (P := l.prog) (w := w) (base := base) T
    have e__law_cell := ok__law_cell (P := l.prog) (w := w) (base := base) T e__law_take
    have e__law_text := ok__law_text (P := l.prog) (w := w) (base := base) T
    have e__law_others := ok__law_others (P := l.prog) (w := w) (base := base) T e__law_take e__law_text
    have e__law_read := ok__law_read (P := l.prog) (w := w) (base := base) T
    have e_is_line := ok_is_line (P := l.prog) (w := w) (base := base) T
    have e_read_measure := ok_read_measure (P := l.prog) (w := w) (base := base) T e_is_line
    have e_by_measure := ok_by_measure (P := l.prog) (w := w) (base := base) T e_read_measure
    have e_half_of := ok_half_of (P := l.prog) (w := w) (base := base) T
    have e_written_lines := ok_written_lines (P := l.prog) (w := w) (base := base) T
    have e_written_measure := ok_written_measure (P := l.prog) (w := w) (base := base) T e_half_of e_written_lines
    have e_same_measure := ok_same_measure (P := l.prog) (w := w) (base := base) T e_read_measure
    have e__law_are_texts_right := ok__law_are_texts_right (P := l.prog) (w := w) (base := base) T e__law_others e__law_read e__law_same e__law_take e__law_text e_by_measure e_read_measure e_same_measure e_written_measure
    have e_fits_tune := ok_fits_tune (P := l.prog) (w := w) (base := base) T
    have e_tunes_for := ok_tunes_for (P := l.prog) (w := w) (base := base) T e_fits_tune
    have e__law_fits := ok__law_fits (P := l.prog) (w := w) (base := base) T
    have e__law_are_tunes_right := ok__law_are_tunes_right (P := l.prog) (w := w) (base := base) T e__law_fits e__law_same e_fits_tune e_tunes_for e_written_measure
    have e__law_lines := ok__law_lines (P := l.prog) (w := w) (base := base) T e__law_take
    have e_law := ok_law (P := l.prog) (w := w) (base := base) T e__law_are_texts_right e__law_are_tunes_right e__law_cell e__law_draws e__law_lines e__law_same e__law_take e_by_measure e_fits_tune e_read_measure e_same_measure e_tunes_for e_written_measure
    exact e_law
  exact ent_fn l20 (PySem.W.mg_of X G a20) z
end K90
open PySem PySem.W PyProof.Rows
set_option maxHeartbeats 0 in
theorem PySem.Challenge.cw_leadstrue_k90_whole_measures_and_tunes_holds : PySem.Challenge.rw_leadstrue_k90_whole_measures_and_tunes.Holds := by
  w_on; o_law; k_head; (case hw => w_witness2)
  k_fill
  refine L2.walk_ofB (l := PySem.Challenge.rw_leadstrue_k90_whole_measures_and_tunes) (n := 63) (k := 8) (x := "script") (CX := fun _ => L2.CX0) (sp := fun w => DL.spP _ 1 .k K90.m_law) rfl (by decide) rfl ⟨rfl, by decide, by decide⟩ (fun w h Y => PySem.W.kIn_of Y) ?F (fun _ H a ns hl hb _ hS => DL.sp_top hS (K90.law_true ns hl hb)) (fun _ _ _ _ _ h => h)
  case F =>
    intro w mg fa h KX G hmg
    refine' K90.all_mk KX G hmg ?a0 ?l0 ?c0 ?k0 ?a1 ?l1 ?c1 ?k1 ?a2 ?l2 ?c2 ?k2 ?a3 ?l3 ?c3 ?k3 ?a4 ?l4 ?c4 ?k4 ?a5 ?l5 ?c5 ?k5 ?a6 ?l6 ?c6 ?k6 ?a7 ?l7 ?c7 ?k7 ?a8 ?l8 ?c8 ?k8 ?a9 ?l9 ?c9 ?k9 ?a10 ?l10 ?c10 ?k10 ?a11 ?l11 ?c11 ?k11 ?a12 ?l12 ?c12 ?k12 ?a13 ?l13 ?c13 ?k13 ?a14 ?l14 ?c14 ?k14 ?a15 ?l15 ?c15 ?k15 ?a16 ?l16 ?c16 ?k16 ?a17 ?l17 ?c17 ?k17 ?a18 ?l18 ?c18 ?k18 ?a19 ?l19 ?c19 ?k19 ?a20 ?l20 ?c20 ?k20 ?z_abs ?z_all ?z_bool ?z_int ?z_isinstance ?z_len ?z_list ?z_range ?z_set ?z_sorted ?z_str ?z_tuple ?g_DIGITS
    (case a0 => k_is); (case l0 => k_is); (case c0 => k_is); (case k0 => k_is); (case a1 => k_is); (case l1 => k_is); (case c1 => k_is); (case k1 => k_is); (case a2 => k_is); (case l2 => k_is); (case c2 => k_is); (case k2 => k_is); (case a3 => k_is); (case l3 => k_is); (case c3 => k_is); (case k3 => k_is); (case a4 => k_is); (case l4 => k_is); (case c4 => k_is); (case k4 => k_is); (case a5 => k_is); (case l5 => k_is); (case c5 => k_is); (case k5 => k_is); (case a6 => k_is); (case l6 => k_is); (case c6 => k_is); (case k6 => k_is); (case a7 => k_is); (case l7 => k_is); (case c7 => k_is); (case k7 => k_is); (case a8 => k_is); (case l8 => k_is); (case c8 => k_is); (case k8 => k_is); (case a9 => k_is); (case l9 => k_is); (case c9 => k_is); (case k9 => k_is); (case a10 => k_is); (case l10 => k_is); (case c10 => k_is); (case k10 => k_is); (case a11 => k_is); (case l11 => k_is); (case c11 => k_is); (case k11 => k_is); (case a12 => k_is); (case l12 => k_is); (case c12 => k_is); (case k12 => k_is); (case a13 => k_is); (case l13 => k_is); (case c13 => k_is); (case k13 => k_is); (case a14 => k_is); (case l14 => k_is); (case c14 => k_is); (case k14 => k_is); (case a15 => k_is); (case l15 => k_is); (case c15 => k_is); (case k15 => k_is); (case a16 => k_is); (case l16 => k_is); (case c16 => k_is); (case k16 => k_is); (case a17 => k_is); (case l17 => k_is); (case c17 => k_is); (case k17 => k_is); (case a18 => k_is); (case l18 => k_is); (case c18 => k_is); (case k18 => k_is); (case a19 => k_is); (case l19 => k_is); (case c19 => k_is); (case k19 => k_is); (case a20 => k_is); (case l20 => k_is); (case c20 => k_is); (case k20 => k_is); (case z_abs => k_is); (case z_all => k_is); (case z_bool => k_is); (case z_int => k_is); (case z_isinstance => k_is); (case z_len => k_is); (case z_list => k_is); (case z_range => k_is); (case z_set => k_is); (case z_sorted => k_is); (case z_str => k_is); (case z_tuple => k_is); (case g_DIGITS => k_is)
