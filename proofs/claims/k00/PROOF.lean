import PyProof.Rows.All
import Wide.All
import OpenK.AllK
import Wide.FinOn
import HandS.ForMost
import HandS.ForExc
import HandS.Flow
import HandS.TupAny
import HandS.Wide
import HandS.Gcd
import KE.DataCmp
import HandS.Walk
import HandS.Zip
import HandS.ExcCtx
import HandS.HotCalls
import HandS.TupMul
import HandS.Deep
import HandS.RaiseMore
import KE.DataAny
import PyProof.ReprRoads
import HandS.Style
import HandS.SortInts
import KE.KTupSum
import HandS.ExcIs
import PyProof.ExcBaseAll.ValueError
import KE.DataFind
import HandS.EndBits
import PyProof.ReprLen
import PySem.Challenge.RW_tallyhull_k00_matrices_sides_and_prices
set_option Elab.async false
set_option linter.all false
set_option maxRecDepth 100000
set_option maxHeartbeats 4000001
/-! DL: what a piece of Python computes on plain data, over the hand layer. -/
namespace DL
open L2 PySem PySem.Spec PyProof.Rows

abbrev D := PyData
/-- what a name may own alone -/
inductive Cell where
  | lst (ds : List D)
  | dK (kvs : List (Key × D))
  | dT (kvs : List (List Key × D))
/-- what a name holds: data, or a thing that it owns (io: handed in by the caller, who sees the changes) -/
inductive SV where
  | val (d : D)
  | own (io : Bool) (c : Cell)
  | raw (a : Addr)
abbrev DEnv := List (Option SV)
structure Exn where
  cls : Str
  arg : Option Int := none
/-- what an expression gives: data, or the thing that the name i owns -/
inductive EV where
  | val (d : D)
  | bor (i : Nat)
inductive Res (α : Type) where
  | ok (a : α) (ρ : DEnv)
  | err (x : Exn) (ρ : DEnv)
  | bad
inductive RV where
  | val (d : D)
  | own (c : Cell)
inductive Fl where
  | nx (ρ : DEnv)
  | rt (v : RV) (ρ : DEnv)
  | bk (ρ : DEnv)
  | ct (ρ : DEnv)
  | err (x : Exn) (ρ : DEnv)
  | bad

abbrev Frg := PySem.W.Frag
abbrev Mg := Str → Option Value

/-! ### data in a heap: more of it stays -/
section
variable {K : Frg} {G G' : Hp}
theorem SqL.mono (h : ∀ a o, G a = some o → G' a = some o) {a : Addr} {xs : List V} (s : SqL K G a xs) : SqL K G' a xs := by
  rcases s with (s | ⟨o, s⟩) | s
  · exact .inl (.inl (h _ _ s))
  · exact .inl (.inr ⟨o, h _ _ s⟩)
  · exact .inr s
theorem SqT.mono (h : ∀ a o, G a = some o → G' a = some o) {a : Addr} {xs : List V} (s : SqT K G a xs) : SqT K G' a xs := by
  rcases s with (s | ⟨o, s⟩) | s
  · exact .inl (.inl (h _ _ s))
  · exact .inl (.inr ⟨o, h _ _ s⟩)
  · exact .inr s
mutual
theorem dp_mono (h : ∀ a o, G a = some o → G' a = some o) : ∀ (d : PyData) (v : V), Dp K G v d → Dp K G' v d
  | .none, _, q => by cases q; exact .non
  | .bool b, _, q => by cases q; exact .bl b
  | .int i, _, q => by cases q; exact .int i
  | .str x, _, q => by cases q; exact .str x
  | .list ds, _, q => by
    cases q with
    | lst s a => exact .lst (SqL.mono h s) (dpAll_mono h ds _ a)
  | .tuple ds, _, q => by
    cases q with
    | tup s a => exact .tup (SqT.mono h s) (dpAll_mono h ds _ a)
  | .dict _, _, q => by cases q
theorem dpAll_mono (h : ∀ a o, G a = some o → G' a = some o) : ∀ (ds : List PyData) (vs : List V), DpAll K G vs ds → DpAll K G' vs ds
  | [], _, q => by cases q; exact .nil
  | d :: ds, _, q => by
    cases q with
    | cons a b => exact .cons (dp_mono h d _ a) (dpAll_mono h ds _ b)
end
theorem DpAll.length : ∀ {vs : List V} {ds : List PyData}, DpAll K G vs ds → vs.length = ds.length
  | _, [], q => by cases q; rfl
  | _, d :: ds, q => by
    cases q with
    | cons a b => simp [DpAll.length b]
theorem DpAll.at : ∀ {vs : List V} {ds : List PyData} {i : Nat} {d : PyData}, DpAll K G vs ds → ds[i]? = some d → ∃ v, vs[i]? = some v ∧ Dp K G v d
  | _, [], i, d, q, e => by simp at e
  | _, d' :: ds, i, d, q, e => by
    cases q with
    | cons a b =>
      cases i with
      | zero => simp at e; subst e; exact ⟨_, by simp, a⟩
      | succ i =>
        obtain ⟨v, h1, h2⟩ := DpAll.at (i := i) b (by simpa using e)
        exact ⟨v, by simpa using h1, h2⟩
theorem DpAll.atV : ∀ {vs : List V} {ds : List PyData} {i : Nat} {v : V}, DpAll K G vs ds → vs[i]? = some v → ∃ d, ds[i]? = some d ∧ Dp K G v d
  | _, [], i, d, q, e => by cases q; simp at e
  | _, d' :: ds, i, d, q, e => by
    cases q with
    | cons a b =>
      cases i with
      | zero => simp at e; subst e; exact ⟨_, by simp, a⟩
      | succ i =>
        obtain ⟨v, h1, h2⟩ := DpAll.atV (i := i) b (by simpa using e)
        exact ⟨v, by simpa using h1, h2⟩
theorem DpAll.append : ∀ {vs ws : List V} {ds es : List PyData}, DpAll K G vs ds → DpAll K G ws es → DpAll K G (vs ++ ws) (ds ++ es)
  | _, _, [], _, q, r => by cases q; exact r
  | _, _, d :: ds, _, q, r => by
    cases q with
    | cons a b => exact .cons a (DpAll.append b r)
theorem DpAll.take : ∀ {vs : List V} {ds : List PyData} (n : Nat), DpAll K G vs ds → DpAll K G (vs.take n) (ds.take n)
  | _, [], n, q => by cases q; simp; exact .nil
  | _, d :: ds, 0, q => by simp; exact .nil
  | _, d :: ds, n + 1, q => by
    cases q with
    | cons a b => simp; exact .cons a (DpAll.take n b)
theorem DpAll.drop : ∀ {vs : List V} {ds : List PyData} (n : Nat), DpAll K G vs ds → DpAll K G (vs.drop n) (ds.drop n)
  | _, [], n, q => by cases q; simp; exact .nil
  | _, d :: ds, 0, q => q
  | _, d :: ds, n + 1, q => by
    cases q with
    | cons a b => simp; exact DpAll.drop n b
theorem DpAll.reverse : ∀ {vs : List V} {ds : List PyData}, DpAll K G vs ds → DpAll K G vs.reverse ds.reverse
  | _, [], q => by cases q; exact .nil
  | _, d :: ds, q => by
    cases q with
    | cons a b => simp; exact DpAll.append (DpAll.reverse b) (.cons a .nil)
theorem DpAll.set : ∀ {vs : List V} {ds : List PyData} {v : V} {d : PyData} (i : Nat), DpAll K G vs ds → Dp K G v d → DpAll K G (vs.set i v) (ds.set i d)
  | _, [], _, _, i, q, r => by cases q; exact .nil
  | _, d :: ds, _, _, 0, q, r => by
    cases q with
    | cons a b => exact .cons r b
  | _, d :: ds, _, _, i + 1, q, r => by
    cases q with
    | cons a b => exact .cons a (DpAll.set i b r)
theorem DpAll.ints : ∀ {vs : List V} {ns : List Int}, DpAll K G vs (ns.map PyData.int) → vs = ns.map V.int
  | _, [], q => by cases q; rfl
  | _, n :: ns, q => by
    cases q with
    | cons a b => cases a; rw [DpAll.ints b]; rfl
theorem DpAll.of_ints : ∀ (ns : List Int), DpAll K G (ns.map V.int) (ns.map PyData.int)
  | [] => .nil
  | n :: ns => .cons (.int n) (DpAll.of_ints ns)
end

/-- data without an address -/
def flat : PyData → Option V
  | .none => some .non
  | .bool b => some (.bl b)
  | .int i => some (.int i)
  | .str x => some (.str x)
  | _ => none
theorem flat_dp {K : Frg} {G : Hp} : ∀ {d : PyData} {v : V}, flat d = some v → Dp K G v d
  | .none, _, e => by cases e; exact .non
  | .bool b, _, e => by cases e; exact .bl b
  | .int i, _, e => by cases e; exact .int i
  | .str x, _, e => by cases e; exact .str x
  | .list _, _, e => by cases e
  | .tuple _, _, e => by cases e
  | .dict _, _, e => by cases e
theorem flat_eq {K : Frg} {G : Hp} : ∀ {d : PyData} {v w : V}, flat d = some v → Dp K G w d → w = v
  | .none, _, _, e, q => by cases e; cases q; rfl
  | .bool b, _, _, e, q => by cases e; cases q; rfl
  | .int i, _, _, e, q => by cases e; cases q; rfl
  | .str x, _, _, e, q => by cases e; cases q; rfl
  | .list _, _, _, e, _ => by cases e
  | .tuple _, _, _, e, _ => by cases e
  | .dict _, _, _, e, _ => by cases e
theorem dp_any {K : Frg} {G G' : Hp} {d : PyData} {v w : V} (h : Dp K G v d) (f : flat d = some w) : Dp K G' v d := by
  rw [flat_eq f h]; exact flat_dp f

/-! ### what is owned, what is seen -/
def Ow (σ : L2.St) (ρ : DEnv) (a : Addr) : Prop := ∃ (i : Nat) (b : Bool) (c : Cell), ρ[i]? = some (some (.own b c)) ∧ σ[i]? = some (some (V.ref a))
open Classical in
noncomputable def Gv (O : Addr → Prop) (σ : L2.St) (ρ : DEnv) (H : Hp) : Hp := fun a => if O a ∨ Ow σ ρ a then none else H a
theorem Gv_of {O : Addr → Prop} {σ : L2.St} {ρ : DEnv} {H : Hp} {a : Addr} {o : HO} (h1 : ¬ O a) (h2 : ¬ Ow σ ρ a) (h : H a = some o) : Gv O σ ρ H a = some o := by
  unfold Gv; rw [if_neg (fun q => q.elim h1 h2)]; exact h
theorem of_Gv {O : Addr → Prop} {σ : L2.St} {ρ : DEnv} {H : Hp} {a : Addr} {o : HO} (h : Gv O σ ρ H a = some o) : ¬ O a ∧ ¬ Ow σ ρ a ∧ H a = some o := by
  unfold Gv at h
  split at h
  · cases h
  · rename_i q; exact ⟨fun z => q (.inl z), fun z => q (.inr z), h⟩
theorem Gv_sub {O : Addr → Prop} {σ : L2.St} {ρ : DEnv} {H : Hp} : ∀ a o, Gv O σ ρ H a = some o → H a = some o := fun _ _ h => (of_Gv h).2.2

def CellOk (K : Frg) (G H : Hp) (a : Addr) : Cell → Prop
  | .lst ds => ∃ vs, H a = some (.lst vs) ∧ DpAll K G vs ds
  | .dK kvs => ∃ vvs : List (Key × V), H a = some (.dK vvs) ∧ vvs.map (·.1) = kvs.map (·.1) ∧ DpAll K G (vvs.map (·.2)) (kvs.map (·.2))
  | .dT kvs => ∃ vvs : List (List Key × V), H a = some (.dT vvs) ∧ vvs.map (·.1) = kvs.map (·.1) ∧ DpAll K G (vvs.map (·.2)) (kvs.map (·.2))
theorem CellOk.mono {K : Frg} {G G' H H' : Hp} {a : Addr} {c : Cell} (h : CellOk K G H a c) (hg : ∀ a o, G a = some o → G' a = some o) (ha : ∀ o, H a = some o → H' a = some o) : CellOk K G' H' a c := by
  cases c with
  | lst ds => obtain ⟨vs, e, q⟩ := h; exact ⟨vs, ha _ e, dpAll_mono hg _ _ q⟩
  | dK kvs => obtain ⟨vs, e, k, q⟩ := h; exact ⟨vs, ha _ e, k, dpAll_mono hg _ _ q⟩
  | dT kvs => obtain ⟨vs, e, k, q⟩ := h; exact ⟨vs, ha _ e, k, dpAll_mono hg _ _ q⟩
theorem CellOk.some {K : Frg} {G H : Hp} {a : Addr} {c : Cell} (h : CellOk K G H a c) : ∃ o, H a = some o := by
  cases c with
  | lst ds => obtain ⟨vs, e, q⟩ := h; exact ⟨_, e⟩
  | dK kvs => obtain ⟨vs, e, k, q⟩ := h; exact ⟨_, e⟩
  | dT kvs => obtain ⟨vs, e, k, q⟩ := h; exact ⟨_, e⟩

structure RelEnv (K : Frg) (O : Addr → Prop) (σ : L2.St) (H : Hp) (ρ : DEnv) : Prop where
  len : σ.length = ρ.length
  oa : ∀ a, O a → H a ≠ none
  val : ∀ (i : Nat) (d : D), ρ[i]? = some (some (.val d)) → ∃ v, σ[i]? = some (some v) ∧ Dp K (Gv O σ ρ H) v d
  own : ∀ (i : Nat) (b : Bool) (c : Cell), ρ[i]? = some (some (.own b c)) → ∃ a, σ[i]? = some (some (.ref a)) ∧ ¬ O a ∧ CellOk K (Gv O σ ρ H) H a c
  inj : ∀ (i j : Nat) (a : Addr) (b : Bool) (c : Cell) (b' : Bool) (c' : Cell), ρ[i]? = some (some (.own b c)) → ρ[j]? = some (some (.own b' c')) → σ[i]? = some (some (.ref a)) → σ[j]? = some (some (.ref a)) → i = j
  raw : ∀ (i : Nat) (a : Addr), ρ[i]? = some (some (.raw a)) → σ[i]? = some (some (.ref a))

/-- a step of an expression: what this frame does not own stays -/
structure EStp (σ : L2.St) (ρ : DEnv) (H : Hp) (ρ' : DEnv) (H' : Hp) : Prop where
  ext : ∀ b o, H b = some o → ¬ Ow σ ρ b → H' b = some o
  al : ∀ b, H b ≠ none → H' b ≠ none
  own : ∀ b, Ow σ ρ' b → Ow σ ρ b
  io : ∀ (i : Nat) (c : Cell), ρ[i]? = some (some (.own true c)) → ∃ c', ρ'[i]? = some (some (.own true c'))
theorem EStp.refl {σ : L2.St} {ρ : DEnv} {H : Hp} : EStp σ ρ H ρ H := ⟨fun _ _ h _ => h, fun _ h => h, fun _ h => h, fun _ c h => ⟨c, h⟩⟩
theorem EStp.trans {σ : L2.St} {ρ ρ1 ρ2 : DEnv} {H H1 H2 : Hp} (a : EStp σ ρ H ρ1 H1) (b : EStp σ ρ1 H1 ρ2 H2) : EStp σ ρ H ρ2 H2 :=
  ⟨fun c o h n => b.ext c o (a.ext c o h n) fun q => n (a.own c q), fun c h => b.al c (a.al c h), fun c h => a.own c (b.own c h), fun i c h => let ⟨c', h'⟩ := a.io i c h; b.io i c' h'⟩
theorem EStp.same {σ : L2.St} {ρ : DEnv} {H H' : Hp} (h : Same H H') : EStp σ ρ H ρ H' := by
  refine ⟨fun b o e _ => h b o e, fun b e q => ?_, fun _ h => h, fun _ c h => ⟨c, h⟩⟩
  cases z : H b with
  | none => exact e z
  | some o => rw [h b o z] at q; cases q
theorem EStp.gv {O : Addr → Prop} {σ : L2.St} {ρ ρ' : DEnv} {H H' : Hp} (s : EStp σ ρ H ρ' H') : ∀ a o, Gv O σ ρ H a = some o → Gv O σ ρ' H' a = some o := fun a o h => by
  obtain ⟨h1, h2, h3⟩ := of_Gv h
  exact Gv_of h1 (fun q => h2 (s.own a q)) (s.ext a o h3 h2)
theorem same_gv {O : Addr → Prop} {σ : L2.St} {ρ : DEnv} {H H' : Hp} (s : Same H H') : ∀ a o, Gv O σ ρ H a = some o → Gv O σ ρ H' a = some o := (EStp.same s).gv
theorem RelEnv.same {K : Frg} {O : Addr → Prop} {σ : L2.St} {ρ : DEnv} {H H' : Hp} (r : RelEnv K O σ H ρ) (s : Same H H') : RelEnv K O σ H' ρ :=
  ⟨r.len, fun a q => (EStp.same (σ := σ) (ρ := ρ) s).al a (r.oa a q), fun i d e => let ⟨v, h1, h2⟩ := r.val i d e; ⟨v, h1, dp_mono (same_gv s) _ _ h2⟩,
   fun i b c e => let ⟨a, h1, h2, h3⟩ := r.own i b c e; ⟨a, h1, h2, h3.mono (same_gv s) fun o q => s _ _ q⟩, r.inj, r.raw⟩
theorem RelEnv.owSome {K : Frg} {O : Addr → Prop} {σ : L2.St} {ρ : DEnv} {H : Hp} (r : RelEnv K O σ H ρ) {a : Addr} (h : Ow σ ρ a) : ∃ o, H a = some o := by
  obtain ⟨i, b, c, e1, e2⟩ := h
  obtain ⟨a', h1, h2, h3⟩ := r.own i b c e1
  rw [e2] at h1; cases h1
  exact h3.some
theorem RelEnv.owO {K : Frg} {O : Addr → Prop} {σ : L2.St} {ρ : DEnv} {H : Hp} (r : RelEnv K O σ H ρ) {a : Addr} (h : Ow σ ρ a) : ¬ O a := by
  obtain ⟨i, b, c, e1, e2⟩ := h
  obtain ⟨a', h1, h2, h3⟩ := r.own i b c e1
  rw [e2] at h1; cases h1
  exact h2
theorem RelEnv.fresh {K : Frg} {O : Addr → Prop} {σ : L2.St} {ρ : DEnv} {H : Hp} (r : RelEnv K O σ H ρ) {p : Addr} (h : H p = none) : ¬ O p ∧ ¬ Ow σ ρ p :=
  ⟨fun q => r.oa p q h, fun q => by obtain ⟨o, e⟩ := r.owSome q; rw [h] at e; cases e⟩

/-- what an expression has given -/
def RelE (K : Frg) (O : Addr → Prop) (σ : L2.St) (ρ : DEnv) (H : Hp) (u : V) : EV → Prop
  | .val d => Dp K (Gv O σ ρ H) u d
  | .bor i => σ[i]? = some (some u)
theorem RelE.mono {K : Frg} {O : Addr → Prop} {σ : L2.St} {ρ ρ' : DEnv} {H H' : Hp} {u : V} {v : EV} (h : RelE K O σ ρ H u v) (s : EStp σ ρ H ρ' H') : RelE K O σ ρ' H' u v := by
  cases v with
  | val d => exact dp_mono s.gv _ _ h
  | bor i => exact h
def RelEs (K : Frg) (O : Addr → Prop) (σ : L2.St) (ρ : DEnv) (H : Hp) : List V → List EV → Prop
  | [], [] => True
  | u :: us, v :: vs => RelE K O σ ρ H u v ∧ RelEs K O σ ρ H us vs
  | _, _ => False
theorem RelEs.mono {K : Frg} {O : Addr → Prop} {σ : L2.St} {ρ ρ' : DEnv} {H H' : Hp} (s : EStp σ ρ H ρ' H') : ∀ {us : List V} {vs : List EV}, RelEs K O σ ρ H us vs → RelEs K O σ ρ' H' us vs
  | [], [], _ => trivial
  | u :: us, v :: vs, h => ⟨h.1.mono s, RelEs.mono s h.2⟩
  | [], _ :: _, h => h
  | _ :: _, [], h => h

/-- the data of what an expression gives -/
def deref (ρ : DEnv) : EV → Option D
  | .val d => some d
  | .bor i => match ρ[i]? with
    | some (some (.own _ (.lst ds))) => some (.list ds)
    | some (some (.val d)) => some d
    | _ => none
theorem RelE.dp {K : Frg} {O : Addr → Prop} {σ : L2.St} {ρ : DEnv} {H : Hp} {u : V} {v : EV} {d : D} (h : RelE K O σ ρ H u v) (r : RelEnv K O σ H ρ) (e : deref ρ v = some d) : Dp K H u d := by
  cases v with
  | val d' => cases e; exact dp_mono Gv_sub _ _ h
  | bor i =>
    have h' : σ[i]? = some (some u) := h
    unfold deref at e
    dsimp only at e
    split at e
    · rename_i b ds q
      cases e
      obtain ⟨a, h1, h2, vs, h3, h4⟩ := r.own i b _ q
      rw [h'] at h1; cases h1
      exact .lst (SqL.of h3) (dpAll_mono Gv_sub _ _ h4)
    · rename_i d' q
      cases e
      obtain ⟨w, h1, h2⟩ := r.val i _ q
      rw [h'] at h1; cases h1
      exact dp_mono Gv_sub _ _ h2
    · cases e
/-- a sequence: the list or tuple itself, its items seen -/
theorem RelE.lst {K : Frg} {O : Addr → Prop} {σ : L2.St} {ρ : DEnv} {H : Hp} {u : V} {v : EV} {ds : List D} (h : RelE K O σ ρ H u v) (r : RelEnv K O σ H ρ) (e : deref ρ v = some (.list ds)) :
    ∃ a vs, u = .ref a ∧ SqL K H a vs ∧ DpAll K (Gv O σ ρ H) vs ds := by
  cases v with
  | val d' =>
    cases e
    have h' : Dp K (Gv O σ ρ H) u (.list ds) := h
    cases h' with
    | lst s a => exact ⟨_, _, rfl, SqL.mono Gv_sub s, a⟩
  | bor i =>
    have h' : σ[i]? = some (some u) := h
    unfold deref at e
    dsimp only at e
    split at e
    · rename_i b ds q
      cases e
      obtain ⟨a, h1, h2, vs, h3, h4⟩ := r.own i b _ q
      rw [h'] at h1; cases h1
      exact ⟨_, _, rfl, SqL.of h3, h4⟩
    · rename_i d' q
      cases e
      obtain ⟨w, h1, h2⟩ := r.val i _ q
      rw [h'] at h1; cases h1
      cases h2 with
      | lst s a => exact ⟨_, _, rfl, SqL.mono Gv_sub s, a⟩
    · cases e
theorem RelE.tup {K : Frg} {O : Addr → Prop} {σ : L2.St} {ρ : DEnv} {H : Hp} {u : V} {v : EV} {ds : List D} (h : RelE K O σ ρ H u v) (r : RelEnv K O σ H ρ) (e : deref ρ v = some (.tuple ds)) :
    ∃ a vs, u = .ref a ∧ SqT K (Gv O σ ρ H) a vs ∧ DpAll K (Gv O σ ρ H) vs ds := by
  cases v with
  | val d' =>
    cases e
    have h' : Dp K (Gv O σ ρ H) u (.tuple ds) := h
    cases h' with
    | tup s a => exact ⟨_, _, rfl, s, a⟩
  | bor i =>
    have h' : σ[i]? = some (some u) := h
    unfold deref at e
    dsimp only at e
    split at e
    · cases e
    · rename_i d' q
      cases e
      obtain ⟨w, h1, h2⟩ := r.val i _ q
      rw [h'] at h1; cases h1
      cases h2 with
      | tup s a => exact ⟨_, _, rfl, s, a⟩
    · cases e

/-! ### giving up what is owned -/
/-- the name i keeps its list as data from now on -/
def frzAt (i : Nat) (ρ : DEnv) : Option (D × DEnv) := match ρ[i]? with
  | some (some (.own false (.lst ds))) => some (.list ds, ρ.set i (some (.val (.list ds))))
  | some (some (.val d)) => some (d, ρ)
  | _ => none
theorem ow_set {σ : L2.St} {ρ : DEnv} {i : Nat} {d : D} {b : Addr} (h : Ow σ (ρ.set i (some (.val d))) b) : Ow σ ρ b := by
  obtain ⟨j, b, c, e1, e2⟩ := h
  by_cases hj : i = j
  · subst hj
    rw [List.getElem?_set] at e1
    simp only [if_true] at e1
    split at e1 <;> cases e1
  · rw [List.getElem?_set_ne hj] at e1
    exact ⟨j, b, c, e1, e2⟩
theorem frz_ok {K : Frg} {O : Addr → Prop} {σ : L2.St} {ρ : DEnv} {H : Hp} {i : Nat} {ds : List D} (r : RelEnv K O σ H ρ) (e : ρ[i]? = some (some (.own false (.lst ds)))) :
    RelEnv K O σ H (ρ.set i (some (.val (.list ds)))) ∧ EStp σ ρ H (ρ.set i (some (.val (.list ds)))) H := by
  have hi : i < ρ.length := (List.getElem?_eq_some_iff.mp e).1
  have st : EStp σ ρ H (ρ.set i (some (.val (.list ds)))) H := ⟨fun _ _ h _ => h, fun _ h => h, fun b h => ow_set h, fun j c h => ⟨c, by
    have hj : i ≠ j := by rintro rfl; rw [e] at h; cases h
    rw [List.getElem?_set_ne hj]; exact h⟩⟩
  refine ⟨⟨by rw [List.length_set]; exact r.len, r.oa, fun j d h => ?_, fun j b c h => ?_, fun j k a b c b' c' h1 h2 h3 h4 => ?_, fun j a h => r.raw j a (by
    have hj : i ≠ j := by rintro rfl; rw [List.getElem?_set_self hi] at h; cases h
    rw [List.getElem?_set_ne hj] at h; exact h)⟩, st⟩
  · by_cases hj : i = j
    · subst hj
      rw [List.getElem?_set_self hi] at h
      cases h
      obtain ⟨a, h1, h2, vs, h3, h4⟩ := r.own i _ _ e
      refine ⟨_, h1, .lst (SqL.of (Gv_of h2 ?_ h3)) (dpAll_mono st.gv _ _ h4)⟩
      rintro ⟨k, b, c, e1, e2⟩
      by_cases hk : i = k
      · subst hk
        rw [List.getElem?_set_self hi] at e1
        cases e1
      · rw [List.getElem?_set_ne hk] at e1
        exact hk (r.inj i k a _ _ _ _ e e1 h1 e2)
    · rw [List.getElem?_set_ne hj] at h
      obtain ⟨v, h1, h2⟩ := r.val j d h
      exact ⟨v, h1, dp_mono st.gv _ _ h2⟩
  · by_cases hj : i = j
    · subst hj
      rw [List.getElem?_set_self hi] at h
      cases h
    · rw [List.getElem?_set_ne hj] at h
      obtain ⟨a, h1, h2, h3⟩ := r.own j b c h
      exact ⟨a, h1, h2, h3.mono st.gv fun _ q => q⟩
  · have n1 : i ≠ j := by rintro rfl; rw [List.getElem?_set_self hi] at h1; cases h1
    have n2 : i ≠ k := by rintro rfl; rw [List.getElem?_set_self hi] at h2; cases h2
    rw [List.getElem?_set_ne n1] at h1
    rw [List.getElem?_set_ne n2] at h2
    exact r.inj j k a _ _ _ _ h1 h2 h3 h4
/-- data, given up if it was owned -/
def keep (v : EV) (ρ : DEnv) : Option (D × DEnv) := match v with
  | .val d => some (d, ρ)
  | .bor i => frzAt i ρ
theorem keep_ok {K : Frg} {O : Addr → Prop} {σ : L2.St} {ρ ρ' : DEnv} {H : Hp} {u : V} {v : EV} {d : D} (r : RelEnv K O σ H ρ) (h : RelE K O σ ρ H u v) (e : keep v ρ = some (d, ρ')) :
    RelEnv K O σ H ρ' ∧ EStp σ ρ H ρ' H ∧ Dp K (Gv O σ ρ' H) u d := by
  cases v with
  | val d' => cases e; exact ⟨r, .refl, h⟩
  | bor i =>
    have h' : σ[i]? = some (some u) := h
    unfold keep frzAt at e
    dsimp only at e
    split at e
    · rename_i ds q
      cases e
      obtain ⟨a, b⟩ := frz_ok r q
      have hi : i < ρ.length := (List.getElem?_eq_some_iff.mp q).1
      obtain ⟨w, h1, h2⟩ := a.val i (.list ds) (List.getElem?_set_self hi)
      rw [h'] at h1; cases h1
      exact ⟨a, b, h2⟩
    · rename_i d' q
      cases e
      obtain ⟨w, h1, h2⟩ := r.val i _ q
      rw [h'] at h1; cases h1
      exact ⟨r, .refl, h2⟩
    · cases e
def keeps : List EV → DEnv → Option (List D × DEnv)
  | [], ρ => some ([], ρ)
  | v :: vs, ρ => match keep v ρ with
    | some (d, ρ1) => match keeps vs ρ1 with
      | some (ds, ρ2) => some (d :: ds, ρ2)
      | none => none
    | none => none
theorem keeps_ok {K : Frg} {O : Addr → Prop} {σ : L2.St} {H : Hp} : ∀ {us : List V} {vs : List EV} {ds : List D} {ρ ρ' : DEnv}, RelEnv K O σ H ρ → RelEs K O σ ρ H us vs → keeps vs ρ = some (ds, ρ') →
    RelEnv K O σ H ρ' ∧ EStp σ ρ H ρ' H ∧ DpAll K (Gv O σ ρ' H) us ds
  | [], [], ds, ρ, ρ', r, h, e => by cases e; exact ⟨r, .refl, .nil⟩
  | u :: us, v :: vs, ds, ρ, ρ', r, h, e => by
    unfold keeps at e
    split at e
    · rename_i d ρ1 q
      split at e
      · rename_i ds' ρ2 q2
        cases e
        obtain ⟨a1, b1, c1⟩ := keep_ok r h.1 q
        obtain ⟨a2, b2, c2⟩ := keeps_ok a1 (h.2.mono b1) q2
        exact ⟨a2, b1.trans b2, .cons (dp_mono b2.gv _ _ c1) c2⟩
      · cases e
    · cases e
  | [], _ :: _, _, _, _, _, h, _ => h.elim
  | _ :: _, [], _, _, _, _, h, _ => h.elim
end DL

namespace DL
open L2 PySem PySem.Spec PyProof.Rows

/-- the exception x as it lies -/
def ExnAt (mg : Mg) (x : Exn) (cls : Value) (d : Option Addr) (H : Hp) : Prop :=
  ∃ C, mg x.cls = some (.ref C) ∧ cls = .ref C ∧ match x.arg with
    | none => d = none
    | some n => ∃ dd fs, d = some dd ∧ H dd = some (.xd fs) ∧ List.lookup ("at" : Str) fs = some (.int n)

def bindR {α β : Type} (r : Res α) (k : α → DEnv → Res β) : Res β := match r with
  | .ok a ρ => k a ρ
  | .err x ρ => .err x ρ
  | .bad => .bad
@[simp] theorem bindR_ok {α β : Type} (a : α) (ρ : DEnv) (k : α → DEnv → Res β) : bindR (.ok a ρ) k = k a ρ := (Eq.refl _).trans (Eq.refl _)
@[simp] theorem bindR_err {α β : Type} (x : Exn) (ρ : DEnv) (k : α → DEnv → Res β) : bindR (.err x ρ : Res α) k = .err x ρ := (Eq.refl _).trans (Eq.refl _)
@[simp] theorem bindR_bad {α β : Type} (k : α → DEnv → Res β) : bindR (.bad : Res α) k = .bad := (Eq.refl _).trans (Eq.refl _)
def optR {α β : Type} (o : Option α) (k : α → Res β) : Res β := match o with
  | some a => k a
  | none => .bad
@[simp] theorem optR_some {α β : Type} (a : α) (k : α → Res β) : optR (some a) k = k a := (Eq.refl _).trans (Eq.refl _)
@[simp] theorem optR_none {α β : Type} (k : α → Res β) : optR none k = .bad := (Eq.refl _).trans (Eq.refl _)

section sat
variable {α β γ δ : Type}
def Sat (K : Frg) (mg : Mg) (O : Addr → Prop) (σ : L2.St) (ρ : DEnv) (H : Hp) (W : WX) (rel : DEnv → Hp → β → α → Prop) (Q : β → Hp → Prop) : Res α → Prop
  | .ok a ρ' => ∀ u H', EStp σ ρ H ρ' H' → RelEnv K O σ H' ρ' → rel ρ' H' u a → Q u H'
  | .err x ρ' => ∀ cls d H', EStp σ ρ H ρ' H' → RelEnv K O σ H' ρ' → ExnAt mg x cls d H' → W cls d σ H'
  | .bad => False
variable {K : Frg} {mg : Mg} {O : Addr → Prop} {σ : L2.St} {ρ ρ1 : DEnv} {H H1 : Hp} {W : WX} {rel : DEnv → Hp → β → α → Prop} {rel2 : DEnv → Hp → δ → γ → Prop} {Q Q' : β → Hp → Prop} {Q2 : δ → Hp → Prop}
theorem Sat.imp {r : Res α} (h : Sat K mg O σ ρ H W rel Q r) (i : ∀ u H', Q u H' → Q' u H') : Sat K mg O σ ρ H W rel Q' r := by
  cases r with
  | ok a ρ' => exact fun u H' s e q => i _ _ (h u H' s e q)
  | err x ρ' => exact h
  | bad => exact h
theorem Sat.shift {r : Res α} (h : Sat K mg O σ ρ H W rel Q r) (s : EStp σ ρ H ρ1 H1) : Sat K mg O σ ρ1 H1 W rel Q r := by
  cases r with
  | ok a ρ' => exact fun u H' s' e q => h u H' (s.trans s') e q
  | err x ρ' => exact fun c d H' s' e q => h c d H' (s.trans s') e q
  | bad => exact h
/-- what is known behind a part -/
def Mid (K : Frg) (mg : Mg) (O : Addr → Prop) (σ : L2.St) (W : WX) (rel : DEnv → Hp → β → α → Prop) (rel2 : DEnv → Hp → δ → γ → Prop) (Q2 : δ → Hp → Prop) (k : α → DEnv → Res γ) (u : β) (H1 : Hp) : Prop :=
  ∃ a ρ1, RelEnv K O σ H1 ρ1 ∧ rel ρ1 H1 u a ∧ Sat K mg O σ ρ1 H1 W rel2 Q2 (k a ρ1)
theorem Sat.bind {r : Res α} {k : α → DEnv → Res γ} (h : Sat K mg O σ ρ H W rel2 Q2 (bindR r k)) : Sat K mg O σ ρ H W rel (Mid K mg O σ W rel rel2 Q2 k) r := by
  cases r with
  | ok a ρ' => exact fun u H' s e q => ⟨a, ρ', e, q, Sat.shift h s⟩
  | err x ρ' => exact h
  | bad => exact h
end sat

abbrev DX := DEnv → Res EV
def SatE (K : Frg) (mg : Mg) (O : Addr → Prop) (σ : L2.St) (ρ : DEnv) (H : Hp) (W : WX) (Q : VK) : Res EV → Prop := Sat K mg O σ ρ H W (fun ρ' H' u a => RelE K O σ ρ' H' u a) Q
def tDX (K : Frg) (mg : Mg) (W : WX) (f : DX) : TE := fun σ H Q => ∃ O ρ, RelEnv K O σ H ρ ∧ Sat K mg O σ ρ H W (fun ρ' H' u a => RelE K O σ ρ' H' u a) Q (f ρ)
def tDT (K : Frg) (mg : Mg) (W : WX) (f : DEnv → Res Bool) : TT := fun σ H Q => ∃ O ρ, RelEnv K O σ H ρ ∧ Sat K mg O σ ρ H W (fun _ _ u a => u = a) Q (f ρ)
def tDA (K : Frg) (mg : Mg) (W : WX) (f : DEnv → Res (List EV)) : TA := fun σ H Q => ∃ O ρ, RelEnv K O σ H ρ ∧ Sat K mg O σ ρ H W (fun ρ' H' u a => RelEs K O σ ρ' H' u a) Q (f ρ)
/-- a new thing at p, seen by nobody -/
def NewAt (K : Frg) (O : Addr → Prop) (σ : L2.St) (ρ : DEnv) (H : Hp) (p : Addr) (c : Cell) : Prop :=
  RelEnv K (fun a => O a ∨ a = p) σ H ρ ∧ ¬ O p ∧ ¬ Ow σ ρ p ∧ CellOk K (Gv (fun a => O a ∨ a = p) σ ρ H) H p c
def SatL (K : Frg) (mg : Mg) (O : Addr → Prop) (σ : L2.St) (ρ : DEnv) (H : Hp) (W : WX) (Q : VK) : Res Cell → Prop
  | .ok c ρ' => ∀ p H', EStp σ ρ H ρ' H' → H p = none → NewAt K O σ ρ' H' p c → Q (.ref p) H'
  | .err x ρ' => ∀ cls d H', EStp σ ρ H ρ' H' → RelEnv K O σ H' ρ' → ExnAt mg x cls d H' → W cls d σ H'
  | .bad => False
def tDL (K : Frg) (mg : Mg) (W : WX) (f : DEnv → Res Cell) : TE := fun σ H Q => ∃ O ρ, RelEnv K O σ H ρ ∧ SatL K mg O σ ρ H W Q (f ρ)

structure DE (X : Cx) (W : WX) (e : Expr) (f : DX) : Prop where
  pe : PE X e (tDX X.K X.mg W f)
structure DT (X : Cx) (W : WX) (e : Expr) (f : DEnv → Res Bool) : Prop where
  pt : PT X e (tDT X.K X.mg W f)
structure DA (X : Cx) (W : WX) (es : List Expr) (f : DEnv → Res (List EV)) : Prop where
  pa : PA X es (tDA X.K X.mg W f)
structure DLs (X : Cx) (W : WX) (e : Expr) (f : DEnv → Res Cell) : Prop where
  pe : PE X e (tDL X.K X.mg W f)
theorem pe_imp {X : Cx} {e : Expr} {t t' : TE} (h : PE X e t) (i : ∀ σ H Q, t' σ H Q → t σ H Q) : PE X e t' := ⟨fun pins s σ H Q I q => h.run pins s σ H Q I (i _ _ _ q)⟩
theorem pt_imp {X : Cx} {e : Expr} {t t' : TT} (h : PT X e t) (i : ∀ σ H Q, t' σ H Q → t σ H Q) : PT X e t' := ⟨fun pins s σ H Q I q => h.run pins s σ H Q I (i _ _ _ q)⟩
theorem pw_imp {X : Cx} {e : Expr} {t t' : TT} (h : PW X e t) (i : ∀ σ H Q, t' σ H Q → t σ H Q) : PW X e t' := ⟨fun wh pins s σ H Q I q => h.run wh pins s σ H Q I (i _ _ _ q)⟩
theorem pa_imp {X : Cx} {e : List Expr} {t t' : TA} (h : PA X e t) (i : ∀ σ H Q, t' σ H Q → t σ H Q) : PA X e t' := ⟨fun pos pins s σ H Q I q => h.run pos pins s σ H Q I (i _ _ _ q)⟩

section alloc
variable {K : Frg} {O : Addr → Prop} {σ : L2.St} {ρ : DEnv} {H : Hp} {p : Addr} {o : HO}
theorem same_upd (h : H p = none) : Same H (upd H p o) := fun b u e => by rw [upd_ne (ne_of_none e h)]; exact e
theorem gv_new (r : RelEnv K O σ H ρ) (h : H p = none) : ∀ a u, Gv O σ ρ H a = some u → Gv (fun a => O a ∨ a = p) σ ρ (upd H p o) a = some u := fun a u e => by
  obtain ⟨h1, h2, h3⟩ := of_Gv e
  have n : a ≠ p := ne_of_none h3 h
  exact Gv_of (fun q => q.elim h1 n) h2 (by rw [upd_ne n]; exact h3)
theorem gv_hide : ∀ a u, Gv (fun a => O a ∨ a = p) σ ρ H a = some u → Gv O σ ρ H a = some u := fun a u e => by
  obtain ⟨h1, h2, h3⟩ := of_Gv e
  exact Gv_of (fun q => h1 (.inl q)) h2 h3
theorem RelEnv.hidden (r : RelEnv K O σ H ρ) (h : H p = none) : RelEnv K (fun a => O a ∨ a = p) σ (upd H p o) ρ := by
  refine ⟨r.len, fun a q => ?_, fun i d e => ?_, fun i b c e => ?_, r.inj, r.raw⟩
  · rcases q with q | q
    · have := r.oa a q
      rw [upd_ne (fun z => this (by rw [z]; exact h))]; exact this
    · rw [q, upd_same]; exact fun z => nomatch z
  · obtain ⟨v, h1, h2⟩ := r.val i d e
    exact ⟨v, h1, dp_mono (gv_new r h) _ _ h2⟩
  · obtain ⟨a, h1, h2, h3⟩ := r.own i b c e
    obtain ⟨u, hu⟩ := h3.some
    refine ⟨a, h1, fun q => q.elim h2 (ne_of_none hu h), h3.mono (gv_new r h) fun u e => ?_⟩
    rw [upd_ne (ne_of_none e h)]; exact e
theorem RelEnv.unhide (r : RelEnv K (fun a => O a ∨ a = p) σ H ρ) : RelEnv K O σ H ρ :=
  ⟨r.len, fun a q => r.oa a (.inl q), fun i d e => let ⟨v, h1, h2⟩ := r.val i d e; ⟨v, h1, dp_mono gv_hide _ _ h2⟩,
    fun i b c e => let ⟨a, h1, h2, h3⟩ := r.own i b c e; ⟨a, h1, fun q => h2 (.inl q), h3.mono gv_hide fun _ q => q⟩, r.inj, r.raw⟩
theorem NewAt.mk' {vs : List V} {ds : List D} (r : RelEnv K O σ H ρ) (h : H p = none) (a : DpAll K (Gv O σ ρ H) vs ds) : NewAt K O σ ρ (upd H p (.lst vs)) p (.lst ds) :=
  ⟨r.hidden h, (r.fresh h).1, (r.fresh h).2, vs, upd_same, dpAll_mono (gv_new r h) _ _ a⟩
/-- a new list, as data -/
theorem NewAt.data {ds : List D} (n : NewAt K O σ ρ H p (.lst ds)) : RelEnv K O σ H ρ ∧ Dp K (Gv O σ ρ H) (.ref p) (.list ds) := by
  obtain ⟨r, h1, h2, vs, h3, h4⟩ := n
  exact ⟨r.unhide, .lst (SqL.of (Gv_of h1 h2 h3)) (dpAll_mono gv_hide _ _ h4)⟩
end alloc

/-- a new list taken as data -/
def ofL (f : DEnv → Res Cell) : DX := fun ρ => bindR (f ρ) fun c ρ' => match c with
  | .lst ds => .ok (.val (.list ds)) ρ'
  | _ => .bad
theorem de_of {X : Cx} {W : WX} {e : Expr} {f : DEnv → Res Cell} (h : DLs X W e f) : DE X W e (ofL f) := by
  refine ⟨pe_imp h.pe fun σ H Q ⟨O, ρ, r, s⟩ => ⟨O, ρ, r, ?_⟩⟩
  unfold ofL at s
  cases q : f ρ with
  | ok c ρ' =>
    rw [q] at s
    cases c with
    | lst ds =>
      intro p H' st _ n
      obtain ⟨a, b⟩ := n.data
      exact s _ H' st a b
    | dK _ => exact s.elim
    | dT _ => exact s.elim
  | err x ρ' => rw [q] at s; exact s
  | bad => rw [q] at s; exact s

/-! ### names and constants -/
def xVar (i : Nat) : DX := fun ρ => match ρ[i]? with
  | some (some (.val d)) => .ok (.val d) ρ
  | some (some (.own _ _)) => .ok (.bor i) ρ
  | _ => .bad
def xC (d : D) : DX := fun ρ => .ok (.val d) ρ
section
variable {X : Cx} {W : WX}
theorem de_var' {i : Nat} {e : Expr} (h : PE X e (tVar i)) : DE X W e (xVar i) := by
  refine ⟨pe_imp h fun σ H Q ⟨O, ρ, r, s⟩ => ?_⟩
  unfold xVar at s
  split at s
  · rename_i d q
    obtain ⟨v, h1, h2⟩ := r.val i d q
    exact ⟨v, h1, s v H .refl r h2⟩
  · rename_i b c q
    obtain ⟨a, h1, h2, h3⟩ := r.own i b c q
    exact ⟨_, h1, s _ H .refl r h1⟩
  · exact s.elim
theorem de_c' {e : Expr} {v : V} {d : D} (h : PE X e (tC v)) (hd : ∀ G, Dp X.K G v d) : DE X W e (xC d) :=
  ⟨pe_imp h fun σ H Q ⟨O, ρ, r, s⟩ => s v H .refl r (hd _)⟩
theorem de_int {i j pos} : DE X W (.Constant (.int i) j pos) (xC (.int i)) := de_c' pe_int fun _ => .int i
theorem de_bl {b j pos} : DE X W (.Constant (.bool b) j pos) (xC (.bool b)) := de_c' pe_bl fun _ => .bl b
theorem de_non {j pos} : DE X W (.Constant .none j pos) (xC .none) := de_c' pe_non fun _ => .non
theorem de_str {x j pos} : DE X W (.Constant (.str x) j pos) (xC (.str x)) := de_c' pe_str fun _ => .str x
theorem dv (i : Nat) {x : Str} {pos : Pos} (hN : X.N[i]? = some x := by rfl) (hv : Vis X.env.scope x := by first | exact Or.inl rfl | exact Or.inr (Or.inl rfl) | exact Or.inr (Or.inr rfl)) (hd : (x == ("__debug__" : Str)) = false := by decide)
    (hcd : (x == ("__classdict__" : Str)) = false := by decide) : DE X W (.Name x pos) (xVar i) := de_var' (pe_var hN hv hd hcd)
theorem de_glob {x : Str} {v : V} {u : Value} {d : D} {pos : Pos} (hm : X.mg x = some u) (r : RelV v u) (hd' : ∀ G, Dp X.K G v d) (hg : Gl X x := by rfl) (hd : (x == ("__debug__" : Str)) = false := by decide) : DE X W (.Name x pos) (xC d) :=
  de_c' (pe_glob hg hm r hd) hd'
end

/-! ### operations on data -/
def derefs (ρ : DEnv) : List EV → Option (List D)
  | [] => some []
  | v :: vs => match deref ρ v with
    | some d => match derefs ρ vs with
      | some ds => some (d :: ds)
      | none => none
    | none => none
def x2 (k : D → D → Option D) (fa fb : DX) : DX := fun ρ => bindR (fa ρ) fun a ρ1 => bindR (fb ρ1) fun b ρ2 => optR (deref ρ2 a) fun d => optR (deref ρ2 b) fun e => optR (k d e) fun z => .ok (.val z) ρ2
def x2L (k : D → D → Option (List D)) (fa fb : DX) : DEnv → Res Cell := fun ρ => bindR (fa ρ) fun a ρ1 => bindR (fb ρ1) fun b ρ2 => optR (deref ρ2 a) fun d => optR (deref ρ2 b) fun e => optR (k d e) fun z => .ok (.lst z) ρ2
def x1 (k : D → Option D) (fa : DX) : DX := fun ρ => bindR (fa ρ) fun a ρ1 => optR (deref ρ1 a) fun d => optR (k d) fun z => .ok (.val z) ρ1
def xt2 (k : D → D → Option Bool) (fa fb : DX) : DEnv → Res Bool := fun ρ => bindR (fa ρ) fun a ρ1 => bindR (fb ρ1) fun b ρ2 => optR (deref ρ2 a) fun d => optR (deref ρ2 b) fun e => optR (k d e) fun z => .ok z ρ2
/-- what the rules of two-place operations are asked -/
def rD2 (K : Frg) (k : D → D → Option D) : R2 := fun x y H Q => ∃ O σ ρ a b d e z, RelEnv K O σ H ρ ∧ RelE K O σ ρ H x a ∧ RelE K O σ ρ H y b ∧ deref ρ a = some d ∧ deref ρ b = some e ∧ k d e = some z ∧
  ∀ u H', Same H H' → Dp K (Gv O σ ρ H') u z → Q u H'
def rD2L (K : Frg) (k : D → D → Option (List D)) : R2 := fun x y H Q => ∃ O σ ρ a b d e z, RelEnv K O σ H ρ ∧ RelE K O σ ρ H x a ∧ RelE K O σ ρ H y b ∧ deref ρ a = some d ∧ deref ρ b = some e ∧ k d e = some z ∧
  ∀ p vs, H p = none → DpAll K (Gv O σ ρ H) vs z → Q (.ref p) (upd H p (.lst vs))
def rD1 (K : Frg) (k : D → Option D) : V → Hp → VK → Prop := fun x H Q => ∃ O σ ρ a d z, RelEnv K O σ H ρ ∧ RelE K O σ ρ H x a ∧ deref ρ a = some d ∧ k d = some z ∧
  ∀ u H', Same H H' → Dp K (Gv O σ ρ H') u z → Q u H'
section
variable {X : Cx} {W : WX} {a b c : Expr} {fa fb fc : DX}
theorem optR_sat {α β γ : Type} {K : Frg} {mg : Mg} {O : Addr → Prop} {σ : L2.St} {ρ : DEnv} {H : Hp} {rel : DEnv → Hp → β → α → Prop} {Q : β → Hp → Prop} {o : Option γ} {k : γ → Res α}
    (h : Sat K mg O σ ρ H W rel Q (optR o k)) : ∃ z, o = some z ∧ Sat K mg O σ ρ H W rel Q (k z) := by
  cases o with
  | some z => exact ⟨z, rfl, h⟩
  | none => exact h.elim
theorem optR_satL {γ : Type} {K : Frg} {mg : Mg} {O : Addr → Prop} {σ : L2.St} {ρ : DEnv} {H : Hp} {Q : VK} {o : Option γ} {k : γ → Res Cell}
    (h : SatL K mg O σ ρ H W Q (optR o k)) : ∃ z, o = some z ∧ SatL K mg O σ ρ H W Q (k z) := by
  cases o with
  | some z => exact ⟨z, rfl, h⟩
  | none => exact h.elim
theorem SatL.shift {K : Frg} {mg : Mg} {O : Addr → Prop} {σ : L2.St} {ρ ρ1 : DEnv} {H H1 : Hp} {Q : VK} {r : Res Cell} (h : SatL K mg O σ ρ H W Q r) (s : EStp σ ρ H ρ1 H1) (n : ∀ p, H1 p = none → H p = none) : SatL K mg O σ ρ1 H1 W Q r := by
  cases r with
  | ok a ρ' => exact fun p H' s' e q => h p H' (s.trans s') (n p e) q
  | err x ρ' => exact fun c d H' s' e q => h c d H' (s.trans s') e q
  | bad => exact h
theorem EStp.none {σ : L2.St} {ρ ρ1 : DEnv} {H H1 : Hp} (s : EStp σ ρ H ρ1 H1) (p : Addr) (h : H1 p = none) : H p = none := by
  cases q : H p with
  | none => rfl
  | some o => exact absurd h (s.al p (by rw [q]; exact fun z => nomatch z))
theorem SatL.bind {α β : Type} {K : Frg} {mg : Mg} {O : Addr → Prop} {σ : L2.St} {ρ : DEnv} {H : Hp} {Q : VK} {rel : DEnv → Hp → β → α → Prop} {r : Res α} {k : α → DEnv → Res Cell} (h : SatL K mg O σ ρ H W Q (bindR r k)) :
    Sat K mg O σ ρ H W rel (fun u H1 => ∃ a ρ1, RelEnv K O σ H1 ρ1 ∧ rel ρ1 H1 u a ∧ EStp σ ρ H ρ1 H1 ∧ SatL K mg O σ ρ1 H1 W Q (k a ρ1)) r := by
  cases r with
  | ok a ρ' => exact fun u H' s e q => ⟨a, ρ', e, q, s, SatL.shift h s s.none⟩
  | err x ρ' => exact h
  | bad => exact h
theorem op2_core {k : D → D → Option D} {σ : L2.St} {H : Hp} {Q : VK} (h : tDX X.K X.mg W (x2 k fa fb) σ H Q) : tOp (rD2 X.K k) (tDX X.K X.mg W fa) (tDX X.K X.mg W fb) σ H Q := by
  obtain ⟨O, ρ, r, s⟩ := h
  refine ⟨O, ρ, r, (Sat.bind s).imp fun u H1 ⟨v, ρ1, r1, e1, s1⟩ => ⟨O, ρ1, r1, ?_⟩⟩
  try dsimp only at s1
  cases q : fb ρ1 with
  | ok b ρ2 =>
    rw [q] at s1
    intro w H2 st r2 e2
    have s2 := s1.shift st
    obtain ⟨d, hd, s3⟩ := optR_sat s2
    obtain ⟨e, he, s4⟩ := optR_sat s3
    obtain ⟨z, hz, s5⟩ := optR_sat s4
    exact ⟨O, σ, ρ2, v, b, d, e, z, r2, e1.mono st, e2, hd, he, hz, fun u' H' sm q' => s5 u' H' (.same sm) (r2.same sm) q'⟩
  | err x ρ2 => rw [q] at s1; exact s1
  | bad => rw [q] at s1; exact s1
theorem op2_coreL {k : D → D → Option (List D)} {σ : L2.St} {H : Hp} {Q : VK} (h : tDL X.K X.mg W (x2L k fa fb) σ H Q) : tOp (rD2L X.K k) (tDX X.K X.mg W fa) (tDX X.K X.mg W fb) σ H Q := by
  obtain ⟨O, ρ, r, s⟩ := h
  refine ⟨O, ρ, r, (SatL.bind s).imp fun u H1 ⟨v, ρ1, r1, e1, st1, s1⟩ => ⟨O, ρ1, r1, ?_⟩⟩
  try dsimp only at s1
  cases q : fb ρ1 with
  | ok b ρ2 =>
    rw [q] at s1
    intro w H2 st r2 e2
    have s2 := s1.shift st st.none
    obtain ⟨d, hd, s3⟩ := optR_satL s2
    obtain ⟨e, he, s4⟩ := optR_satL s3
    obtain ⟨z, hz, s5⟩ := optR_satL s4
    exact ⟨O, σ, ρ2, v, b, d, e, z, r2, e1.mono st, e2, hd, he, hz, fun p vs hp q' => s5 p _ (.same (same_upd hp)) hp (.mk' r2 hp q')⟩
  | err x ρ2 => rw [q] at s1; exact s1
  | bad => rw [q] at s1; exact s1
theorem de_bin {op : Operator} {k : D → D → Option D} {pos : Pos} (ho : OpR X (binaryOp op) (rD2 X.K k)) (ha : DE X W a fa) (hb : DE X W b fb) : DE X W (.BinOp a op b pos) (x2 k fa fb) :=
  ⟨pe_imp (pe_op ho ha.pe hb.pe) fun _ _ _ h => op2_core h⟩
theorem dl_bin {op : Operator} {k : D → D → Option (List D)} {pos : Pos} (ho : OpR X (binaryOp op) (rD2L X.K k)) (ha : DE X W a fa) (hb : DE X W b fb) : DLs X W (.BinOp a op b pos) (x2L k fa fb) :=
  ⟨pe_imp (pe_op ho ha.pe hb.pe) fun _ _ _ h => op2_coreL h⟩
theorem de_cmp {op : CmpOp} {k : D → D → Option D} {pos : Pos} (ho : OpR X (compareOp op) (rD2 X.K k)) (ha : DE X W a fa) (hb : DE X W b fb) (hm : behindInMarks op b = false := by rfl) : DE X W (.Compare a [op] [b] pos) (x2 k fa fb) :=
  ⟨pe_imp (pe_cmpR ho ha.pe hb.pe hm) fun _ _ _ h => op2_core h⟩
theorem de_ix {k : D → D → Option D} {pos : Pos} (ho : IxR X (rD2 X.K k)) (ha : DE X W a fa) (hb : DE X W b fb) (hs : PlainIx b := by exact fun _ _ => rfl) : DE X W (.Subscript a b pos) (x2 k fa fb) :=
  ⟨pe_imp (pe_ix ho ha.pe hb.pe hs) fun _ _ _ h => op2_core h⟩
theorem op1_core {k : D → Option D} {σ : L2.St} {H : Hp} {Q : VK} (h : tDX X.K X.mg W (x1 k fa) σ H Q) : tUn (rD1 X.K k) (tDX X.K X.mg W fa) σ H Q := by
  obtain ⟨O, ρ, r, s⟩ := h
  refine ⟨O, ρ, r, (Sat.bind s).imp fun u H1 ⟨v, ρ1, r1, e1, s1⟩ => ?_⟩
  obtain ⟨d, hd, s3⟩ := optR_sat s1
  obtain ⟨z, hz, s5⟩ := optR_sat s3
  exact ⟨O, σ, ρ1, v, d, z, r1, e1, hd, hz, fun u' H' sm q' => s5 u' H' (.same sm) (r1.same sm) q'⟩
theorem de_un {op : UnaryOp} {k : D → Option D} {pos : Pos} (ho : UnR X (unaryOp op) (rD1 X.K k)) (ha : DE X W a fa) : DE X W (.UnaryOp op a pos) (x1 k fa) :=
  ⟨pe_imp (pe_un ho ha.pe) fun _ _ _ h => op1_core h⟩

/-! ### truth -/
def truthD : D → Option Bool
  | .none => some false
  | .bool b => some b
  | .int i => some (i != 0)
  | .str x => if x.length ≤ sizeLine then some (x.length != 0) else none
  | .list ds => some (!ds.isEmpty)
  | .tuple ds => some (!ds.isEmpty)
  | .dict _ => none
theorem isEmpty_of {α β : Type} {xs : List α} {ys : List β} (h : xs.length = ys.length) : (!ys.isEmpty) = !xs.isEmpty := by
  cases xs with
  | nil => cases ys with
    | nil => rfl
    | cons _ _ => simp at h
  | cons _ _ => cases ys with
    | nil => simp at h
    | cons _ _ => rfl
theorem truV_of {K : Frg} {H : Hp} {x : V} {d : D} {k : Bool} (h : Dp K H x d) (e : truthD d = some k) : TruV K x H k := by
  cases d with
  | none => cases h; cases e; rfl
  | bool b => cases h; cases e; rfl
  | int i => cases h; cases e; rfl
  | str x =>
    cases h
    by_cases q : x.length ≤ sizeLine
    · rw [truthD, if_pos q] at e; cases e; exact ⟨q, by cases x.length <;> simp <;> omega⟩
    · rw [truthD, if_neg q] at e; cases e
  | list ds =>
    cases h with
    | lst s a =>
      cases e
      refine .inl ⟨_, s, ?_⟩
      have := DL.DpAll.length a
      exact isEmpty_of this
  | tuple ds =>
    cases h with
    | tup s a =>
      cases e
      refine .inr (.inl ⟨_, s, ?_⟩)
      have := DL.DpAll.length a
      exact isEmpty_of this
  | dict _ => cases h
end
end DL

namespace DL
open L2 PySem PySem.Spec PyProof.Rows
section
variable {X : Cx} {W : WX} {a b c : Expr} {fa fb fc : DX} {ta tb : DEnv → Res Bool}

/-! ### tests -/
def xTr (fa : DX) : DEnv → Res Bool := fun ρ => bindR (fa ρ) fun a ρ1 => optR (deref ρ1 a) fun d => optR (truthD d) fun k => .ok k ρ1
theorem dt_of (ha : DE X W a fa) (he : ∀ whole, isTrue a X.env whole = (do let v ← whole; standAt a.pos; holding [v] (truthy v)) := by intro _; rfl) : DT X W a (xTr fa) := by
  refine ⟨pt_imp (pt_truth ha.pe he) fun σ H Q ⟨O, ρ, r, s⟩ => ⟨O, ρ, r, (Sat.bind s).imp fun u H1 ⟨v, ρ1, r1, e1, s1⟩ => ?_⟩⟩
  obtain ⟨d, hd, s2⟩ := optR_sat s1
  obtain ⟨k, hk, s3⟩ := optR_sat s2
  exact ⟨k, truV_of (e1.dp r1 hd) hk, s3 k H1 .refl r1 rfl⟩
def kB (k : D → D → Option Bool) : D → D → Option D := fun d e => (k d e).map .bool
theorem dt_cmp {op : CmpOp} {k : D → D → Option Bool} {pos : Pos} (ho : OpR X (compareOp op) (rD2 X.K (kB k))) (ha : DE X W a fa) (hb : DE X W b fb) (hm : behindInMarks op b = false := by rfl) : DT X W (.Compare a [op] [b] pos) (xt2 k fa fb) := by
  refine ⟨pt_imp (pt_cmpR ho ha.pe hb.pe hm) fun σ H Q ⟨O, ρ, r, s⟩ => ⟨O, ρ, r, (Sat.bind s).imp fun u H1 ⟨v, ρ1, r1, e1, s1⟩ => ⟨O, ρ1, r1, ?_⟩⟩⟩
  try dsimp only at s1
  cases q : fb ρ1 with
  | ok b ρ2 =>
    rw [q] at s1
    intro w H2 st r2 e2
    have s2 := s1.shift st
    obtain ⟨d, hd, s3⟩ := optR_sat s2
    obtain ⟨e, he, s4⟩ := optR_sat s3
    obtain ⟨z, hz, s5⟩ := optR_sat s4
    refine ⟨O, σ, ρ2, v, b, d, e, .bool z, r2, e1.mono st, e2, hd, he, by unfold kB; rw [hz]; rfl, fun u' H' sm q' => ?_⟩
    cases q'
    exact ⟨z, rfl, s5 z H' (.same sm) (r2.same sm) rfl⟩
  | err x ρ2 => rw [q] at s1; exact s1
  | bad => rw [q] at s1; exact s1
/-- a op b op' c -/
def xChain (k k' : D → D → Option Bool) (fa fb fc : DX) : DEnv → Res Bool := fun ρ => bindR (fa ρ) fun a ρ1 => bindR (fb ρ1) fun b ρ2 => optR (deref ρ2 a) fun d => optR (deref ρ2 b) fun e => optR (k d e) fun z =>
  if z = true then bindR (fc ρ2) fun c ρ3 => optR (deref ρ3 b) fun e' => optR (deref ρ3 c) fun f => optR (k' e' f) fun z' => .ok z' ρ3 else .ok false ρ2
theorem chain_core {k k' : D → D → Option Bool} {σ : L2.St} {H : Hp} {Q : Bool → Hp → Prop} {Q' : VK} (i : ∀ k H', Q k H' → Q' (.bl k) H') (h : tDT X.K X.mg W (xChain k k' fa fb fc) σ H Q) :
    tChain (rD2 X.K (kB k)) (rD2 X.K (kB k')) (tDX X.K X.mg W fa) (tDX X.K X.mg W fb) (tDX X.K X.mg W fc) σ H Q' := by
  obtain ⟨O, ρ, r, s⟩ := h
  refine ⟨O, ρ, r, (Sat.bind s).imp fun u H1 ⟨v, ρ1, r1, e1, s1⟩ => ⟨O, ρ1, r1, ?_⟩⟩
  try dsimp only at s1
  cases q : fb ρ1 with
  | ok b ρ2 =>
    rw [q] at s1
    intro w H2 st r2 e2
    have s2 := s1.shift st
    obtain ⟨d, hd, s3⟩ := optR_sat s2
    obtain ⟨e, he, s4⟩ := optR_sat s3
    obtain ⟨z, hz, s5⟩ := optR_sat s4
    refine ⟨O, σ, ρ2, v, b, d, e, .bool z, r2, e1.mono st, e2, hd, he, by unfold kB; rw [hz]; rfl, fun u' H' sm q' => ?_⟩
    cases q'
    refine ⟨z, rfl, ?_⟩
    cases z with
    | false =>
      rw [if_neg Bool.false_ne_true] at s5 ⊢
      exact i _ _ (s5 false H' (.same sm) (r2.same sm) rfl)
    | true =>
      rw [if_pos rfl] at s5 ⊢
      have s6 := s5.shift (.same sm)
      refine ⟨O, ρ2, r2.same sm, ?_⟩
      cases qc : fc ρ2 with
      | ok c ρ3 =>
        rw [qc] at s6
        intro y H3 st3 r3 e3
        have s7 := s6.shift st3
        obtain ⟨e', he', s8⟩ := optR_sat s7
        obtain ⟨f', hf', s9⟩ := optR_sat s8
        obtain ⟨z', hz', s10⟩ := optR_sat s9
        refine ⟨O, σ, ρ3, b, c, e', f', .bool z', r3, (e2.mono (.same sm)).mono st3, e3, he', hf', by unfold kB; rw [hz']; rfl, fun u4 H4 sm4 q4 => ?_⟩
        cases q4
        exact i _ _ (s10 z' H4 (.same sm4) (r3.same sm4) rfl)
      | err x ρ3 => rw [qc] at s6; exact s6
      | bad => rw [qc] at s6; exact s6
  | err x ρ2 => rw [q] at s1; exact s1
  | bad => rw [q] at s1; exact s1
theorem dt_chain {op op' : CmpOp} {k k' : D → D → Option Bool} {pos : Pos} (ho : OpR X (compareOp op) (rD2 X.K (kB k))) (ho' : OpR X (compareOp op') (rD2 X.K (kB k'))) (ha : DE X W a fa) (hb : DE X W b fb) (hc : DE X W c fc)
    (hm : lastMarks [op, op'] [b, c] = false := by with_unfolding_all rfl) : DT X W (.Compare a [op, op'] [b, c] pos) (xChain k k' fa fb fc) := ⟨pt_imp (pt_chain ho ho' ha.pe hb.pe hc.pe hm) fun _ _ _ h => chain_core (fun k _ q => ⟨k, rfl, q⟩) h⟩
/-- a test's answer as a value -/
def xOfT (t : DEnv → Res Bool) : DX := fun ρ => bindR (t ρ) fun k ρ1 => .ok (.val (.bool k)) ρ1
theorem de_chain {op op' : CmpOp} {k k' : D → D → Option Bool} {pos : Pos} (ho : OpR X (compareOp op) (rD2 X.K (kB k))) (ho' : OpR X (compareOp op') (rD2 X.K (kB k'))) (ha : DE X W a fa) (hb : DE X W b fb) (hc : DE X W c fc)
    (hm : lastMarks [op, op'] [b, c] = false := by with_unfolding_all rfl) : DE X W (.Compare a [op, op'] [b, c] pos) (xOfT (xChain k k' fa fb fc)) := by
  refine ⟨pe_imp (pe_chain ho ho' ha.pe hb.pe hc.pe hm) fun σ H Q ⟨O, ρ, r, s⟩ => ?_⟩
  have h : tDT X.K X.mg W (xChain k k' fa fb fc) σ H (fun k H' => Q (.bl k) H') := by
    refine ⟨O, ρ, r, (Sat.bind s).imp fun u H1 ⟨v, ρ1, r1, e1, s1⟩ => ?_⟩
    cases e1
    exact s1 _ H1 .refl r1 (.bl _)
  exact chain_core (fun _ _ q => q) h
def xtNot (t : DEnv → Res Bool) : DEnv → Res Bool := fun ρ => bindR (t ρ) fun k ρ1 => .ok (!k) ρ1
theorem dt_not {pos : Pos} (ha : DT X W a ta) : DT X W (.UnaryOp .Not a pos) (xtNot ta) := by
  refine ⟨pt_imp (pt_not ha.pt) fun σ H Q ⟨O, ρ, r, s⟩ => ⟨O, ρ, r, (Sat.bind s).imp fun u H1 ⟨v, ρ1, r1, e1, s1⟩ => ?_⟩⟩
  cases e1
  exact s1 _ H1 .refl r1 rfl
def xtAnd (t u : DEnv → Res Bool) : DEnv → Res Bool := fun ρ => bindR (t ρ) fun k ρ1 => if k = true then u ρ1 else .ok false ρ1
def xtOr (t u : DEnv → Res Bool) : DEnv → Res Bool := fun ρ => bindR (t ρ) fun k ρ1 => if k = true then .ok true ρ1 else u ρ1
structure DW (X : Cx) (W : WX) (e : Expr) (f : DEnv → Res Bool) : Prop where
  pw : PW X e (tDT X.K X.mg W f)
theorem dt_w {e : Expr} {t : DEnv → Res Bool} (h : DW X W e t) : DT X W e t := ⟨h.pw.pt⟩
theorem dw_and1 {pos : Pos} (h : DT X W a ta) : DW X W (.BoolOp .And [a] pos) ta := ⟨pw_and1 h.pt⟩
theorem dw_or1 {pos : Pos} (h : DT X W a ta) : DW X W (.BoolOp .Or [a] pos) ta := ⟨pw_or1 h.pt⟩
theorem dw_and {pos : Pos} {rest : List Expr} (h : DT X W a ta) (h2 : DW X W (.BoolOp .And (b :: rest) pos) tb) : DW X W (.BoolOp .And (a :: b :: rest) pos) (xtAnd ta tb) := by
  refine ⟨pw_imp (pw_and h.pt h2.pw) fun σ H Q ⟨O, ρ, r, s⟩ => ⟨O, ρ, r, (Sat.bind s).imp fun u H1 ⟨v, ρ1, r1, e1, s1⟩ => ?_⟩⟩
  cases e1
  cases u with
  | true => exact iteT ⟨O, ρ1, r1, by simpa using s1⟩
  | false => exact iteF (by simp at s1; exact s1 _ H1 .refl r1 rfl)
theorem dw_or {pos : Pos} {rest : List Expr} (h : DT X W a ta) (h2 : DW X W (.BoolOp .Or (b :: rest) pos) tb) : DW X W (.BoolOp .Or (a :: b :: rest) pos) (xtOr ta tb) := by
  refine ⟨pw_imp (pw_or h.pt h2.pw) fun σ H Q ⟨O, ρ, r, s⟩ => ⟨O, ρ, r, (Sat.bind s).imp fun u H1 ⟨v, ρ1, r1, e1, s1⟩ => ?_⟩⟩
  cases e1
  cases u with
  | false => exact iteF ⟨O, ρ1, r1, by simpa using s1⟩
  | true => exact iteT (by simp at s1; exact s1 _ H1 .refl r1 rfl)

/-! ### and, or, not, if as values -/
def xAnd (fa fb : DX) : DX := fun ρ => bindR (fa ρ) fun a ρ1 => optR (deref ρ1 a) fun d => optR (truthD d) fun k => if k = true then fb ρ1 else .ok a ρ1
def xOr (fa fb : DX) : DX := fun ρ => bindR (fa ρ) fun a ρ1 => optR (deref ρ1 a) fun d => optR (truthD d) fun k => if k = true then .ok a ρ1 else fb ρ1
def xNot (fa : DX) : DX := fun ρ => bindR (fa ρ) fun a ρ1 => optR (deref ρ1 a) fun d => optR (truthD d) fun k => .ok (.val (.bool (!k))) ρ1
def xIf (t : DEnv → Res Bool) (fa fb : DX) : DX := fun ρ => bindR (t ρ) fun k ρ1 => if k = true then fa ρ1 else fb ρ1
theorem de_one {op : BoolOp} {pos : Pos} (h : DE X W a fa) : DE X W (.BoolOp op [a] pos) fa := ⟨pe_one h.pe⟩
theorem de_and {pos : Pos} {rest : List Expr} (ha : DE X W a fa) (hb : DE X W (.BoolOp .And (b :: rest) pos) fb) : DE X W (.BoolOp .And (a :: b :: rest) pos) (xAnd fa fb) := by
  refine ⟨pe_imp (pe_andT ha.pe hb.pe) fun σ H Q ⟨O, ρ, r, s⟩ => ⟨O, ρ, r, (Sat.bind s).imp fun u H1 ⟨v, ρ1, r1, e1, s1⟩ => ?_⟩⟩
  obtain ⟨d, hd, s2⟩ := optR_sat s1
  obtain ⟨k, hk, s3⟩ := optR_sat s2
  refine ⟨k, truV_of (RelE.dp e1 r1 hd) hk, ?_⟩
  cases k with
  | true => exact iteT ⟨O, ρ1, r1, by simpa using s3⟩
  | false => exact iteF (by simp at s3; exact s3 _ H1 .refl r1 e1)
theorem de_or {pos : Pos} {rest : List Expr} (ha : DE X W a fa) (hb : DE X W (.BoolOp .Or (b :: rest) pos) fb) : DE X W (.BoolOp .Or (a :: b :: rest) pos) (xOr fa fb) := by
  refine ⟨pe_imp (pe_orT ha.pe hb.pe) fun σ H Q ⟨O, ρ, r, s⟩ => ⟨O, ρ, r, (Sat.bind s).imp fun u H1 ⟨v, ρ1, r1, e1, s1⟩ => ?_⟩⟩
  obtain ⟨d, hd, s2⟩ := optR_sat s1
  obtain ⟨k, hk, s3⟩ := optR_sat s2
  refine ⟨k, truV_of (RelE.dp e1 r1 hd) hk, ?_⟩
  cases k with
  | false => exact iteF ⟨O, ρ1, r1, by simpa using s3⟩
  | true => exact iteT (by simp at s3; exact s3 _ H1 .refl r1 e1)
theorem de_not {pos : Pos} (ha : DE X W a fa) : DE X W (.UnaryOp .Not a pos) (xNot fa) := by
  refine ⟨pe_imp (pe_notT ha.pe) fun σ H Q ⟨O, ρ, r, s⟩ => ⟨O, ρ, r, (Sat.bind s).imp fun u H1 ⟨v, ρ1, r1, e1, s1⟩ => ?_⟩⟩
  obtain ⟨d, hd, s2⟩ := optR_sat s1
  obtain ⟨k, hk, s3⟩ := optR_sat s2
  exact ⟨k, truV_of (RelE.dp e1 r1 hd) hk, s3 _ H1 .refl r1 (.bl _)⟩
theorem de_if {pos : Pos} (hc : DT X W c ta) (ha : DE X W a fa) (hb : DE X W b fb) : DE X W (.IfExp c a b pos) (xIf ta fa fb) := by
  refine ⟨pe_imp (pe_ifExp hc.pt ha.pe hb.pe) fun σ H Q ⟨O, ρ, r, s⟩ => ⟨O, ρ, r, (Sat.bind s).imp fun u H1 ⟨v, ρ1, r1, e1, s1⟩ => ?_⟩⟩
  cases e1
  cases u with
  | true => exact iteT ⟨O, ρ1, r1, by simpa using s1⟩
  | false => exact iteF ⟨O, ρ1, r1, by simpa using s1⟩

/-! ### argument lists -/
def aNil : DEnv → Res (List EV) := fun ρ => .ok [] ρ
def aCons (f : DX) (g : DEnv → Res (List EV)) : DEnv → Res (List EV) := fun ρ => bindR (f ρ) fun v ρ1 => bindR (g ρ1) fun vs ρ2 => .ok (v :: vs) ρ2
theorem da_nil : DA X W [] aNil := ⟨pa_imp pa_nil fun σ H Q ⟨O, ρ, r, s⟩ => s [] H .refl r trivial⟩
theorem da_cons {es : List Expr} {g : DEnv → Res (List EV)} (ha : DE X W a fa) (hr : DA X W es g) (hs : starEach (a :: es) X.env = (false, eval a X.env) :: starEach es X.env := by rfl) : DA X W (a :: es) (aCons fa g) := by
  refine ⟨pa_imp (pa_cons ha.pe hr.pa hs) fun σ H Q ⟨O, ρ, r, s⟩ => ⟨O, ρ, r, (Sat.bind s).imp fun u H1 ⟨v, ρ1, r1, e1, s1⟩ => ⟨O, ρ1, r1, ?_⟩⟩⟩
  try dsimp only at s1
  cases q : g ρ1 with
  | ok vs ρ2 =>
    rw [q] at s1
    intro us H2 st r2 e2
    exact s1 (u :: us) H2 st r2 ⟨RelE.mono e1 st, e2⟩
  | err x ρ2 => rw [q] at s1; exact s1
  | bad => rw [q] at s1; exact s1
/-- a display's items: what is owned is given up -/
def xTup (g : DEnv → Res (List EV)) : DX := fun ρ => bindR (g ρ) fun vs ρ1 => optR (keeps vs ρ1) fun p => if p.1.length ≤ sizeLine then .ok (.val (.tuple p.1)) p.2 else .bad
def xLst (g : DEnv → Res (List EV)) : DEnv → Res Cell := fun ρ => bindR (g ρ) fun vs ρ1 => optR (keeps vs ρ1) fun p => if p.1.length ≤ sizeLine then .ok (.lst p.1) p.2 else .bad
theorem de_tup {es : List Expr} {x1} {pos : Pos} {g : DEnv → Res (List EV)} (h : DA X W es g) : DE X W (.Tuple es x1 pos) (xTup g) := by
  refine ⟨pe_imp (pe_tup h.pa) fun σ H Q ⟨O, ρ, r, s⟩ => ⟨O, ρ, r, (Sat.bind s).imp fun us H1 ⟨vs, ρ1, r1, e1, s1⟩ => ?_⟩⟩
  obtain ⟨⟨ds, ρ2⟩, hk, s2⟩ := optR_sat s1
  obtain ⟨r2, st, a⟩ := keeps_ok r1 e1 hk
  have hl := DL.DpAll.length a
  dsimp only at s2
  split at s2
  · rename_i hz
    refine ⟨by omega, fun p hp => ?_⟩
    have sm := same_upd (o := .tup us) hp
    refine s2 _ _ (st.trans (.same sm)) (r2.same sm) (L2.Dp.tup (SqT.of (Gv_of (r2.fresh hp).1 (r2.fresh hp).2 upd_same)) (dpAll_mono (same_gv sm) _ _ a))
  · exact s2.elim
theorem dl_lst {es : List Expr} {pos : Pos} {g : DEnv → Res (List EV)} (h : DA X W es g) : DLs X W (.List es pos) (xLst g) := by
  refine ⟨pe_imp (pe_lst h.pa) fun σ H Q ⟨O, ρ, r, s⟩ => ⟨O, ρ, r, (SatL.bind s).imp fun us H1 ⟨vs, ρ1, r1, e1, st1, s1⟩ => ?_⟩⟩
  obtain ⟨⟨ds, ρ2⟩, hk, s2⟩ := optR_satL s1
  obtain ⟨r2, st, a⟩ := keeps_ok r1 e1 hk
  have hl := DL.DpAll.length a
  dsimp only at s2
  split at s2
  · rename_i hz
    refine ⟨by omega, fun p hp => ?_⟩
    exact s2 p _ (st.trans (.same (same_upd hp))) hp (.mk' r2 hp a)
  · exact s2.elim

/-! ### calls of what is built in -/
def xCB (k : List D → Option D) (g : DEnv → Res (List EV)) : DX := fun ρ => bindR (g ρ) fun vs ρ1 => optR (derefs ρ1 vs) fun ds => optR (k ds) fun z => .ok (.val z) ρ1
def xCBL (k : List D → Option (List D)) (g : DEnv → Res (List EV)) : DEnv → Res Cell := fun ρ => bindR (g ρ) fun vs ρ1 => optR (derefs ρ1 vs) fun ds => optR (k ds) fun z => .ok (.lst z) ρ1
def rDn (K : Frg) (k : List D → Option D) : List V → Hp → VK → Prop := fun xs H Q => ∃ O σ ρ vs ds z, RelEnv K O σ H ρ ∧ RelEs K O σ ρ H xs vs ∧ derefs ρ vs = some ds ∧ k ds = some z ∧ ∀ u H', Same H H' → Dp K (Gv O σ ρ H') u z → Q u H'
def rDnL (K : Frg) (k : List D → Option (List D)) : List V → Hp → VK → Prop := fun xs H Q => ∃ O σ ρ vs ds z, RelEnv K O σ H ρ ∧ RelEs K O σ ρ H xs vs ∧ derefs ρ vs = some ds ∧ k ds = some z ∧
  ∀ p us, H p = none → DpAll K (Gv O σ ρ H) us z → Q (.ref p) (upd H p (.lst us))
theorem cb_core {k : List D → Option D} {g : DEnv → Res (List EV)} {σ : L2.St} {H : Hp} {Q : VK} (h : tDX X.K X.mg W (xCB k g) σ H Q) : tCB (rDn X.K k) (tDA X.K X.mg W g) σ H Q := by
  obtain ⟨O, ρ, r, s⟩ := h
  refine ⟨O, ρ, r, (Sat.bind s).imp fun us H1 ⟨vs, ρ1, r1, e1, s1⟩ => ?_⟩
  obtain ⟨ds, hd, s2⟩ := optR_sat s1
  obtain ⟨z, hz, s3⟩ := optR_sat s2
  exact ⟨O, σ, ρ1, vs, ds, z, r1, e1, hd, hz, fun u H' sm q => s3 u H' (.same sm) (r1.same sm) q⟩
theorem cb_coreL {k : List D → Option (List D)} {g : DEnv → Res (List EV)} {σ : L2.St} {H : Hp} {Q : VK} (h : tDL X.K X.mg W (xCBL k g) σ H Q) : tCB (rDnL X.K k) (tDA X.K X.mg W g) σ H Q := by
  obtain ⟨O, ρ, r, s⟩ := h
  refine ⟨O, ρ, r, (SatL.bind s).imp fun us H1 ⟨vs, ρ1, r1, e1, st, s1⟩ => ?_⟩
  obtain ⟨ds, hd, s2⟩ := optR_satL s1
  obtain ⟨z, hz, s3⟩ := optR_satL s2
  exact ⟨O, σ, ρ1, vs, ds, z, r1, e1, hd, hz, fun p us hp q => s3 p _ (.same (same_upd hp)) hp (.mk' r1 hp q)⟩
section
variable {x : Str} {p pos : Pos} {e : Expr} {es : List Expr} {g : DEnv → Res (List EV)}
theorem de_cb {id : String} {k : List D → Option D} (hc : CallR X (.builtin id) (rDn X.K k)) (hm : X.mg x = none) (hv : bootBuiltins x = some (.builtin id)) (ha : DA X W (e :: es) g) (hg : Gl X x := by rfl) (hn : x ≠ "__name__" := by decide) (hdb : (x == ("__debug__" : Str)) = false := by decide)
    (he : starEach (e :: es) X.env = (false, eval e X.env) :: starEach es X.env := by rfl) (hpl : (backTo pos (starEach es X.env)).any (·.1) = false := by rfl) : DE X W (.Call (.Name x p) (e :: es) [] pos) (xCB k g) :=
  ⟨pe_imp (pe_callB hc hg hm hv ha.pa hn hdb he hpl) fun _ _ _ h => cb_core h⟩
theorem de_ct {T : String} {k : List D → Option D} (hc : CallR X (.type T) (rDn X.K k)) (hm : X.mg x = none) (hv : bootBuiltins x = some (.type T)) (ha : DA X W (e :: es) g) (hg : Gl X x := by rfl) (hn : x ≠ "__name__" := by decide) (hdb : (x == ("__debug__" : Str)) = false := by decide)
    (he : starEach (e :: es) X.env = (false, eval e X.env) :: starEach es X.env := by rfl) (hpl : (backTo pos (starEach es X.env)).any (·.1) = false := by rfl) : DE X W (.Call (.Name x p) (e :: es) [] pos) (xCB k g) :=
  ⟨pe_imp (pe_callTy hc hg hm hv ha.pa hn hdb he hpl) fun _ _ _ h => cb_core h⟩
theorem dl_cb {id : String} {k : List D → Option (List D)} (hc : CallR X (.builtin id) (rDnL X.K k)) (hm : X.mg x = none) (hv : bootBuiltins x = some (.builtin id)) (ha : DA X W (e :: es) g) (hg : Gl X x := by rfl) (hn : x ≠ "__name__" := by decide) (hdb : (x == ("__debug__" : Str)) = false := by decide)
    (he : starEach (e :: es) X.env = (false, eval e X.env) :: starEach es X.env := by rfl) (hpl : (backTo pos (starEach es X.env)).any (·.1) = false := by rfl) : DLs X W (.Call (.Name x p) (e :: es) [] pos) (xCBL k g) :=
  ⟨pe_imp (pe_callB hc hg hm hv ha.pa hn hdb he hpl) fun _ _ _ h => cb_coreL h⟩
theorem dl_ct {T : String} {k : List D → Option (List D)} (hc : CallR X (.type T) (rDnL X.K k)) (hm : X.mg x = none) (hv : bootBuiltins x = some (.type T)) (ha : DA X W (e :: es) g) (hg : Gl X x := by rfl) (hn : x ≠ "__name__" := by decide) (hdb : (x == ("__debug__" : Str)) = false := by decide)
    (he : starEach (e :: es) X.env = (false, eval e X.env) :: starEach es X.env := by rfl) (hpl : (backTo pos (starEach es X.env)).any (·.1) = false := by rfl) : DLs X W (.Call (.Name x p) (e :: es) [] pos) (xCBL k g) :=
  ⟨pe_imp (pe_callTy hc hg hm hv ha.pa hn hdb he hpl) fun _ _ _ h => cb_coreL h⟩
end
end
end DL

namespace DL
open L2 PySem PySem.Spec PyProof.Rows

abbrev DSt := DEnv → Fl
/-- a step of a statement -/
structure SStp (σ : L2.St) (ρ : DEnv) (H : Hp) (σ' : L2.St) (ρ' : DEnv) (H' : Hp) : Prop where
  ext : ∀ b o, H b = some o → ¬ Ow σ ρ b → H' b = some o
  al : ∀ b, H b ≠ none → H' b ≠ none
  own : ∀ b, Ow σ' ρ' b → Ow σ ρ b ∨ H b = none
  io : ∀ (i : Nat) (c : Cell), ρ[i]? = some (some (.own true c)) → σ'[i]? = σ[i]? ∧ ∃ c', ρ'[i]? = some (some (.own true c'))
theorem SStp.refl {σ : L2.St} {ρ : DEnv} {H : Hp} : SStp σ ρ H σ ρ H := ⟨fun _ _ h _ => h, fun _ h => h, fun _ h => .inl h, fun _ c h => ⟨rfl, c, h⟩⟩
theorem SStp.trans {σ σ1 σ2 : L2.St} {ρ ρ1 ρ2 : DEnv} {H H1 H2 : Hp} (a : SStp σ ρ H σ1 ρ1 H1) (b : SStp σ1 ρ1 H1 σ2 ρ2 H2) : SStp σ ρ H σ2 ρ2 H2 where
  ext := fun c o h n => b.ext c o (a.ext c o h n) fun q => (a.own c q).elim n fun z => by rw [h] at z; cases z
  al := fun c h => b.al c (a.al c h)
  own := fun c h => (b.own c h).elim (fun q => a.own c q) fun z => .inr (by
    cases q : H c with
    | none => rfl
    | some o => exact absurd z (a.al c (by rw [q]; exact fun z => nomatch z)))
  io := fun i c h => by
    obtain ⟨e1, c1, h1⟩ := a.io i c h
    obtain ⟨e2, c2, h2⟩ := b.io i c1 h1
    exact ⟨e2.trans e1, c2, h2⟩
theorem EStp.s {σ : L2.St} {ρ ρ' : DEnv} {H H' : Hp} (a : EStp σ ρ H ρ' H') : SStp σ ρ H σ ρ' H' := ⟨a.ext, a.al, fun b h => .inl (a.own b h), fun i c h => ⟨rfl, a.io i c h⟩⟩
theorem SStp.gv {O : Addr → Prop} {σ σ' : L2.St} {ρ ρ' : DEnv} {H H' : Hp} (s : SStp σ ρ H σ' ρ' H') : ∀ a o, Gv O σ ρ H a = some o → Gv O σ' ρ' H' a = some o := fun a o h => by
  obtain ⟨h1, h2, h3⟩ := of_Gv h
  exact Gv_of h1 (fun q => (s.own a q).elim h2 fun z => by rw [h3] at z; cases z) (s.ext a o h3 h2)

/-- what is handed back: seen data, or a thing that nobody else holds -/
def RelR (K : Frg) (O : Addr → Prop) (σ : L2.St) (ρ : DEnv) (H : Hp) (σ' : L2.St) (ρ' : DEnv) (H' : Hp) (u : V) : RV → Prop
  | .val d => RelEnv K O σ' H' ρ' ∧ Dp K (Gv O σ' ρ' H') u d
  | .own c => ∃ p, u = .ref p ∧ NewAt K O σ' ρ' H' p c ∧ (Ow σ ρ p ∨ H p = none)
def SatS (K : Frg) (mg : Mg) (O : Addr → Prop) (σ : L2.St) (ρ : DEnv) (H : Hp) (W : WX) (E : Ends) : Fl → Prop
  | .nx ρ' => ∀ σ' H', SStp σ ρ H σ' ρ' H' → RelEnv K O σ' H' ρ' → E.nx σ' H'
  | .rt v ρ' => ∀ u σ' H', SStp σ ρ H σ' ρ' H' → RelR K O σ ρ H σ' ρ' H' u v → E.rt u H'
  | .bk ρ' => ∀ σ' H', SStp σ ρ H σ' ρ' H' → RelEnv K O σ' H' ρ' → E.bk σ' H'
  | .ct ρ' => ∀ σ' H', SStp σ ρ H σ' ρ' H' → RelEnv K O σ' H' ρ' → E.ct σ' H'
  | .err x ρ' => ∀ cls d σ' H', SStp σ ρ H σ' ρ' H' → RelEnv K O σ' H' ρ' → ExnAt mg x cls d H' → W cls d σ' H'
  | .bad => False
theorem RelR.back {K : Frg} {O : Addr → Prop} {σ σ1 σ' : L2.St} {ρ ρ1 ρ' : DEnv} {H H1 H' : Hp} {u : V} {v : RV} (s : SStp σ ρ H σ1 ρ1 H1) (r : RelR K O σ1 ρ1 H1 σ' ρ' H' u v) : RelR K O σ ρ H σ' ρ' H' u v := by
  cases v with
  | val d => exact r
  | own c =>
    obtain ⟨p, h1, h2, h3⟩ := r
    refine ⟨p, h1, h2, h3.elim (fun q => s.own p q) fun z => .inr ?_⟩
    cases q : H p with
    | none => rfl
    | some o => exact absurd z (s.al p (by rw [q]; exact fun z => nomatch z))
theorem SatS.shift {K : Frg} {mg : Mg} {O : Addr → Prop} {σ σ1 : L2.St} {ρ ρ1 : DEnv} {H H1 : Hp} {W : WX} {E : Ends} {r : Fl} (h : SatS K mg O σ ρ H W E r) (s : SStp σ ρ H σ1 ρ1 H1) : SatS K mg O σ1 ρ1 H1 W E r := by
  cases r with
  | nx ρ' => exact fun σ' H' s' e => h σ' H' (s.trans s') e
  | rt v ρ' => exact fun u σ' H' s' e => h u σ' H' (s.trans s') (e.back s)
  | bk ρ' => exact fun σ' H' s' e => h σ' H' (s.trans s') e
  | ct ρ' => exact fun σ' H' s' e => h σ' H' (s.trans s') e
  | err x ρ' => exact fun c d σ' H' s' e q => h c d σ' H' (s.trans s') e q
  | bad => exact h
def tDS (K : Frg) (mg : Mg) (W : WX) (g : DSt) : TS := fun E σ H => ∃ O ρ, RelEnv K O σ H ρ ∧ SatS K mg O σ ρ H W E (g ρ)
structure DS (X : Cx) (W : WX) (st : Stmt) (g : DSt) : Prop where
  ps : PS X st (tDS X.K X.mg W g)
structure DSs (X : Cx) (W : WX) (st : List Stmt) (g : DSt) : Prop where
  pss : PSs X st (tDS X.K X.mg W g)
theorem ps_imp {X : Cx} {e : Stmt} {t t' : TS} (h : PS X e t) (i : ∀ D σ H, t' D σ H → t D σ H) : PS X e t' := ⟨fun pins s σ H D I q => h.run pins s σ H D I (i _ _ _ q)⟩
theorem pss_imp {X : Cx} {e : List Stmt} {t t' : TS} (h : PSs X e t) (i : ∀ D σ H, t' D σ H → t D σ H) : PSs X e t' := ⟨fun pins s σ H D I q => h.run pins s σ H D I (i _ _ _ q)⟩
theorem pg_imp {X : Cx} {e : Expr} {t t' : TG} (h : PG X e t) (i : ∀ v σ H Q, t' v σ H Q → t v σ H Q) : PG X e t' := ⟨fun pins s σ H v u Q I r q => h.run pins s σ H v u Q I r (i _ _ _ _ q)⟩

def bindF {α : Type} (r : Res α) (k : α → DEnv → Fl) : Fl := match r with
  | .ok a ρ => k a ρ
  | .err x ρ => .err x ρ
  | .bad => .bad
@[simp] theorem bindF_ok {α : Type} (a : α) (ρ : DEnv) (k : α → DEnv → Fl) : bindF (.ok a ρ) k = k a ρ := (Eq.refl _).trans (Eq.refl _)
@[simp] theorem bindF_err {α : Type} (x : Exn) (ρ : DEnv) (k : α → DEnv → Fl) : bindF (.err x ρ : Res α) k = .err x ρ := (Eq.refl _).trans (Eq.refl _)
@[simp] theorem bindF_bad {α : Type} (k : α → DEnv → Fl) : bindF (.bad : Res α) k = .bad := (Eq.refl _).trans (Eq.refl _)
def optF {α : Type} (o : Option α) (k : α → Fl) : Fl := match o with
  | some a => k a
  | none => .bad
@[simp] theorem optF_some {α : Type} (a : α) (k : α → Fl) : optF (some a) k = k a := (Eq.refl _).trans (Eq.refl _)
@[simp] theorem optF_none {α : Type} (k : α → Fl) : optF none k = .bad := (Eq.refl _).trans (Eq.refl _)
def seqF (f : Fl) (g : DSt) : Fl := match f with
  | .nx ρ => g ρ
  | z => z
@[simp] theorem seqF_nx (ρ : DEnv) (g : DSt) : seqF (.nx ρ) g = g ρ := (Eq.refl _).trans (Eq.refl _)
@[simp] theorem seqF_rt (v : RV) (ρ : DEnv) (g : DSt) : seqF (.rt v ρ) g = .rt v ρ := (Eq.refl _).trans (Eq.refl _)
@[simp] theorem seqF_bk (ρ : DEnv) (g : DSt) : seqF (.bk ρ) g = .bk ρ := (Eq.refl _).trans (Eq.refl _)
@[simp] theorem seqF_ct (ρ : DEnv) (g : DSt) : seqF (.ct ρ) g = .ct ρ := (Eq.refl _).trans (Eq.refl _)
@[simp] theorem seqF_err (x : Exn) (ρ : DEnv) (g : DSt) : seqF (.err x ρ) g = .err x ρ := (Eq.refl _).trans (Eq.refl _)
@[simp] theorem seqF_bad (g : DSt) : seqF .bad g = .bad := (Eq.refl _).trans (Eq.refl _)

section
variable {K : Frg} {mg : Mg} {O : Addr → Prop} {σ : L2.St} {ρ : DEnv} {H : Hp} {W : WX} {E : Ends}
theorem SatS.bind {α β : Type} {rel : DEnv → Hp → β → α → Prop} {r : Res α} {k : α → DEnv → Fl} (h : SatS K mg O σ ρ H W E (bindF r k)) :
    Sat K mg O σ ρ H W rel (fun u H1 => ∃ a ρ1, RelEnv K O σ H1 ρ1 ∧ rel ρ1 H1 u a ∧ EStp σ ρ H ρ1 H1 ∧ SatS K mg O σ ρ1 H1 W E (k a ρ1)) r := by
  cases r with
  | ok a ρ' => exact fun u H' s e q => ⟨a, ρ', e, q, s, SatS.shift h s.s⟩
  | err x ρ' => exact fun c d H' s e q => h c d σ H' s.s e q
  | bad => exact h
theorem SatS.bindL {r : Res Cell} {k : Cell → DEnv → Fl} (h : SatS K mg O σ ρ H W E (bindF r k)) :
    SatL K mg O σ ρ H W (fun u H1 => ∃ c ρ1 p, u = .ref p ∧ NewAt K O σ ρ1 H1 p c ∧ H p = none ∧ EStp σ ρ H ρ1 H1 ∧ SatS K mg O σ ρ1 H1 W E (k c ρ1)) r := by
  cases r with
  | ok a ρ' => exact fun p H' s e q => ⟨a, ρ', p, rfl, q, e, s, SatS.shift h s.s⟩
  | err x ρ' => exact fun c d H' s e q => h c d σ H' s.s e q
  | bad => exact h
theorem optF_sat {γ : Type} {o : Option γ} {k : γ → Fl} (h : SatS K mg O σ ρ H W E (optF o k)) : ∃ z, o = some z ∧ SatS K mg O σ ρ H W E (k z) := by
  cases o with
  | some z => exact ⟨z, rfl, h⟩
  | none => exact h.elim
theorem SatL.imp {Q Q' : VK} {r : Res Cell} (h : SatL K mg O σ ρ H W Q r) (i : ∀ u H', Q u H' → Q' u H') : SatL K mg O σ ρ H W Q' r := by
  cases r with
  | ok a ρ' => exact fun p H' s e q => i _ _ (h p H' s e q)
  | err x ρ' => exact h
  | bad => exact h

/-! ### storing at a name -/
def isIo (o : Option (Option SV)) : Bool := match o with
  | some (some (.own true _)) => true
  | _ => false
theorem ow_setV {v : Option V} {i : Nat} {x : Option SV} {b : Addr} (hx : ∀ io c, x ≠ some (.own io c)) (h : Ow (σ.set i v) (ρ.set i x) b) : Ow σ ρ b := by
  obtain ⟨j, io, c, e1, e2⟩ := h
  by_cases hj : i = j
  · subst hj
    rw [List.getElem?_set] at e1
    simp only [if_true] at e1
    split at e1
    · exact absurd (Option.some.inj e1) (hx io c)
    · cases e1
  · rw [List.getElem?_set_ne hj] at e1 e2
    exact ⟨j, io, c, e1, e2⟩
theorem set_val {u : V} {d : D} {i : Nat} (r : RelEnv K O σ H ρ) (hio : isIo ρ[i]? = false) (hd : Dp K (Gv O σ ρ H) u d) :
    RelEnv K O (σ.set i (some u)) H (ρ.set i (some (.val d))) ∧ SStp σ ρ H (σ.set i (some u)) (ρ.set i (some (.val d))) H := by
  have ow : ∀ b, Ow (σ.set i (some u)) (ρ.set i (some (.val d))) b → Ow σ ρ b := fun b h => ow_setV (by intro _ _ z; cases z) h
  have st : SStp σ ρ H (σ.set i (some u)) (ρ.set i (some (.val d))) H := ⟨fun _ _ h _ => h, fun _ h => h, fun b h => .inl (ow b h), fun j c h => by
    have hj : i ≠ j := by rintro rfl; rw [h] at hio; cases hio
    rw [List.getElem?_set_ne hj, List.getElem?_set_ne hj]; exact ⟨rfl, c, h⟩⟩
  refine ⟨⟨by rw [List.length_set, List.length_set]; exact r.len, r.oa, fun j d' h => ?_, fun j b c h => ?_, fun j k a b c b' c' h1 h2 h3 h4 => ?_, fun j a h => ?_⟩, st⟩
  · by_cases hj : i = j
    · subst hj
      have hi : i < ρ.length := by
        have := (List.getElem?_eq_some_iff.mp h).1
        rw [List.length_set] at this; exact this
      rw [List.getElem?_set_self hi] at h
      cases h
      exact ⟨u, List.getElem?_set_self (by rw [r.len]; exact hi), dp_mono st.gv _ _ hd⟩
    · rw [List.getElem?_set_ne hj] at h ⊢
      obtain ⟨v, h1, h2⟩ := r.val j d' h
      exact ⟨v, h1, dp_mono st.gv _ _ h2⟩
  · by_cases hj : i = j
    · subst hj
      have hi : i < ρ.length := by
        have := (List.getElem?_eq_some_iff.mp h).1
        rw [List.length_set] at this; exact this
      rw [List.getElem?_set_self hi] at h
      cases h
    · rw [List.getElem?_set_ne hj] at h ⊢
      obtain ⟨a, h1, h2, h3⟩ := r.own j b c h
      exact ⟨a, h1, h2, h3.mono st.gv fun _ q => q⟩
  · have n1 : i ≠ j := by
      rintro rfl
      have hi := (List.getElem?_eq_some_iff.mp h1).1
      rw [List.length_set] at hi
      rw [List.getElem?_set_self hi] at h1; cases h1
    have n2 : i ≠ k := by
      rintro rfl
      have hi := (List.getElem?_eq_some_iff.mp h2).1
      rw [List.length_set] at hi
      rw [List.getElem?_set_self hi] at h2; cases h2
    rw [List.getElem?_set_ne n1] at h1 h3
    rw [List.getElem?_set_ne n2] at h2 h4
    exact r.inj j k a _ _ _ _ h1 h2 h3 h4
  · have hj : i ≠ j := by
      rintro rfl
      have hi := (List.getElem?_eq_some_iff.mp h).1
      rw [List.length_set] at hi
      rw [List.getElem?_set_self hi] at h; cases h
    rw [List.getElem?_set_ne hj] at h ⊢
    exact r.raw j a h
theorem set_own {p : Addr} {c : Cell} {i : Nat} (n : NewAt K O σ ρ H p c) (hio : isIo ρ[i]? = false) :
    RelEnv K O (σ.set i (some (.ref p))) H (ρ.set i (some (.own false c))) ∧ (∀ b, Ow (σ.set i (some (.ref p))) (ρ.set i (some (.own false c))) b → Ow σ ρ b ∨ b = p) := by
  obtain ⟨r, np, no, hc⟩ := n
  have ow : ∀ b, Ow (σ.set i (some (.ref p))) (ρ.set i (some (.own false c))) b → Ow σ ρ b ∨ b = p := fun b h => by
    obtain ⟨j, io, c', e1, e2⟩ := h
    by_cases hj : i = j
    · subst hj
      have hi : i < σ.length := by
        have := (List.getElem?_eq_some_iff.mp e2).1
        rw [List.length_set] at this; exact this
      rw [List.getElem?_set_self hi] at e2
      cases e2; exact .inr rfl
    · rw [List.getElem?_set_ne hj] at e1 e2
      exact .inl ⟨j, io, c', e1, e2⟩
  have gv : ∀ a o, Gv (fun a => O a ∨ a = p) σ ρ H a = some o → Gv O (σ.set i (some (.ref p))) (ρ.set i (some (.own false c))) H a = some o := fun a o h => by
    obtain ⟨h1, h2, h3⟩ := of_Gv h
    exact Gv_of (fun q => h1 (.inl q)) (fun q => (ow a q).elim h2 fun z => h1 (.inr z)) h3
  refine ⟨⟨by rw [List.length_set, List.length_set]; exact r.len, fun a q => r.oa a (.inl q), fun j d' h => ?_, fun j b c h => ?_, fun j k a b1 c1 b' c' h1 h2 h3 h4 => ?_, fun j a h => ?_⟩, ow⟩
  · by_cases hj : i = j
    · subst hj
      have hi : i < ρ.length := by
        have := (List.getElem?_eq_some_iff.mp h).1
        rw [List.length_set] at this; exact this
      rw [List.getElem?_set_self hi] at h
      cases h
    · rw [List.getElem?_set_ne hj] at h ⊢
      obtain ⟨v, h1, h2⟩ := r.val j d' h
      exact ⟨v, h1, dp_mono gv _ _ h2⟩
  · by_cases hj : i = j
    · subst hj
      have hi : i < ρ.length := by
        have := (List.getElem?_eq_some_iff.mp h).1
        rw [List.length_set] at this; exact this
      rw [List.getElem?_set_self hi] at h
      cases h
      exact ⟨p, List.getElem?_set_self (by rw [r.len]; exact hi), np, hc.mono gv fun _ q => q⟩
    · rw [List.getElem?_set_ne hj] at h ⊢
      obtain ⟨a, h1, h2, h3⟩ := r.own j b c h
      exact ⟨a, h1, fun q => h2 (.inl q), h3.mono gv fun _ q => q⟩
  · have key : ∀ {m : Nat} {b0 : Bool} {c0 : Cell}, (ρ.set i (some (.own false c)))[m]? = some (some (.own b0 c0)) → (σ.set i (some (V.ref p)))[m]? = some (some (.ref a)) → (m = i ∧ a = p) ∨ (m ≠ i ∧ ρ[m]? = some (some (.own b0 c0)) ∧ σ[m]? = some (some (.ref a)) ∧ a ≠ p) := by
      intro m b0 c0 e1 e2
      by_cases hm : i = m
      · subst hm
        have hi : i < σ.length := by
          have := (List.getElem?_eq_some_iff.mp e2).1
          rw [List.length_set] at this; exact this
        rw [List.getElem?_set_self hi] at e2
        cases e2
        exact .inl ⟨rfl, rfl⟩
      · rw [List.getElem?_set_ne hm] at e1 e2
        refine .inr ⟨fun z => hm z.symm, e1, e2, ?_⟩
        rintro rfl
        exact no ⟨m, b0, c0, e1, e2⟩
    rcases key h1 h3 with ⟨e1, e2⟩ | ⟨n1, q1, q2, q3⟩
    · rcases key h2 h4 with ⟨f1, f2⟩ | ⟨m1, p1, p2, p3⟩
      · rw [e1, f1]
      · exact absurd e2 p3
    · rcases key h2 h4 with ⟨f1, f2⟩ | ⟨m1, p1, p2, p3⟩
      · exact absurd f2 q3
      · exact r.inj j k a _ _ _ _ q1 p1 q2 p2
  · have hj : i ≠ j := by
      rintro rfl
      have hi := (List.getElem?_eq_some_iff.mp h).1
      rw [List.length_set] at hi
      rw [List.getElem?_set_self hi] at h; cases h
    rw [List.getElem?_set_ne hj] at h ⊢
    exact r.raw j a h
theorem set_ownS {p : Addr} {c : Cell} {i : Nat} {ρ0 : DEnv} {H0 : Hp} (st : EStp σ ρ0 H0 ρ H) (hp : H0 p = none) (n : NewAt K O σ ρ H p c) (hio : isIo ρ[i]? = false) :
    SStp σ ρ0 H0 (σ.set i (some (.ref p))) (ρ.set i (some (.own false c))) H := by
  have ow := (set_own n hio).2
  refine ⟨st.ext, st.al, fun b h => (ow b h).elim (fun q => .inl (st.own b q)) fun z => .inr (by rw [z]; exact hp), fun j c' h => ?_⟩
  obtain ⟨c1, h1⟩ := st.io j c' h
  have hj : i ≠ j := by rintro rfl; rw [h1] at hio; cases hio
  rw [List.getElem?_set_ne hj, List.getElem?_set_ne hj]; exact ⟨rfl, c1, h1⟩
end

/-! ### blocks -/
section
variable {X : Cx} {W : WX} {st : Stmt} {sts : List Stmt} {g h : DSt}
def gNext : DSt := fun ρ => .nx ρ
def gSeq (g h : DSt) : DSt := fun ρ => seqF (g ρ) h
theorem dss_nil : DSs X W [] gNext := ⟨pss_imp pss_nil fun E σ H ⟨O, ρ, r, s⟩ => s σ H .refl r⟩
theorem dss_cons (a : DS X W st g) (b : DSs X W sts h) : DSs X W (st :: sts) (gSeq g h) := by
  refine ⟨pss_imp (pss_cons a.ps b.pss) fun E σ H ⟨O, ρ, r, s⟩ => ⟨O, ρ, r, ?_⟩⟩
  unfold gSeq at s
  cases q : g ρ with
  | nx ρ1 => rw [q] at s; exact fun σ' H' st' r' => ⟨O, ρ1, r', SatS.shift s st'⟩
  | rt v ρ1 => rw [q] at s; exact s
  | bk ρ1 => rw [q] at s; exact s
  | ct ρ1 => rw [q] at s; exact s
  | err x ρ1 => rw [q] at s; exact s
  | bad => rw [q] at s; exact s
theorem dss_one (a : DS X W st g) : DSs X W [st] g := ⟨pss_imp (pss_one a.ps) fun E σ H s => s⟩
theorem ds_pass {pos : Pos} : DS X W (.Pass pos) gNext := ⟨ps_imp ps_pass fun E σ H ⟨O, ρ, r, s⟩ => s σ H .refl r⟩
def gBreak : DSt := fun ρ => .bk ρ
def gCont : DSt := fun ρ => .ct ρ
theorem ds_break {pos : Pos} : DS X W (.Break pos) gBreak := ⟨ps_imp ps_break fun E σ H ⟨O, ρ, r, s⟩ => s σ H .refl r⟩
theorem ds_cont {pos : Pos} : DS X W (.Continue pos) gCont := ⟨ps_imp ps_continue fun E σ H ⟨O, ρ, r, s⟩ => s σ H .refl r⟩
def gIf (t : DEnv → Res Bool) (g h : DSt) : DSt := fun ρ => bindF (t ρ) fun k ρ1 => if k = true then g ρ1 else h ρ1
theorem ds_if {c : Expr} {as bs : List Stmt} {pos : Pos} {t : DEnv → Res Bool} (hc : DT X W c t) (ha : DSs X W as g) (hb : DSs X W bs h) : DS X W (.If c as bs pos) (gIf t g h) := by
  refine ⟨ps_imp (ps_if hc.pt ha.pss hb.pss) fun E σ H ⟨O, ρ, r, s⟩ => ⟨O, ρ, r, (SatS.bind s).imp fun u H1 ⟨v, ρ1, r1, e1, st, s1⟩ => ?_⟩⟩
  cases e1
  cases u with
  | true => exact iteT ⟨O, ρ1, r1, by simpa using s1⟩
  | false => exact iteF ⟨O, ρ1, r1, by simpa using s1⟩

/-! ### expressions, returns, assignments -/
def gExpr (f : DX) : DSt := fun ρ => bindF (f ρ) fun _ ρ1 => .nx ρ1
theorem ds_expr {e : Expr} {f : DX} {pos : Pos} (he : DE X W e f) (hs : swapsWith e none pos.line X.env = pure false := by rfl) : DS X W (.Expr e pos) (gExpr f) := by
  refine ⟨ps_imp (ps_expr he.pe hs) fun E σ H ⟨O, ρ, r, s⟩ => ⟨O, ρ, r, (SatS.bind s).imp fun u H1 ⟨v, ρ1, r1, e1, st, s1⟩ => ?_⟩⟩
  exact s1 σ H1 .refl r1
def gRet (f : DX) : DSt := fun ρ => bindF (f ρ) fun v ρ1 => optF (keep v ρ1) fun p => .rt (.val p.1) p.2
theorem ds_ret {e : Expr} {f : DX} {pos : Pos} (he : DE X W e f) : DS X W (.Return (some e) pos) (gRet f) := by
  refine ⟨ps_imp (ps_ret he.pe) fun E σ H ⟨O, ρ, r, s⟩ => ⟨O, ρ, r, (SatS.bind s).imp fun u H1 ⟨v, ρ1, r1, e1, st, s1⟩ => ?_⟩⟩
  obtain ⟨⟨d, ρ2⟩, hk, s2⟩ := optF_sat s1
  obtain ⟨r2, st2, hd⟩ := keep_ok r1 e1 hk
  exact s2 u σ H1 st2.s ⟨r2, hd⟩
def gRetL (f : DEnv → Res Cell) : DSt := fun ρ => bindF (f ρ) fun c ρ1 => .rt (.own c) ρ1
theorem ds_retL {e : Expr} {f : DEnv → Res Cell} {pos : Pos} (he : DLs X W e f) : DS X W (.Return (some e) pos) (gRetL f) := by
  refine ⟨ps_imp (ps_ret he.pe) fun E σ H ⟨O, ρ, r, s⟩ => ⟨O, ρ, r, ?_⟩⟩
  unfold gRetL at s
  cases q : f ρ with
  | ok c ρ1 =>
    rw [q] at s
    exact fun p H' st hp n => s _ σ H' st.s ⟨p, rfl, n, .inr hp⟩
  | err x ρ1 => rw [q] at s; exact fun c d H' st e z => s c d σ H' st.s e z
  | bad => rw [q] at s; exact s
def gRetN : DSt := fun ρ => .rt (.val .none) ρ
theorem ds_retN {pos : Pos} : DS X W (.Return none pos) gRetN := ⟨ps_imp ps_retN fun E σ H ⟨O, ρ, r, s⟩ => s .non σ H .refl ⟨r, .non⟩⟩
/-- return of a name that owns its thing -/
def gRetOwn (i : Nat) : DSt := fun ρ => match ρ[i]? with
  | some (some (.own false c)) => .rt (.own c) (ρ.set i none)
  | _ => .bad
def gSet (i : Nat) (f : DX) : DSt := fun ρ => bindF (f ρ) fun v ρ1 => optF (keep v ρ1) fun p => if isIo p.2[i]? = true then .bad else .nx (p.2.set i (some (.val p.1)))
def gSetL (i : Nat) (f : DEnv → Res Cell) : DSt := fun ρ => bindF (f ρ) fun c ρ1 => if isIo ρ1[i]? = true then .bad else .nx (ρ1.set i (some (.own false c)))
theorem set_core {i : Nat} {f : DX} {E : Ends} {σ : L2.St} {H : Hp} (h : tDS X.K X.mg W (gSet i f) E σ H) : tAsg (tDX X.K X.mg W f) (gName i) E σ H := by
  obtain ⟨O, ρ, r, s⟩ := h
  refine ⟨O, ρ, r, (SatS.bind s).imp fun u H1 ⟨v, ρ1, r1, e1, st, s1⟩ => ?_⟩
  obtain ⟨⟨d, ρ2⟩, hk, s2⟩ := optF_sat s1
  obtain ⟨r2, st2, hd⟩ := keep_ok r1 e1 hk
  dsimp only at s2
  split at s2
  · exact s2.elim
  · rename_i hio
    obtain ⟨r3, st3⟩ := set_val r2 (by simpa using hio) hd
    exact s2 _ H1 (st2.s.trans st3) r3
theorem set_coreL {i : Nat} {f : DEnv → Res Cell} {E : Ends} {σ : L2.St} {H : Hp} (h : tDS X.K X.mg W (gSetL i f) E σ H) : tAsg (tDL X.K X.mg W f) (gName i) E σ H := by
  obtain ⟨O, ρ, r, s⟩ := h
  refine ⟨O, ρ, r, ?_⟩
  unfold gSetL at s
  cases q : f ρ with
  | ok c ρ1 =>
    rw [q] at s
    intro p H' st hp n
    dsimp only [bindF] at s
    split at s
    · exact s.elim
    · rename_i hio
      exact s _ H' (set_ownS st hp n (by simpa using hio)) (set_own n (by simpa using hio)).1
  | err x ρ1 => rw [q] at s; exact fun c d H' st e z => s c d σ H' st.s e z
  | bad => rw [q] at s; exact s
section
variable {i : Nat} {x : Str} {e : Expr} {pos pos' : Pos}
theorem ds_set {f : DX} (he : DE X W e f) (hN : X.N.Nodup) (hi : X.N[i]? = some x := by rfl) (hx : Loc X.env.scope x := by first | exact Or.inl rfl | exact Or.inr rfl) (hs : swapsWith e (some (.Name x pos')) pos.line X.env = pure false := by rfl)
    (hf : X.fn x = true ∨ X.env.scope.names.lookup x = some .local := by first | exact .inl rfl | exact .inr rfl | assumption) : DS X W (.Assign [.Name x pos'] e pos) (gSet i f) :=
  ⟨ps_imp (ps_set hN hi hx he.pe hs hf) fun _ _ _ h => set_core h⟩
theorem ds_setL {f : DEnv → Res Cell} (he : DLs X W e f) (hN : X.N.Nodup) (hi : X.N[i]? = some x := by rfl) (hx : Loc X.env.scope x := by first | exact Or.inl rfl | exact Or.inr rfl) (hs : swapsWith e (some (.Name x pos')) pos.line X.env = pure false := by rfl)
    (hf : X.fn x = true ∨ X.env.scope.names.lookup x = some .local := by first | exact .inl rfl | exact .inr rfl | assumption) : DS X W (.Assign [.Name x pos'] e pos) (gSetL i f) :=
  ⟨ps_imp (ps_set hN hi hx he.pe hs hf) fun _ _ _ h => set_coreL h⟩
end
end
end DL

namespace DL
open L2 PySem PySem.Spec PyProof.Rows

/-! ### targets -/
def tDG (K : Frg) (sl : List Nat) (bind : D → DEnv → Option DEnv) : TG := fun x σ H Q => ∃ O ρ d ρ1, RelEnv K O σ H ρ ∧ Dp K (Gv O σ ρ H) x d ∧ bind d ρ = some ρ1 ∧
  ∀ σ1, SStp σ ρ H σ1 ρ1 H → RelEnv K O σ1 H ρ1 → σ1.length = σ.length → (∀ k, k ∉ sl → σ1[k]? = σ[k]?) → Q σ1 H
structure DG (X : Cx) (tg : Expr) (sl : List Nat) (bind : D → DEnv → Option DEnv) : Prop where
  pg : PG X tg (tDG X.K sl bind)
def tDGs (K : Frg) (sl : List Nat) (bind : List D → DEnv → Option DEnv) : TGs := fun xs σ H Q => ∃ O ρ ds ρ1, RelEnv K O σ H ρ ∧ DpAll K (Gv O σ ρ H) xs ds ∧ bind ds ρ = some ρ1 ∧
  ∀ σ1, SStp σ ρ H σ1 ρ1 H → RelEnv K O σ1 H ρ1 → σ1.length = σ.length → (∀ k, k ∉ sl → σ1[k]? = σ[k]?) → Q σ1 H
structure DGs (X : Cx) (tg : List Expr) (sl : List Nat) (bind : List D → DEnv → Option DEnv) : Prop where
  pgs : PGs X tg (tDGs X.K sl bind)
theorem pgs_imp {X : Cx} {e : List Expr} {t t' : TGs} (h : PGs X e t) (i : ∀ v σ H Q, t' v σ H Q → t v σ H Q) : PGs X e t' := ⟨fun pins s σ H v u Q I r q => h.run pins s σ H v u Q I r (i _ _ _ _ q)⟩
def bName (i : Nat) : D → DEnv → Option DEnv := fun d ρ => if isIo ρ[i]? = true then none else some (ρ.set i (some (.val d)))
def bNil : List D → DEnv → Option DEnv := fun ds ρ => match ds with
  | [] => some ρ
  | _ => none
def bCons (b : D → DEnv → Option DEnv) (r : List D → DEnv → Option DEnv) : List D → DEnv → Option DEnv := fun ds ρ => match ds with
  | d :: ds => match b d ρ with
    | some ρ1 => r ds ρ1
    | none => none
  | [] => none
def bTup (r : List D → DEnv → Option DEnv) : D → DEnv → Option DEnv := fun d ρ => match d with
  | .tuple ds => r ds ρ
  | _ => none
section
variable {X : Cx}
theorem dg_name {i : Nat} {x : Str} {pos : Pos} (hN : X.N.Nodup) (hi : X.N[i]? = some x := by rfl) (hx : Loc X.env.scope x := by first | exact Or.inl rfl | exact Or.inr rfl) (hf : X.fn x = true ∨ X.env.scope.names.lookup x = some .local := by first | exact .inl rfl | exact .inr rfl | assumption) :
    DG X (.Name x pos) [i] (bName i) := by
  refine ⟨pg_imp (pg_name hN hi hx hf) fun v σ H Q ⟨O, ρ, d, ρ1, r, hd, hb, q⟩ => ?_⟩
  unfold bName at hb
  split at hb
  · cases hb
  · rename_i hio
    cases hb
    obtain ⟨r1, st⟩ := set_val r (by simpa using hio) hd
    exact q _ st r1 (List.length_set) fun k hk => List.getElem?_set_ne (fun z => hk (by simp [z]))
theorem dgs_nil : DGs X [] [] bNil := by
  refine ⟨pgs_imp pgs_nil fun v σ H Q ⟨O, ρ, ds, ρ1, r, hd, hb, q⟩ => ?_⟩
  unfold bNil at hb
  split at hb
  · cases hb; cases hd; exact ⟨rfl, q σ .refl r rfl fun _ _ => rfl⟩
  · cases hb
theorem dgs_cons {e : Expr} {es : List Expr} {s1 s2 : List Nat} {b : D → DEnv → Option DEnv} {r : List D → DEnv → Option DEnv} (h1 : DG X e s1 b) (h2 : DGs X es s2 r)
    (hs : (assignEach (e :: es) X.env).map (·.2) = assign e X.env :: (assignEach es X.env).map (·.2) := by rfl) : DGs X (e :: es) (s1 ++ s2) (bCons b r) := by
  refine ⟨pgs_imp (pgs_cons h1.pg h2.pgs hs) fun v σ H Q ⟨O, ρ, ds, ρ1, rr, hd, hb, q⟩ => ?_⟩
  unfold bCons at hb
  split at hb
  · rename_i d ds'
    split at hb
    · rename_i ρ2 hb2
      cases hd with
      | cons hd1 hd2 =>
        refine ⟨_, _, rfl, O, ρ, d, ρ2, rr, hd1, hb2, fun σ1 st1 r1 l1 k1 => ?_⟩
        refine ⟨O, ρ2, ds', ρ1, r1, dpAll_mono st1.gv _ _ hd2, hb, fun σ2 st2 r2 l2 k2 => ?_⟩
        exact q σ2 (st1.trans st2) r2 (l2.trans l1) fun k hk => (k2 k fun z => hk (List.mem_append_right _ z)).trans (k1 k fun z => hk (List.mem_append_left _ z))
    · cases hb
  · cases hb
theorem dg_tup {es : List Expr} {k n : Nat} {pos : Pos} {sl : List Nat} {r : List D → DEnv → Option DEnv} (hc : X.calm = true) (h : DGs X es sl r) (hn : (assignEach es X.env).length = n := by rfl) (hst : (assignEach es X.env).findIdx? (·.1) = none := by rfl)
    (hlen : ∀ ds ρ ρ1, r ds ρ = some ρ1 → ds.length = n) : DG X (.Tuple es k pos) sl (bTup r) := by
  refine ⟨pg_imp (pg_tup hc h.pgs hn hst) fun v σ H Q ⟨O, ρ, d, ρ1, rr, hd, hb, q⟩ => ?_⟩
  unfold bTup at hb
  split at hb
  · rename_i ds
    cases hd with
    | tup s a => exact ⟨_, _, rfl, SqT.mono Gv_sub s, by rw [DL.DpAll.length a]; exact hlen _ _ _ hb, O, ρ, ds, ρ1, rr, a, hb, q⟩
  · cases hb
theorem bLen2 {b1 b2 : D → DEnv → Option DEnv} : ∀ ds ρ ρ1, bCons b1 (bCons b2 bNil) ds ρ = some ρ1 → ds.length = 2 := by
  intro ds ρ ρ1 h
  match ds, h with
  | [], h => simp [bCons] at h
  | [a], h => simp only [bCons] at h; split at h <;> cases h
  | [a, b], h => rfl
  | a :: b :: c :: t, h =>
    simp only [bCons] at h
    split at h
    · split at h
      · simp [bNil] at h
      · cases h
    · cases h
theorem bLen3 {b1 b2 b3 : D → DEnv → Option DEnv} : ∀ ds ρ ρ1, bCons b1 (bCons b2 (bCons b3 bNil)) ds ρ = some ρ1 → ds.length = 3 := by
  intro ds ρ ρ1 h
  match ds, h with
  | [], h => simp [bCons] at h
  | d :: ds, h =>
    rw [bCons] at h
    try dsimp only at h
    split at h
    · have := bLen2 _ _ _ h
      simp [this]
    · cases h
end

/-! ### what is walked -/
def YD (K : Frg) (G0 : Hp) (ds : List D) : Nat → Hp → V → Hp → Prop := fun i H x H' => ∃ d, ds[i]? = some d ∧ Same H H' ∧
  ∀ O σ ρ, RelEnv K O σ H ρ → (∀ a o, G0 a = some o → Gv O σ ρ H a = some o) → Dp K (Gv O σ ρ H') x d
def Src (K : Frg) (G0 : Hp) (J : It) (ds : List D) : Prop := Walk J ds.length (fun H => ∀ a o, G0 a = some o → H a = some o) (YD K G0 ds)
def SatI (K : Frg) (mg : Mg) (O : Addr → Prop) (σ : L2.St) (ρ : DEnv) (H : Hp) (W : WX) (R : It → Hp → Prop) : Res (List D) → Prop
  | .ok ds ρ' => ∀ J H', EStp σ ρ H ρ' H' → RelEnv K O σ H' ρ' → Src K (Gv O σ ρ' H') J ds → R J H'
  | .err x ρ' => ∀ cls d H', EStp σ ρ H ρ' H' → RelEnv K O σ H' ρ' → ExnAt mg x cls d H' → W cls d σ H'
  | .bad => False
def tDI (K : Frg) (mg : Mg) (W : WX) (f : DEnv → Res (List D)) : TI := fun σ H R => ∃ O ρ, RelEnv K O σ H ρ ∧ SatI K mg O σ ρ H W R (f ρ)
structure DI (X : Cx) (W : WX) (tg e : Expr) (f : DEnv → Res (List D)) : Prop where
  pi : PI X tg e (tDI X.K X.mg W f)
theorem pi_imp {X : Cx} {tg e : Expr} {t t' : TI} (h : PI X tg e t) (i : ∀ σ H R, t' σ H R → t σ H R) : PI X tg e t' := ⟨fun pins s σ H R I q => h.run pins s σ H R I (i _ _ _ q)⟩
theorem pi_or {X : Cx} {tg e : Expr} {t t' : TI} (h : PI X tg e t) (h' : PI X tg e t') : PI X tg e (fun σ H R => t σ H R ∨ t' σ H R) := ⟨fun pins s σ H R I q => q.elim (h.run pins s σ H R I) (h'.run pins s σ H R I)⟩
section
variable {X : Cx} {W : WX} {tg e : Expr} {K : Frg} {G0 : Hp}
theorem src_list {a : Addr} {vs : List V} {ds : List D} (s : SqL K G0 a vs) (h : DpAll K G0 vs ds) : Src K G0 (Itl K a) ds := by
  unfold Src
  rw [← DL.DpAll.length h]
  refine walk_list.mono (fun H hg => SqL.mono hg s) fun i H x H' hi hg y => ?_
  obtain ⟨rfl, y⟩ := y
  obtain ⟨d, h1, h2⟩ := DL.DpAll.atV h y
  exact ⟨d, h1, Same.refl _, fun O σ ρ r g => dp_mono g _ _ h2⟩
theorem src_tup {a : Addr} {vs : List V} {ds : List D} (s : SqT K G0 a vs) (h : DpAll K G0 vs ds) : Src K G0 (Itt K a) ds := by
  unfold Src
  rw [← DL.DpAll.length h]
  refine walk_tup.mono (fun H hg => SqT.mono hg s) fun i H x H' hi hg y => ?_
  obtain ⟨rfl, y⟩ := y
  obtain ⟨d, h1, h2⟩ := DL.DpAll.atV h y
  exact ⟨d, h1, Same.refl _, fun O σ ρ r g => dp_mono g _ _ h2⟩
def rangeD (lo : Int) (n : Nat) : List D := (List.range n).map fun (i : Nat) => .int (lo + i)
theorem src_range {lo : Int} {n : Nat} : Src K G0 (Itr lo n) (rangeD lo n) := by
  unfold Src
  have hl : (rangeD lo n).length = n := by simp [rangeD]
  rw [hl]
  refine walk_range.mono (fun _ _ => trivial) fun i H x H' hi hg y => ?_
  obtain ⟨rfl, rfl⟩ := y
  exact ⟨.int (lo + i), by simp [rangeD, hi], Same.refl _, fun _ _ _ _ _ => .int _⟩
def rangeCD (lo c : Int) (n : Nat) : List D := (List.range n).map fun (i : Nat) => .int (lo + i * c)
theorem src_rangeC {lo c : Int} {n : Nat} : Src K G0 (Itc lo c n) (rangeCD lo c n) := by
  unfold Src
  have hl : (rangeCD lo c n).length = n := by simp [rangeCD]
  rw [hl]
  refine walk_rangeC.mono (fun _ _ => trivial) fun i H x H' hi hg y => ?_
  obtain ⟨rfl, rfl⟩ := y
  exact ⟨.int (lo + i * c), by simp [rangeCD, hi], Same.refl _, fun _ _ _ _ _ => .int _⟩
/-- the items of a list or tuple -/
def itemsD : D → Option (List D)
  | .list ds => some ds
  | .tuple ds => some ds
  | _ => none
def iSeq (f : DX) : DEnv → Res (List D) := fun ρ => bindR (f ρ) fun v ρ1 => optR (keep v ρ1) fun p => optR (itemsD p.1) fun ds => .ok ds p.2
theorem sat_bindI {α β : Type} {mg : Mg} {O : Addr → Prop} {σ : L2.St} {ρ : DEnv} {H : Hp} {R : It → Hp → Prop} {rel : DEnv → Hp → β → α → Prop} {r : Res α} {k : α → DEnv → Res (List D)} (h : SatI K mg O σ ρ H W R (bindR r k)) :
    Sat K mg O σ ρ H W rel (fun u H1 => ∃ a ρ1, RelEnv K O σ H1 ρ1 ∧ rel ρ1 H1 u a ∧ EStp σ ρ H ρ1 H1 ∧ SatI K mg O σ ρ1 H1 W R (k a ρ1)) r := by
  cases r with
  | ok a ρ' => 
    intro u H' s e q
    refine ⟨a, ρ', e, q, s, ?_⟩
    have h' : SatI K mg O σ ρ H W R (k a ρ') := h
    revert h'
    cases k a ρ' with
    | ok ds ρ2 => exact fun h J H2 s2 r2 src => h J H2 (s.trans s2) r2 src
    | err x ρ2 => exact fun h c d H2 s2 r2 z => h c d H2 (s.trans s2) r2 z
    | bad => exact fun h => h
  | err x ρ' => exact h
  | bad => exact h
theorem optR_satI {γ : Type} {mg : Mg} {O : Addr → Prop} {σ : L2.St} {ρ : DEnv} {H : Hp} {R : It → Hp → Prop} {o : Option γ} {k : γ → Res (List D)} (h : SatI K mg O σ ρ H W R (optR o k)) : ∃ z, o = some z ∧ SatI K mg O σ ρ H W R (k z) := by
  cases o with
  | some z => exact ⟨z, rfl, h⟩
  | none => exact h.elim
theorem di_seq {f : DX} (he : DE X W e f) : DI X W tg e (iSeq f) := by
  have hl := pi_list (tg := tg) he.pe
  have ht := pi_tup (tg := tg) he.pe
  refine ⟨⟨fun pins s σ H R I h => ?_⟩⟩
  obtain ⟨O, ρ, r, st⟩ := h
  unfold iSeq at st
  cases q : f ρ with
  | ok v ρ1 =>
    rw [q] at st
    obtain ⟨⟨d, ρ2⟩, hk, s2⟩ := optR_satI st
    obtain ⟨ds, hi, s3⟩ := optR_satI s2
    have fin : ∀ u H', EStp σ ρ H ρ1 H' → RelEnv X.K O σ H' ρ1 → RelE X.K O σ ρ1 H' u v → RelEnv X.K O σ H' ρ2 ∧ EStp σ ρ H ρ2 H' ∧ Dp X.K (Gv O σ ρ2 H') u d := fun u H' st1 r1 e1 => by
      obtain ⟨a, b, c⟩ := keep_ok r1 e1 hk
      exact ⟨a, st1.trans b, c⟩
    cases d with
    | list xs =>
      cases hi
      refine hl.run pins s σ H R I ⟨O, ρ, r, ?_⟩
      rw [q]
      intro u H' st1 r1 e1
      obtain ⟨r2, st2, hd⟩ := fin u H' st1 r1 e1
      cases hd with
      | lst sq a => exact ⟨_, rfl, ⟨_, SqL.mono Gv_sub sq⟩, s3 _ H' st2 r2 (src_list sq a)⟩
    | tuple xs =>
      cases hi
      refine ht.run pins s σ H R I ⟨O, ρ, r, ?_⟩
      rw [q]
      intro u H' st1 r1 e1
      obtain ⟨r2, st2, hd⟩ := fin u H' st1 r1 e1
      cases hd with
      | tup sq a => exact ⟨_, rfl, ⟨_, SqT.mono Gv_sub sq⟩, s3 _ H' st2 r2 (src_tup sq a)⟩
    | none => cases hi
    | bool _ => cases hi
    | int _ => cases hi
    | str _ => cases hi
    | dict _ => cases hi
  | err x ρ1 =>
    rw [q] at st
    refine hl.run pins s σ H R I ⟨O, ρ, r, ?_⟩
    rw [q]
    exact st
  | bad => rw [q] at st; exact st.elim
def iRange1 (g : DEnv → Res (List EV)) : DEnv → Res (List D) := fun ρ => bindR (g ρ) fun vs ρ1 => match vs with
  | [.val (.int j)] => if -(2 ^ 62) ≤ j ∧ j < 2 ^ 62 then .ok (rangeD 0 j.toNat) ρ1 else .bad
  | _ => .bad
theorem di_range1 {a : Expr} {g : DEnv → Res (List EV)} {p pos : Pos} (hm : X.mg "range" = none) (ha : DA X W [a] g) (hg : Gl X "range" := by rfl) (hs : starEach [a] X.env = [(false, eval a X.env)] := by rfl) : DI X W tg (.Call (.Name "range" p) [a] [] pos) (iRange1 g) := by
  refine ⟨pi_imp (pi_range1 hg hm ha.pa hs) fun σ H R ⟨O, ρ, r, s⟩ => ⟨O, ρ, r, (sat_bindI s).imp fun us H1 ⟨vs, ρ1, r1, e1, st, s1⟩ => ?_⟩⟩
  try dsimp only at s1
  split at s1
  · rename_i j
    split at s1
    · rename_i hj
      match us, e1 with
      | [u], e1 =>
        have q : Dp X.K _ u (.int j) := e1.1
        cases q
        exact ⟨j, rfl, hj.1, hj.2, s1 _ H1 .refl r1 src_range⟩
    · exact s1.elim
  · exact s1.elim
def iRange2 (g : DEnv → Res (List EV)) : DEnv → Res (List D) := fun ρ => bindR (g ρ) fun vs ρ1 => match vs with
  | [.val (.int i), .val (.int j)] => if -(2 ^ 62) ≤ i ∧ i < 2 ^ 62 ∧ -(2 ^ 62) ≤ j ∧ j < 2 ^ 62 then .ok (rangeD i (j - i).toNat) ρ1 else .bad
  | _ => .bad
theorem di_range2 {a b : Expr} {g : DEnv → Res (List EV)} {p pos : Pos} (hm : X.mg "range" = none) (ha : DA X W [a, b] g) (hg : Gl X "range" := by rfl) (hs : starEach [a, b] X.env = [(false, eval a X.env), (false, eval b X.env)] := by rfl) (hs2 : starEach [b] X.env = [(false, eval b X.env)] := by rfl) :
    DI X W tg (.Call (.Name "range" p) [a, b] [] pos) (iRange2 g) := by
  refine ⟨pi_imp (pi_range2 hg hm ha.pa hs hs2) fun σ H R ⟨O, ρ, r, s⟩ => ⟨O, ρ, r, (sat_bindI s).imp fun us H1 ⟨vs, ρ1, r1, e1, st, s1⟩ => ?_⟩⟩
  try dsimp only at s1
  split at s1
  · rename_i i j
    split at s1
    · rename_i hj
      match us, e1 with
      | [u, v], e1 =>
        have q : Dp X.K _ u (.int i) := e1.1
        have q2 : Dp X.K _ v (.int j) := e1.2.1
        cases q; cases q2
        exact ⟨i, j, rfl, hj, s1 _ H1 .refl r1 src_range⟩
    · exact s1.elim
  · exact s1.elim

/-! ### for -/
def forD (bind : D → DEnv → Option DEnv) (body : DSt) : List D → DEnv → Fl
  | [], ρ => .nx ρ
  | d :: ds, ρ => optF (bind d ρ) fun ρ1 => match body ρ1 with
    | .nx ρ2 => forD bind body ds ρ2
    | .ct ρ2 => forD bind body ds ρ2
    | .bk ρ2 => .nx ρ2
    | .rt v ρ2 => .rt v ρ2
    | .err x ρ2 => .err x ρ2
    | .bad => .bad
def gFor (it : DEnv → Res (List D)) (bind : D → DEnv → Option DEnv) (body : DSt) : DSt := fun ρ => bindF (it ρ) fun ds ρ1 => forD bind body ds ρ1
theorem ds_for {iter : Expr} {body : List Stmt} {pos : Pos} {it : DEnv → Res (List D)} {sl : List Nat} {bind : D → DEnv → Option DEnv} {b : DSt} (hp : PassesOwn (model X.prog X.w) X.A X.env X.xe) (hc : X.calm = true) (hi : DI X W tg iter it) (hg : DG X tg sl bind) (hb : DSs X W body b)
    (hs : ∀ x, foldedSetIterable iter X.env x = pure x := by intro _; rfl) : DS X W (.For tg iter body [] pos) (gFor it bind b) := by
  refine ⟨ps_imp (ps_for hp hc hi.pi hg.pg hb.pss hs) fun E σ H ⟨O, ρ, r, s⟩ => ⟨O, ρ, r, ?_⟩⟩
  unfold gFor at s
  cases q : it ρ with
  | err x ρ1 => rw [q] at s; exact fun c d H' st e z => s c d σ H' st.s e z
  | bad => rw [q] at s; exact s
  | ok ds ρ1 =>
    rw [q] at s
    intro J H1 st1 r1 src
    have s1 : SatS X.K X.mg O σ ρ1 H1 W E (forD bind b ds ρ1) := SatS.shift s st1.s
    refine for_it src (fun i σi Hi => ∃ ρi, RelEnv X.K O σi Hi ρi ∧ SStp σ ρ1 H1 σi ρi Hi ∧ SatS X.K X.mg O σi ρi Hi W E (forD bind b (ds.drop i) ρi)) ⟨ρ1, r1, .refl, by simpa using s1⟩ (fun i σi Hi _ ⟨ρi, ri, sti, _⟩ a o h => Gv_sub _ _ (sti.gv a o h)) (fun i x σi Hi H' hi ⟨ρi, ri, sti, si⟩ y => ?_) (fun σi Hi ⟨ρi, ri, sti, si⟩ => ?_)
    · obtain ⟨d, hd, sm, hv⟩ := y
      have e : ds.drop i = d :: ds.drop (i + 1) := by
        obtain ⟨h1, h2⟩ := List.getElem?_eq_some_iff.mp hd
        rw [List.drop_eq_getElem_cons h1, h2]
      rw [e] at si
      obtain ⟨ρ2, hb2, s2⟩ := optF_sat si
      refine ⟨O, ρi, d, ρ2, ri.same sm, hv O σi ρi ri sti.gv, hb2, fun σ2 st2 r2 _ _ => ⟨O, ρ2, r2, ?_⟩⟩
      have st0 : SStp σi ρi Hi σ2 ρ2 H' := (EStp.same sm).s.trans st2
      have s3 := s2.shift st0
      try dsimp only at s3
      have sti2 := sti.trans st0
      cases qb : b ρ2 with
      | nx ρ3 => rw [qb] at s3; exact fun σ' H3 st3 r3 => ⟨ρ3, r3, sti2.trans st3, SatS.shift s3 st3⟩
      | ct ρ3 => rw [qb] at s3; exact fun σ' H3 st3 r3 => ⟨ρ3, r3, sti2.trans st3, SatS.shift s3 st3⟩
      | bk ρ3 => rw [qb] at s3; exact s3
      | rt v ρ3 => rw [qb] at s3; exact s3
      | err x ρ3 => rw [qb] at s3; exact s3
      | bad => rw [qb] at s3; exact s3
    · rw [List.drop_length] at si
      exact si σi Hi .refl ri

/-! ### while -/
def whileN (t : DEnv → Res Bool) (body : DSt) : Nat → DEnv → Fl
  | 0, _ => .bad
  | n + 1, ρ => bindF (t ρ) fun k ρ1 => if k = true then match body ρ1 with
    | .nx ρ2 => whileN t body n ρ2
    | .ct ρ2 => whileN t body n ρ2
    | .bk ρ2 => .nx ρ2
    | .rt v ρ2 => .rt v ρ2
    | .err x ρ2 => .err x ρ2
    | .bad => .bad else .nx ρ1
open Classical in
noncomputable def gWhile (t : DEnv → Res Bool) (body : DSt) : DSt := fun ρ => if h : ∃ n, whileN t body n ρ ≠ .bad then whileN t body (choose h) ρ else .bad
theorem whileN_mono {t : DEnv → Res Bool} {body : DSt} : ∀ {n m : Nat} {ρ : DEnv}, n ≤ m → whileN t body n ρ ≠ .bad → whileN t body m ρ = whileN t body n ρ
  | 0, _, _, _, h => absurd rfl h
  | n + 1, 0, _, hm, _ => absurd hm (by omega)
  | n + 1, m + 1, ρ, hm, h => by
    unfold whileN at h ⊢
    cases q : t ρ with
    | err x ρ1 => rfl
    | bad => rfl
    | ok k ρ1 =>
      rw [q] at h
      dsimp only [bindF] at h ⊢
      cases k with
      | false => rfl
      | true =>
        rw [if_pos rfl] at h ⊢
        rw [if_pos rfl]
        cases qb : body ρ1 with
        | nx ρ2 => rw [qb] at h; exact whileN_mono (by omega) h
        | ct ρ2 => rw [qb] at h; exact whileN_mono (by omega) h
        | bk ρ2 => rfl
        | rt v ρ2 => rfl
        | err x ρ2 => rfl
        | bad => rfl
theorem gWhile_of {t : DEnv → Res Bool} {body : DSt} {n : Nat} {ρ : DEnv} (h : whileN t body n ρ ≠ .bad) : gWhile t body ρ = whileN t body n ρ := by
  have hx : ∃ n, whileN t body n ρ ≠ .bad := ⟨n, h⟩
  unfold gWhile
  rw [dif_pos hx]
  have h2 := Classical.choose_spec hx
  rcases Nat.le_total n (Classical.choose hx) with l | l
  · exact whileN_mono l h
  · exact (whileN_mono l h2).symm
/-- one turn -/
theorem gWhile_step {t : DEnv → Res Bool} {body : DSt} (ρ : DEnv) : gWhile t body ρ = bindF (t ρ) fun k ρ1 => if k = true then match body ρ1 with
    | .nx ρ2 => gWhile t body ρ2
    | .ct ρ2 => gWhile t body ρ2
    | .bk ρ2 => .nx ρ2
    | .rt v ρ2 => .rt v ρ2
    | .err x ρ2 => .err x ρ2
    | .bad => .bad else .nx ρ1 := by
  have key : ∀ ρ2, (∃ n, whileN t body n ρ2 ≠ .bad) ∨ gWhile t body ρ2 = .bad := fun ρ2 => by
    by_cases h : ∃ n, whileN t body n ρ2 ≠ .bad
    · exact .inl h
    · exact .inr (by unfold gWhile; rw [dif_neg h])
  have nob : ∀ ρ2, gWhile t body ρ2 = .bad → ∀ n, whileN t body n ρ2 = .bad := fun ρ2 h n => Classical.byContradiction fun z => z (by rw [gWhile_of z] at h; exact absurd h z)
  have main : ∀ ρ2, (∀ n, whileN t body n ρ2 = .bad) → gWhile t body ρ2 = .bad := fun ρ2 h => by
    unfold gWhile; rw [dif_neg (fun ⟨n, z⟩ => z (h n))]
  cases q : t ρ with
  | err x ρ1 =>
    have : whileN t body 1 ρ = .err x ρ1 := by unfold whileN; rw [q]; rfl
    rw [gWhile_of (n := 1) (by rw [this]; exact fun z => nomatch z), this]; rfl
  | bad => exact main ρ fun n => by cases n with
    | zero => rfl
    | succ n => unfold whileN; rw [q]; rfl
  | ok k ρ1 =>
    dsimp only [bindF]
    cases k with
    | false =>
      have : whileN t body 1 ρ = .nx ρ1 := by unfold whileN; rw [q]; rfl
      rw [gWhile_of (n := 1) (by rw [this]; exact fun z => nomatch z), this]; rfl
    | true =>
      rw [if_pos rfl]
      have un : ∀ n, whileN t body (n + 1) ρ = (match body ρ1 with
        | .nx ρ2 => whileN t body n ρ2
        | .ct ρ2 => whileN t body n ρ2
        | .bk ρ2 => .nx ρ2
        | .rt v ρ2 => .rt v ρ2
        | .err x ρ2 => .err x ρ2
        | .bad => .bad) := fun n => by
          conv => lhs; unfold whileN
          rw [q]; rfl
      have rec_ : ∀ ρ2, (∀ n, whileN t body (n + 1) ρ = whileN t body n ρ2) → gWhile t body ρ = gWhile t body ρ2 := fun ρ2 h => by
        rcases key ρ2 with ⟨n, hn⟩ | hb
        · rw [gWhile_of hn, gWhile_of (n := n + 1) (by rw [h n]; exact hn), h n]
        · rw [hb]
          refine main ρ fun n => ?_
          cases n with
          | zero => rfl
          | succ n => rw [h n]; exact nob ρ2 hb n
      cases qb : body ρ1 with
      | nx ρ2 => exact rec_ ρ2 fun n => by rw [un n, qb]
      | ct ρ2 => exact rec_ ρ2 fun n => by rw [un n, qb]
      | bk ρ2 => have e := un 0; rw [qb] at e; rw [gWhile_of (n := 1) (by rw [e]; exact fun z => nomatch z), e]
      | rt v ρ2 => have e := un 0; rw [qb] at e; rw [gWhile_of (n := 1) (by rw [e]; exact fun z => nomatch z), e]
      | err x ρ2 => have e := un 0; rw [qb] at e; rw [gWhile_of (n := 1) (by rw [e]; exact fun z => nomatch z), e]
      | bad => exact main ρ fun n => by cases n with
        | zero => rfl
        | succ n => rw [un n, qb]
theorem ds_while {c : Expr} {body : List Stmt} {pos : Pos} {t : DEnv → Res Bool} {b : DSt} (hp : PassesOwn (model X.prog X.w) X.A X.env X.xe) (hc : DT X W c t) (hb : DSs X W body b) : DS X W (.While c body [] pos) (gWhile t b) := by
  refine ⟨ps_imp (ps_while hp hc.pt hb.pss) fun E σ H ⟨O, ρ, r, s⟩ => ?_⟩
  by_cases hx : ∃ n, whileN t b n ρ ≠ .bad
  · obtain ⟨n0, hn0⟩ := hx
    rw [gWhile_of hn0] at s
    refine ⟨fun n σi Hi => ∃ ρi, RelEnv X.K O σi Hi ρi ∧ SatS X.K X.mg O σi ρi Hi W E (whileN t b n ρi), ⟨n0, ρ, r, s⟩, ?_⟩
    rintro m σi Hi ⟨ρi, ri, si⟩
    cases m with
    | zero => exact si.elim
    | succ m =>
      unfold whileN at si
      refine ⟨O, ρi, ri, (SatS.bind si).imp fun u H1 ⟨v, ρ1, r1, e1, st, s1⟩ => ?_⟩
      cases e1
      cases u with
      | false =>
        rw [if_neg Bool.false_ne_true] at s1 ⊢
        exact s1 σi H1 .refl r1
      | true =>
        rw [if_pos rfl] at s1 ⊢
        refine ⟨fun σ' H' => ∃ ρ', RelEnv X.K O σ' H' ρ' ∧ SatS X.K X.mg O σ' ρ' H' W E (whileN t b m ρ'), fun σ' H' q => ⟨m, by omega, q⟩, O, ρ1, r1, ?_⟩
        cases qb : b ρ1 with
        | nx ρ3 => rw [qb] at s1; exact fun σ' H3 st3 r3 => ⟨ρ3, r3, SatS.shift s1 st3⟩
        | ct ρ3 => rw [qb] at s1; exact fun σ' H3 st3 r3 => ⟨ρ3, r3, SatS.shift s1 st3⟩
        | bk ρ3 => rw [qb] at s1; exact s1
        | rt v ρ3 => rw [qb] at s1; exact s1
        | err x ρ3 => rw [qb] at s1; exact s1
        | bad => rw [qb] at s1; exact s1
  · unfold gWhile at s
    rw [dif_neg hx] at s
    exact s.elim
end
end DL

namespace DL
open L2 PySem PySem.Spec PyProof.Rows

def wipeD (ρ : DEnv) : List Nat → DEnv
  | [] => ρ
  | v :: vs => (wipeD ρ vs).set v none
def backD (ρ ρ' : DEnv) : List Nat → DEnv
  | [] => ρ'
  | v :: vs => (backD ρ ρ' vs).set v (ρ[v]?.join)
def isOwn (o : Option (Option SV)) : Bool := match o with
  | some (some (.own _ _)) => true
  | _ => false
theorem wipeD_len (ρ : DEnv) : ∀ ow, (wipeD ρ ow).length = ρ.length
  | [] => rfl
  | v :: vs => by unfold wipeD; rw [List.length_set, wipeD_len ρ vs]
theorem backD_len (ρ ρ' : DEnv) : ∀ ow, (backD ρ ρ' ow).length = ρ'.length
  | [] => rfl
  | v :: vs => by unfold backD; rw [List.length_set, backD_len ρ ρ' vs]
theorem wipeD_in {ρ : DEnv} {k : Nat} : ∀ {ow : List Nat}, k ∈ ow → (wipeD ρ ow)[k]? = none ∨ (wipeD ρ ow)[k]? = some none
  | v :: vs, h => by
    unfold wipeD
    by_cases hv : v = k
    · subst hv
      rw [List.getElem?_set]
      simp only [if_true]
      split
      · exact .inr rfl
      · exact .inl rfl
    · rw [List.getElem?_set_ne hv]
      exact wipeD_in (by cases h with
        | head => exact absurd rfl hv
        | tail _ h => exact h)
theorem wipeD_out {ρ : DEnv} {k : Nat} : ∀ {ow : List Nat}, k ∉ ow → (wipeD ρ ow)[k]? = ρ[k]?
  | [], _ => rfl
  | v :: vs, h => by
    unfold wipeD
    rw [List.getElem?_set_ne (fun z => h (by simp [z]))]
    exact wipeD_out fun z => h (List.mem_cons_of_mem _ z)
theorem wipeS_out {σ : L2.St} {k : Nat} {ow : List Nat} (h : k ∉ ow) : (wipe σ ow)[k]? = σ[k]? := L2.wipe_out h
theorem back_in {ρ ρ' : DEnv} {k : Nat} (hl : ρ.length = ρ'.length) : ∀ {ow : List Nat}, k ∈ ow → (backD ρ ρ' ow)[k]? = ρ[k]?
  | v :: vs, h => by
    unfold backD
    by_cases hv : v = k
    · subst hv
      rw [List.getElem?_set]
      simp only [if_true]
      rw [backD_len, ← hl]
      by_cases hk : v < ρ.length
      · rw [if_pos hk, List.getElem?_eq_getElem hk]; rfl
      · rw [if_neg hk, List.getElem?_eq_none (by omega)]
    · rw [List.getElem?_set_ne hv]
      exact back_in hl (by cases h with
        | head => exact absurd rfl hv
        | tail _ h => exact h)
theorem back_out {ρ ρ' : DEnv} {k : Nat} : ∀ {ow : List Nat}, k ∉ ow → (backD ρ ρ' ow)[k]? = ρ'[k]?
  | [], _ => rfl
  | v :: vs, h => by
    unfold backD
    rw [List.getElem?_set_ne (fun z => h (by simp [z]))]
    exact back_out fun z => h (List.mem_cons_of_mem _ z)

section
variable {K : Frg} {O : Addr → Prop} {σ σ2 : L2.St} {ρ ρ4 : DEnv} {H H' : Hp} {ow : List Nat}
def NoOwn (ρ : DEnv) (ow : List Nat) : Prop := ∀ i ∈ ow, ∀ (b : Bool) (c : Cell), ρ[i]? ≠ some (some (.own b c))
theorem wipe_own {i : Nat} {b : Bool} {c : Cell} (h : (wipeD ρ ow)[i]? = some (some (.own b c))) : i ∉ ow ∧ ρ[i]? = some (some (.own b c)) := by
  by_cases hi : i ∈ ow
  · rcases wipeD_in (ρ := ρ) hi with z | z <;> rw [z] at h <;> cases h
  · exact ⟨hi, by rw [wipeD_out hi] at h; exact h⟩
theorem ow_wipe (no : NoOwn ρ ow) (b : Addr) : Ow (wipe σ ow) (wipeD ρ ow) b ↔ Ow σ ρ b := by
  constructor
  · rintro ⟨i, io, c, e1, e2⟩
    obtain ⟨hi, e⟩ := wipe_own e1
    exact ⟨i, io, c, e, by rw [wipeS_out hi] at e2; exact e2⟩
  · rintro ⟨i, io, c, e1, e2⟩
    have hi : i ∉ ow := fun z => no i z io c e1
    exact ⟨i, io, c, by rw [wipeD_out hi]; exact e1, by rw [wipeS_out hi]; exact e2⟩
theorem gv_wipe (no : NoOwn ρ ow) : ∀ a o, Gv O σ ρ H a = some o → Gv O (wipe σ ow) (wipeD ρ ow) H a = some o := fun a o h => by
  obtain ⟨h1, h2, h3⟩ := of_Gv h
  exact Gv_of h1 (fun q => h2 ((ow_wipe no a).mp q)) h3
theorem RelEnv.wiped (r : RelEnv K O σ H ρ) (no : NoOwn ρ ow) : RelEnv K O (wipe σ ow) H (wipeD ρ ow) ∧ SStp σ ρ H (wipe σ ow) (wipeD ρ ow) H := by
  refine ⟨⟨by rw [wipe_length, wipeD_len]; exact r.len, r.oa, fun i d h => ?_, fun i b c h => ?_, fun i j a b c b' c' h1 h2 h3 h4 => ?_, fun i a h => ?_⟩, ⟨fun _ _ h _ => h, fun _ h => h, fun b h => .inl ((ow_wipe no b).mp h), fun i c h => ?_⟩⟩
  · have hi : i ∉ ow := fun z => by rcases wipeD_in (ρ := ρ) z with q | q <;> rw [q] at h <;> cases h
    rw [wipeD_out hi] at h
    obtain ⟨v, h1, h2⟩ := r.val i d h
    exact ⟨v, by rw [wipeS_out hi]; exact h1, dp_mono (gv_wipe no) _ _ h2⟩
  · obtain ⟨hi, e⟩ := wipe_own h
    obtain ⟨a, h1, h2, h3⟩ := r.own i b c e
    exact ⟨a, by rw [wipeS_out hi]; exact h1, h2, h3.mono (gv_wipe no) fun _ q => q⟩
  · obtain ⟨hi, e1⟩ := wipe_own h1
    obtain ⟨hj, e2⟩ := wipe_own h2
    rw [wipeS_out hi] at h3
    rw [wipeS_out hj] at h4
    exact r.inj i j a _ _ _ _ e1 e2 h3 h4
  · have hi : i ∉ ow := fun z => by rcases wipeD_in (ρ := ρ) z with q | q <;> rw [q] at h <;> cases h
    rw [wipeD_out hi] at h
    rw [wipeS_out hi]
    exact r.raw i a h
  · have hi : i ∉ ow := fun z => no i z _ _ h
    exact ⟨wipeS_out hi, c, by rw [wipeD_out hi]; exact h⟩
/-- behind a block -/
theorem RelEnv.back (r : RelEnv K O σ H ρ) (no : NoOwn ρ ow) (st : SStp (wipe σ ow) (wipeD ρ ow) H σ2 ρ4 H') (r4 : RelEnv K O σ2 H' ρ4) (hl : σ2.length = σ.length) (hk : ∀ k, k ∉ ow → σ2[k]? = σ[k]?)
    (nf : ∀ b, Ow σ2 ρ4 b → Ow σ ρ b) (nw : NoOwn ρ4 ow) : RelEnv K O σ H' (backD ρ ρ4 ow) ∧ EStp σ ρ H (backD ρ ρ4 ow) H' ∧ (∀ a o, Gv O σ2 ρ4 H' a = some o → Gv O σ (backD ρ ρ4 ow) H' a = some o) := by
  have len : ρ.length = ρ4.length := by rw [← r.len, ← hl, r4.len]
  have own4 : ∀ {i : Nat} {b : Bool} {c : Cell}, (backD ρ ρ4 ow)[i]? = some (some (.own b c)) → i ∉ ow ∧ ρ4[i]? = some (some (.own b c)) := fun {i b c} h => by
    by_cases hi : i ∈ ow
    · rw [back_in len hi] at h
      exact absurd h (no i hi b c)
    · rw [back_out hi] at h
      exact ⟨hi, h⟩
  have owb : ∀ b, Ow σ (backD ρ ρ4 ow) b → Ow σ2 ρ4 b := fun b ⟨i, io, c, e1, e2⟩ => by
    obtain ⟨hi, e⟩ := own4 e1
    exact ⟨i, io, c, e, by rw [hk i hi]; exact e2⟩
  have st' : SStp σ ρ H σ2 ρ4 H' := ((r.wiped no).2).trans st
  have est : EStp σ ρ H (backD ρ ρ4 ow) H' := ⟨st'.ext, st'.al, fun b h => nf b (owb b h), fun i c h => by
    obtain ⟨_, c', h'⟩ := st'.io i c h
    have hi : i ∉ ow := fun z => no i z _ _ h
    exact ⟨c', by rw [back_out hi]; exact h'⟩⟩
  have gv4 : ∀ a o, Gv O σ2 ρ4 H' a = some o → Gv O σ (backD ρ ρ4 ow) H' a = some o := fun a o h => by
    obtain ⟨h1, h2, h3⟩ := of_Gv h
    exact Gv_of h1 (fun q => h2 (owb a q)) h3
  refine ⟨⟨by rw [backD_len, ← len]; exact r.len, r4.oa, fun i d h => ?_, fun i b c h => ?_, fun i j a b c b' c' h1 h2 h3 h4 => ?_, fun i a h => ?_⟩, est, gv4⟩
  · by_cases hi : i ∈ ow
    · rw [back_in len hi] at h
      obtain ⟨v, h1, h2⟩ := r.val i d h
      exact ⟨v, h1, dp_mono est.gv _ _ h2⟩
    · rw [back_out hi] at h
      obtain ⟨v, h1, h2⟩ := r4.val i d h
      exact ⟨v, by rw [← hk i hi]; exact h1, dp_mono gv4 _ _ h2⟩
  · obtain ⟨hi, e⟩ := own4 h
    obtain ⟨a, h1, h2, h3⟩ := r4.own i b c e
    exact ⟨a, by rw [← hk i hi]; exact h1, h2, h3.mono gv4 fun _ q => q⟩
  · obtain ⟨hi, e1⟩ := own4 h1
    obtain ⟨hj, e2⟩ := own4 h2
    exact r4.inj i j a _ _ _ _ e1 e2 (by rw [hk i hi]; exact h3) (by rw [hk j hj]; exact h4)
  · by_cases hi : i ∈ ow
    · rw [back_in len hi] at h
      exact r.raw i a h
    · rw [back_out hi] at h
      rw [← hk i hi]
      exact r4.raw i a h
end

abbrev W0 : WX := fun _ _ _ _ => False
structure DTs (X : Cx) (ifs : List Expr) (t : DEnv → Res Bool) : Prop where
  pts : PTs X ifs (tDT X.K X.mg W0 t)
def tTrue : DEnv → Res Bool := fun ρ => .ok true ρ
section
variable {X : Cx} {W : WX}
theorem pts_imp {X : Cx} {e : List Expr} {t t' : TT} (h : PTs X e t) (i : ∀ σ H Q, t' σ H Q → t σ H Q) : PTs X e t' := ⟨fun pins s σ H Q I q => h.run pins s σ H Q I (i _ _ _ q)⟩
theorem dts_nil : DTs X [] tTrue := ⟨pts_imp pts_nil fun σ H Q ⟨O, ρ, r, s⟩ => s true H .refl r rfl⟩
theorem dts_one {c : Expr} {t : DEnv → Res Bool} (h : DT X W0 c t) : DTs X [c] t := ⟨pts_one h.pt⟩

def compD (ow : List Nat) (bind : D → DEnv → Option DEnv) (test : DEnv → Res Bool) (elt : DX) : List D → DEnv → List D → Res Cell
  | [], ρ, acc => .ok (.lst acc) ρ
  | d :: ds, ρ, acc => optR (bind d (wipeD ρ ow)) fun ρ1 => match test ρ1 with
    | .ok true ρ2 => match elt ρ2 with
      | .ok v ρ3 => optR (keep v ρ3) fun p => if acc.length < sizeLine ∧ (ow.all fun i => !isOwn p.2[i]?) = true then compD ow bind test elt ds (backD ρ p.2 ow) (acc ++ [p.1]) else .bad
      | _ => .bad
    | .ok false ρ2 => if (ow.all fun i => !isOwn ρ2[i]?) = true then compD ow bind test elt ds (backD ρ ρ2 ow) acc else .bad
    | _ => .bad
def xComp (it : DEnv → Res (List D)) (ow : List Nat) (bind : D → DEnv → Option DEnv) (test : DEnv → Res Bool) (elt : DX) : DEnv → Res Cell := fun ρ => bindR (it ρ) fun ds ρ1 => if (ow.all fun i => !isOwn ρ1[i]?) = true then compD ow bind test elt ds ρ1 [] else .bad
theorem noOwn_of {ρ : DEnv} {ow : List Nat} (h : (ow.all fun i => !isOwn ρ[i]?) = true) : NoOwn ρ ow := fun i hi b c e => by
  have := List.all_eq_true.mp h i hi
  rw [e] at this
  cases this
theorem comp_core {it : DEnv → Res (List D)} {own : List (Str × Nat)} {sl : List Nat} {bind : D → DEnv → Option DEnv} {test : DEnv → Res Bool} {elt : DX} (hsl : ∀ k ∈ sl, k ∈ own.map (·.2)) {σ : L2.St} {H : Hp} {Q : VK}
    (h : tDL X.K X.mg W (xComp it (own.map (·.2)) bind test elt) σ H Q) : tLc (tDI X.K X.mg W it) (tDG X.K sl bind) (tDT X.K X.mg W0 test) (tDX X.K X.mg W0 elt) (own.map (·.2)) σ H Q := by
  obtain ⟨O, ρ, r, s⟩ := h
  generalize how : own.map (·.2) = ow at *
  refine ⟨O, ρ, r, ?_⟩
  unfold xComp at s
  cases q : it ρ with
  | err x ρ1 => rw [q] at s; exact s
  | bad => rw [q] at s; exact s
  | ok ds ρ1 =>
    rw [q] at s
    dsimp only [bindR] at s
    split at s
    case isFalse => exact s.elim
    rename_i hno
    have no1 := noOwn_of hno
    intro J H1 st1 r1 src D hD
    have hp : H D = none := st1.none D hD
    refine lc_it src (fun i Hi => ∃ ρi acc vs, RelEnv X.K (fun a => O a ∨ a = D) σ Hi ρi ∧ NoOwn ρi ow ∧ EStp σ ρ1 H1 ρi Hi ∧ Hi D = some (.lst vs) ∧ DpAll X.K (Gv (fun a => O a ∨ a = D) σ ρi Hi) vs acc ∧
      SatL X.K X.mg O σ ρ H W Q (compD ow bind test elt (ds.drop i) ρi acc)) ?_ ?_ ?_ ?_
    · exact ⟨ρ1, [], [], r1.hidden hD, no1, .same (same_upd hD), upd_same, .nil, by simpa using s⟩
    · rintro i Hi _ ⟨ρi, acc, vs, ri, noi, sti, hDi, hacc, si⟩ a o hg
      exact Gv_sub _ _ (sti.gv a o hg)
    · rintro i x Hi H2 hi ⟨ρi, acc, vs, ri, noi, sti, hDi, hacc, si⟩ ⟨d, hd, sm, hv⟩
      have e : ds.drop i = d :: ds.drop (i + 1) := by
        obtain ⟨h1, h2⟩ := List.getElem?_eq_some_iff.mp hd
        rw [List.drop_eq_getElem_cons h1, h2]
      rw [e] at si
      have r2 := ri.same sm
      have sti2 : EStp σ ρ1 H1 ρi H2 := sti.trans (.same sm)
      obtain ⟨rw', stw⟩ := r2.wiped noi
      have hx : Dp X.K (Gv (fun a => O a ∨ a = D) (wipe σ ow) (wipeD ρi ow) H2) x d := by
        have g1 : ∀ a o, Gv O σ ρ1 H1 a = some o → Gv (fun a => O a ∨ a = D) σ ρi Hi a = some o := fun a o hg => by
          obtain ⟨z1, z2, z3⟩ := of_Gv (sti.gv a o hg)
          refine Gv_of (fun z => z.elim z1 fun z => ?_) z2 z3
          rw [z] at hg
          have := Gv_sub _ _ hg
          rw [hD] at this; cases this
        exact dp_mono stw.gv _ _ (hv _ σ ρi ri g1)
      obtain ⟨ρ3, hb, s2⟩ := optR_satL si
      refine ⟨_, wipeD ρi ow, d, ρ3, rw', hx, hb, fun σ2 st2 r3 l2 k2 => ⟨?_, ?_⟩⟩
      · -- what is bound is the block's own
        refine List.ext_getElem? fun k => ?_
        by_cases hk : k ∈ ow
        · have wn : ∀ τ : L2.St, τ.length = σ.length → (wipe τ ow)[k]? = if k < σ.length then some none else none := fun τ hτ => by
            by_cases hkl : k < σ.length
            · rw [if_pos hkl]
              have hkl' : k < (wipe τ ow).length := by rw [wipe_length, hτ]; exact hkl
              cases z : (wipe τ ow)[k]? with
              | none => rw [List.getElem?_eq_none_iff] at z; omega
              | some o =>
                cases o with
                | none => rfl
                | some v => exact absurd hk (wipe_some z).2
            · rw [if_neg hkl, List.getElem?_eq_none (by rw [wipe_length, hτ]; omega)]
          rw [wn σ2 (by rw [l2, wipe_length]), wn σ rfl]
        · rw [wipeS_out hk, wipeS_out hk, k2 k (fun z => hk (hsl k z)), wipeS_out hk]
      refine ⟨_, ρ3, r3, ?_⟩
      have l2' : σ2.length = σ.length := by rw [l2, wipe_length]
      have k2' : ∀ k, k ∉ ow → σ2[k]? = σ[k]? := fun k hk => by rw [k2 k (fun z => hk (hsl k z)), wipeS_out hk]
      have nf2 : ∀ b, Ow σ2 ρ3 b → Ow σ ρi b ∨ H2 b = none := fun b hb => (st2.own b hb).elim (fun z => .inl ((ow_wipe noi b).mp z)) .inr
      try dsimp only at s2
      cases qt : test ρ3 with
      | err x ρ4 => rw [qt] at s2; exact s2.elim
      | bad => rw [qt] at s2; exact s2.elim
      | ok k ρ4 =>
        rw [qt] at s2
        rintro kb H3 st3 r4 rfl
        have D3 : ∀ {ρ' : DEnv} {H' : Hp}, EStp σ2 ρ3 H2 ρ' H' → H' D = some (.lst vs) := fun {ρ' H'} st => st.ext D _ (sm D _ hDi) fun z => r3.owO z (.inr rfl)
        -- what the block owns was ours
        have nfz : ∀ {ρ' : DEnv} {H' : Hp}, EStp σ2 ρ3 H2 ρ' H' → ∀ b, Ow σ2 ρ' b → Ow σ ρi b := fun {ρ' H'} st b hb => by
          have z := st.own b hb
          rcases nf2 b z with z' | z'
          · exact z'
          · obtain ⟨o, ho⟩ := r3.owSome z
            rw [z'] at ho; cases ho
        cases kb with
        | false =>
          refine iteF ?_
          try dsimp only at s2
          split at s2
          case isFalse => exact s2.elim
          rename_i hno4
          obtain ⟨rb, eb, gb⟩ := r2.back noi (st2.trans st3.s) r4 l2' k2' (nfz st3) (noOwn_of hno4)
          refine ⟨backD ρi ρ4 ow, acc, vs, rb, fun j hj b c z => ?_, sti2.trans eb, D3 st3, dpAll_mono eb.gv _ _ (dpAll_mono (same_gv sm) _ _ hacc), s2⟩
          rw [back_in (by rw [← r2.len, ← l2', r4.len]) hj] at z
          exact noi j hj b c z
        | true =>
          refine iteT ⟨_, ρ4, r4, ?_⟩
          try dsimp only at s2
          cases qe : elt ρ4 with
          | err x ρ5 => rw [qe] at s2; exact s2.elim
          | bad => rw [qe] at s2; exact s2.elim
          | ok v ρ5 =>
            rw [qe] at s2
            intro y H4 st4 r5 ey
            obtain ⟨⟨z, ρ6⟩, hkz, s3⟩ := optR_satL s2
            obtain ⟨r6, st5, hz⟩ := keep_ok r5 ey hkz
            try dsimp only at s3
            split at s3
            case isFalse => exact s3.elim
            rename_i hc
            have stA : EStp σ2 ρ3 H2 ρ6 H4 := (st3.trans st4).trans st5
            obtain ⟨rb, eb, gb⟩ := r2.back noi (st2.trans stA.s) r6 l2' k2' (nfz stA) (noOwn_of hc.2)
            have hD4 := D3 stA
            have hlen := DL.DpAll.length hacc
            refine ⟨vs, hD4, by omega, backD ρi ρ6 ow, acc ++ [z], vs ++ [y], ?_, fun j hj b c zz => ?_, ?_, upd_same, ?_, s3⟩
            · -- the list at D has grown; it is hidden
              have hid : ∀ a o, Gv (fun a => O a ∨ a = D) σ (backD ρi ρ6 ow) H4 a = some o → Gv (fun a => O a ∨ a = D) σ (backD ρi ρ6 ow) (upd H4 D (.lst (vs ++ [y]))) a = some o := fun a o hg => by
                obtain ⟨z1, z2, z3⟩ := of_Gv hg
                exact Gv_of z1 z2 (by rw [upd_ne (fun zz => z1 (.inr zz))]; exact z3)
              refine ⟨rb.len, fun a ha => ?_, fun j d' hj => ?_, fun j b c hj => ?_, rb.inj, rb.raw⟩
              · by_cases ea : a = D
                · rw [ea, upd_same]; exact fun z => nomatch z
                · rw [upd_ne ea]; exact rb.oa a ha
              · obtain ⟨w, w1, w2⟩ := rb.val j d' hj
                exact ⟨w, w1, dp_mono hid _ _ w2⟩
              · obtain ⟨a, w1, w2, w3⟩ := rb.own j b c hj
                exact ⟨a, w1, w2, w3.mono hid fun o ho => by rw [upd_ne (fun zz => w2 (.inr zz))]; exact ho⟩
            · rw [back_in (by rw [← r2.len, ← l2', r6.len]) hj] at zz
              exact noi j hj b c zz
            · have S := sti2.trans eb
              refine ⟨fun b o hb hn => by rw [upd_ne (ne_of_none hb hD)]; exact S.ext b o hb hn, fun b hb => ?_, S.own, S.io⟩
              by_cases ea : b = D
              · rw [ea, upd_same]; exact fun z => nomatch z
              · rw [upd_ne ea]; exact S.al b hb
            · have hid : ∀ a o, Gv (fun a => O a ∨ a = D) σ (backD ρi ρ6 ow) H4 a = some o → Gv (fun a => O a ∨ a = D) σ (backD ρi ρ6 ow) (upd H4 D (.lst (vs ++ [y]))) a = some o := fun a o hg => by
                obtain ⟨z1, z2, z3⟩ := of_Gv hg
                exact Gv_of z1 z2 (by rw [upd_ne (fun zz => z1 (.inr zz))]; exact z3)
              refine dpAll_mono hid _ _ (DL.DpAll.append (dpAll_mono eb.gv _ _ (dpAll_mono (same_gv sm) _ _ hacc)) (.cons (dp_mono gb _ _ hz) .nil))
    · rintro Hn ⟨ρn, acc, vs, rn, non, stn, hDn, hacc, sn⟩
      rw [List.drop_length] at sn
      refine sn D Hn (st1.trans stn) hp ⟨rn, fun z => ?_, fun z => rn.owO z (.inr rfl), vs, hDn, hacc⟩
      exact r1.oa D z hD

/-- a comprehension as a value -/
theorem dl_comp {elt tg iter : Expr} {ifs : List Expr} {scope : Scope} {own : List (Str × Nat)} {pos : Pos} {it : DEnv → Res (List D)} {sl : List Nat} {bind : D → DEnv → Option DEnv} {test : DEnv → Res Bool} {f : DX} (hc : X.calm = true) (hN : X.N.Nodup) (hi : DI X W tg iter it) (ok : BlkOk X.N X.env.scope scope own)
    (hg : ∀ (s : Shared) (H : Hp) (C : Addr) (cl : List (Str × Addr)) (fp : List Addr), DG (X.blk s H scope (compEnvC scope cl C X.env) fp) tg sl bind) (ht : ∀ (s : Shared) (H : Hp) (C : Addr) (cl : List (Str × Addr)) (fp : List Addr), DTs (X.blk s H scope (compEnvC scope cl C X.env) fp) ifs test)
    (he : ∀ (s : Shared) (H : Hp) (C : Addr) (cl : List (Str × Addr)) (fp : List Addr), DE (X.blk s H scope (compEnvC scope cl C X.env) fp) W0 elt f) (hsl : ∀ k ∈ sl, k ∈ own.map (·.2) := by decide) (hs : ∀ x, foldedSetIterable iter X.env x = pure x := by intro _; rfl) :
    DLs X W (.ListComp elt [⟨tg, iter, ifs, 0⟩] scope pos) (xComp it (own.map (·.2)) bind test f) :=
  ⟨pe_imp (pe_lc hc hN hi.pi ok (fun s H C cl fp => (hg s H C cl fp).pg) (fun s H C cl fp => (ht s H C cl fp).pts) (fun s H C cl fp => (he s H C cl fp).pe) hs) fun _ _ _ h => comp_core hsl h⟩
/-- name = a comprehension on one line, the name a local: as data, or owned -/
theorem ds_setC {i : Nat} {y : Str} {py spos : Pos} {elt tg iter : Expr} {ifs : List Expr} {scope : Scope} {own : List (Str × Nat)} {pos : Pos} {it : DEnv → Res (List D)} {sl : List Nat} {bind : D → DEnv → Option DEnv} {test : DEnv → Res Bool} {f : DX} (hc : X.calm = true) (hN : X.N.Nodup) (hi : DI X W tg iter it) (ok : BlkOk X.N X.env.scope scope own)
    (hg : ∀ (s : Shared) (H : Hp) (C : Addr) (cl : List (Str × Addr)) (fp : List Addr), DG (X.blk s H scope (compEnvC scope cl C X.env) fp) tg sl bind) (ht : ∀ (s : Shared) (H : Hp) (C : Addr) (cl : List (Str × Addr)) (fp : List Addr), DTs (X.blk s H scope (compEnvC scope cl C X.env) fp) ifs test)
    (he : ∀ (s : Shared) (H : Hp) (C : Addr) (cl : List (Str × Addr)) (fp : List Addr), DE (X.blk s H scope (compEnvC scope cl C X.env) fp) W0 elt f) (hsw : swapsWith (.ListComp elt [⟨tg, iter, ifs, 0⟩] scope pos) (some (.Name y py)) spos.line X.env = pure true)
    (hy : X.N[i]? = some y := by rfl) (hyl : X.env.scope.names.lookup y = some .local := by rfl) (hsl : ∀ k ∈ sl, k ∈ own.map (·.2) := by decide) (hs : ∀ x, foldedSetIterable iter X.env x = pure x := by intro _; rfl) :
    DS X W (.Assign [.Name y py] (.ListComp elt [⟨tg, iter, ifs, 0⟩] scope pos) spos) (gSetL i (xComp it (own.map (·.2)) bind test f)) := by
  refine ⟨ps_imp (ps_setLc (te := tDX X.K X.mg W0 f) (tt := tDT X.K X.mg W0 test) (g := tDG X.K sl bind) (wi := tDI X.K X.mg W it) hc hN hy hyl hsw hi.pi ok (fun s H C cl fp => (hg s H C cl fp).pg) (fun s H C cl fp => (ht s H C cl fp).pts) (fun s H C cl fp => (he s H C cl fp).pe) hs) fun E σ H h => ?_⟩
  have h2 : tDL X.K X.mg W (xComp it (own.map (·.2)) bind test f) σ H (fun x H1 => gName i x σ H1 E.nx) := set_coreL h
  exact comp_core hsl h2
end
end DL

namespace DL
open L2 PySem PySem.Spec PyProof.Rows

/-! ### what a def is worth: data in, data (or a new thing) out -/
inductive RF where
  | ok (v : RV)
  | err (x : Exn)
  | bad
abbrev Fn := List D → RF
noncomputable abbrev Vis0 (O : Addr → Prop) (H : Hp) : Hp := Gv O [] [] H
theorem vis0 {O : Addr → Prop} {H : Hp} {a : Addr} {o : HO} : Vis0 O H a = some o ↔ ¬ O a ∧ H a = some o :=
  ⟨fun h => ⟨(of_Gv h).1, (of_Gv h).2.2⟩, fun h => Gv_of h.1 (fun ⟨i, b, c, e, _⟩ => by simp at e) h.2⟩
def SatF (K : Frg) (mg : Mg) (O : Addr → Prop) (H : Hp) (Q : VK) (E : XK) : RF → Prop
  | .ok (.val d) => ∀ u H', Same H H' → Dp K (Vis0 O H') u d → Q u H'
  | .ok (.own c) => ∀ p H', Same H H' → H p = none → CellOk K (Vis0 (fun a => O a ∨ a = p) H') H' p c → Q (.ref p) H'
  | .err x => ∀ cls d H', Same H H' → ExnAt mg x cls d H' → E cls d H'
  | .bad => False
def spP (K : Frg) (mg : Mg) (n : Nat) (F : Fn) : Sp := fun vs H Q E => vs.length = n ∧ ∃ (O : Addr → Prop) (ds : List D), (∀ a, O a → H a ≠ none) ∧ DpAll K (Vis0 O H) vs ds ∧ SatF K mg O H Q E (F ds)
/-- a def of the module that keeps its promise -/
def FOk (P : Program) (w : World) (K : Frg) (mg : Mg) (base : Heap) (x : Str) (k : Nat) (ps : List Str) (sp : Sp) : Prop :=
  ∃ f fd, FnOk P w K mg base (L2N.CX P w) k f fd ps sp ∧ mg x = some (.ref f) ∧ PySem.W.keepIn K (.ref f) = true ∧ Binds K fd ps []
theorem passN {X : Cx} : ∀ σ : L2.St, PassesAt (L2N.CX X.prog X.w) X σ (WE W0 σ) := fun _ _ _ _ _ _ _ h => by
  obtain ⟨_, _, _, _, _, _, _, _, _, _, _, _, z⟩ := h
  exact z.elim

def xCall (F : Fn) (g : DEnv → Res (List EV)) : DX := fun ρ => bindR (g ρ) fun vs ρ1 => optR (derefs ρ1 vs) fun ds => match F ds with
  | .ok (.val d) => if (flat d).isSome = true then .ok (.val d) ρ1 else optR (keeps vs ρ1) fun p => .ok (.val d) p.2
  | .ok (.own (.lst l)) => optR (keeps vs ρ1) fun p => .ok (.val (.list l)) p.2
  | .ok (.own _) => .bad
  | .err x => .err x ρ1
  | .bad => .bad
def xCallL (F : Fn) (g : DEnv → Res (List EV)) : DEnv → Res Cell := fun ρ => bindR (g ρ) fun vs ρ1 => optR (derefs ρ1 vs) fun ds => match F ds with
  | .ok (.own c) => optR (keeps vs ρ1) fun p => .ok c p.2
  | .ok (.val _) => .bad
  | .err x => .err x ρ1
  | .bad => .bad

section
variable {K : Frg} {mg : Mg} {O : Addr → Prop} {σ : L2.St} {ρ : DEnv} {H : Hp}
/-- what is handed on of what we own -/
def Bor (σ : L2.St) (ρ : DEnv) (vs : List EV) (a : Addr) : Prop := ∃ (i : Nat) (b : Bool) (c : Cell), EV.bor i ∈ vs ∧ ρ[i]? = some (some (.own b c)) ∧ σ[i]? = some (some (.ref a))
/-- what a callee must not see: what is hidden, and what we own but do not hand on -/
def Hid (O : Addr → Prop) (σ : L2.St) (ρ : DEnv) (vs : List EV) : Addr → Prop := fun a => O a ∨ (Ow σ ρ a ∧ ¬ Bor σ ρ vs a)
theorem args_dp (r : RelEnv K O σ H ρ) : ∀ {us : List V} {all vs : List EV} {ds : List D}, (∀ u ∈ vs, u ∈ all) → RelEs K O σ ρ H us vs → derefs ρ vs = some ds → DpAll K (Vis0 (Hid O σ ρ all) H) us ds
  | [], _, [], _, _, _, e => by cases e; exact .nil
  | u :: us, all, v :: vs, ds, hs, h, e => by
    unfold derefs at e
    split at e
    · rename_i d hd
      split at e
      · rename_i ds' hds
        cases e
        refine .cons ?_ (args_dp r (fun w hw => hs w (List.mem_cons_of_mem _ hw)) h.2 hds)
        have gv : ∀ a o, Gv O σ ρ H a = some o → Vis0 (Hid O σ ρ all) H a = some o := fun a o q => by
          obtain ⟨q1, q2, q3⟩ := of_Gv q
          exact vis0.mpr ⟨fun z => z.elim q1 fun z => q2 z.1, q3⟩
        cases v with
        | val d' => cases hd; exact dp_mono gv _ _ h.1
        | bor i =>
          have h1 : σ[i]? = some (some u) := h.1
          unfold deref at hd
          dsimp only at hd
          split at hd
          · rename_i b l q
            cases hd
            obtain ⟨a, h2, h3, ws, h4, h5⟩ := r.own i b _ q
            rw [h1] at h2; cases h2
            exact .lst (SqL.of (vis0.mpr ⟨fun z => z.elim h3 fun z => z.2 ⟨i, b, _, hs _ List.mem_cons_self, q, h1⟩, h4⟩)) (dpAll_mono gv _ _ h5)
          · rename_i d' q
            cases hd
            obtain ⟨w, h2, h3⟩ := r.val i _ q
            rw [h1] at h2; cases h2
            exact dp_mono gv _ _ h3
          · cases hd
      · cases e
    · cases e
  | [], _, _ :: _, _, _, h, _ => h.elim
  | _ :: _, _, [], _, _, h, _ => h.elim
theorem keep_slot {v : EV} {d : D} {ρ' : DEnv} (e : keep v ρ = some (d, ρ')) : (∀ (j : Nat) (b : Bool) (c : Cell), ρ'[j]? = some (some (.own b c)) → ρ[j]? = some (some (.own b c))) ∧ ∀ i, v = .bor i → ∀ (b : Bool) (c : Cell), ρ'[i]? ≠ some (some (.own b c)) := by
  cases v with
  | val d' => cases e; exact ⟨fun _ _ _ h => h, fun i h => nomatch h⟩
  | bor i =>
    unfold keep frzAt at e
    dsimp only at e
    split at e
    · rename_i ds q
      cases e
      have hi : i < ρ.length := (List.getElem?_eq_some_iff.mp q).1
      refine ⟨fun j b c h => ?_, fun k hk b c h => ?_⟩
      · by_cases hj : i = j
        · subst hj; rw [List.getElem?_set_self hi] at h; cases h
        · rw [List.getElem?_set_ne hj] at h; exact h
      · cases hk; rw [List.getElem?_set_self hi] at h; cases h
    · rename_i d' q
      cases e
      exact ⟨fun _ _ _ h => h, fun k hk b c h => by cases hk; rw [q] at h; cases h⟩
    · cases e
theorem keeps_slot : ∀ {vs : List EV} {ds : List D} {ρ ρ' : DEnv}, keeps vs ρ = some (ds, ρ') → (∀ (j : Nat) (b : Bool) (c : Cell), ρ'[j]? = some (some (.own b c)) → ρ[j]? = some (some (.own b c))) ∧ ∀ i, EV.bor i ∈ vs → ∀ (b : Bool) (c : Cell), ρ'[i]? ≠ some (some (.own b c))
  | [], _, _, _, e => by cases e; exact ⟨fun _ _ _ h => h, fun i h => nomatch h⟩
  | v :: vs, ds, ρ, ρ', e => by
    unfold keeps at e
    split at e
    · rename_i d ρ1 q
      split at e
      · rename_i ds' ρ2 q2
        cases e
        obtain ⟨a1, b1⟩ := keep_slot q
        obtain ⟨a2, b2⟩ := keeps_slot q2
        refine ⟨fun j b c h => a1 j b c (a2 j b c h), fun i hi b c h => ?_⟩
        cases hi with
        | head => exact b1 i rfl b c (a2 i b c h)
        | tail _ hi => exact b2 i hi b c h
      · cases e
    · cases e
theorem keeps_out {vs : List EV} {ds : List D} {ρ' : DEnv} (r : RelEnv K O σ H ρ) (e : keeps vs ρ = some (ds, ρ')) {a : Addr} (h : Ow σ ρ' a) : Ow σ ρ a ∧ ¬ Bor σ ρ vs a := by
  obtain ⟨s1, s2⟩ := keeps_slot e
  obtain ⟨j, b, c, e1, e2⟩ := h
  refine ⟨⟨j, b, c, s1 j b c e1, e2⟩, fun ⟨i, b', c', m, e3, e4⟩ => ?_⟩
  have ij := r.inj i j a _ _ _ _ e3 (s1 j b c e1) e4 e2
  subst ij
  exact s2 i m b c e1

/-- a call's end, seen by the caller -/
theorem call_core {k : Nat} {n : Nat} {F : Fn} {W : WX} {us : List V} {vs : List EV} {ds : List D} {Q : VK} (r : RelEnv K O σ H ρ) (e : RelEs K O σ ρ H us vs) (hd : derefs ρ vs = some ds) (hn : us.length = n)
    (h : Sat K mg O σ ρ H W (fun ρ' H' u a => RelE K O σ ρ' H' u a) Q (match F ds with
      | .ok (.val d) => if (flat d).isSome = true then .ok (.val d) ρ else optR (keeps vs ρ) fun p => .ok (.val d) p.2
      | .ok (.own (.lst l)) => optR (keeps vs ρ) fun p => .ok (.val (.list l)) p.2
      | .ok (.own _) => .bad
      | .err x => .err x ρ
      | .bad => .bad)) : spP K mg n F us H Q (WE W σ) := by
  have ha := args_dp r (fun u hu => hu) e hd
  refine ⟨hn, Hid O σ ρ vs, ds, fun a q => q.elim (r.oa a) fun q => ?_, ha, ?_⟩
  · obtain ⟨o, ho⟩ := r.owSome q.1
    rw [ho]; exact fun z => nomatch z
  have sub : ∀ {ρ' : DEnv} {H' : Hp}, (∀ a, Ow σ ρ' a → Ow σ ρ a ∧ ¬ Bor σ ρ vs a) → ∀ a o, Vis0 (Hid O σ ρ vs) H' a = some o → Gv O σ ρ' H' a = some o := fun {ρ' H'} hh a o q => by
    obtain ⟨q1, q2⟩ := vis0.mp q
    exact Gv_of (fun z => q1 (.inl z)) (fun z => q1 (.inr (hh a z))) q2
  cases hF : F ds with
  | bad => rw [hF] at h; exact h.elim
  | err x =>
    rw [hF] at h
    exact fun cls d H' sm ex => h cls d H' (.same sm) (r.same sm) ex
  | ok v =>
    rw [hF] at h
    cases v with
    | val d =>
      dsimp only at h
      split at h
      · rename_i hfl
        obtain ⟨w, hw⟩ := Option.isSome_iff_exists.mp hfl
        exact fun u H' sm hu => h u H' (.same sm) (r.same sm) (dp_any hu hw)
      · obtain ⟨⟨ds', ρ2⟩, hk, s2⟩ := optR_sat h
        obtain ⟨r2, st2, _⟩ := keeps_ok r e hk
        exact fun u H' sm hu => s2 u H' (st2.trans (.same sm)) (r2.same sm) (dp_mono (sub fun a z => keeps_out r hk z) _ _ hu)
    | own c =>
      cases c with
      | lst l =>
        obtain ⟨⟨ds', ρ2⟩, hk, s2⟩ := optR_sat h
        obtain ⟨r2, st2, _⟩ := keeps_ok r e hk
        refine fun p H' sm hp hc => s2 _ H' (st2.trans (.same sm)) (r2.same sm) ?_
        obtain ⟨ws, h1, h2⟩ := hc
        have hs : ∀ a o, Vis0 (fun a => Hid O σ ρ vs a ∨ a = p) H' a = some o → Gv O σ ρ2 H' a = some o := fun a o q => by
          obtain ⟨q1, q2⟩ := vis0.mp q
          exact Gv_of (fun z => q1 (.inl (.inl z))) (fun z => q1 (.inl (.inr (keeps_out r hk z)))) q2
        exact L2.Dp.lst (SqL.of (Gv_of (r2.fresh hp).1 (r2.fresh hp).2 h1)) (dpAll_mono hs _ _ h2)
      | dK _ => exact h.elim
      | dT _ => exact h.elim
theorem call_coreL {n : Nat} {F : Fn} {W : WX} {us : List V} {vs : List EV} {ds : List D} {Q : VK} (r : RelEnv K O σ H ρ) (e : RelEs K O σ ρ H us vs) (hd : derefs ρ vs = some ds) (hn : us.length = n)
    (h : SatL K mg O σ ρ H W Q (match F ds with
      | .ok (.own c) => optR (keeps vs ρ) fun p => .ok c p.2
      | .ok (.val _) => .bad
      | .err x => .err x ρ
      | .bad => .bad)) : spP K mg n F us H Q (WE W σ) := by
  have ha := args_dp r (fun u hu => hu) e hd
  refine ⟨hn, Hid O σ ρ vs, ds, fun a q => q.elim (r.oa a) fun q => ?_, ha, ?_⟩
  · obtain ⟨o, ho⟩ := r.owSome q.1
    rw [ho]; exact fun z => nomatch z
  cases hF : F ds with
  | bad => rw [hF] at h; exact h.elim
  | err x =>
    rw [hF] at h
    exact fun cls d H' sm ex => h cls d H' (.same sm) (r.same sm) ex
  | ok v =>
    rw [hF] at h
    cases v with
    | val d => exact h.elim
    | own c =>
      obtain ⟨⟨ds', ρ2⟩, hk, s2⟩ := optR_satL h
      obtain ⟨r2, st2, _⟩ := keeps_ok r e hk
      intro p H' sm hp hc
      have st3 : EStp σ ρ H ρ2 H' := st2.trans (.same sm)
      have r3 : RelEnv K O σ H' ρ2 := r2.same sm
      refine s2 p H' st3 hp ⟨?_, (r2.fresh hp).1, (r2.fresh hp).2, hc.mono (fun a o q => ?_) fun _ q => q⟩
      · -- p is hidden: it was free ahead of the call
        have gh : ∀ a o, Gv O σ ρ2 H a = some o → Gv (fun a => O a ∨ a = p) σ ρ2 H' a = some o := fun a o q => by
          obtain ⟨q1, q2, q3⟩ := of_Gv q
          exact Gv_of (fun z => z.elim q1 (ne_of_none q3 hp)) q2 (sm _ _ q3)
        refine ⟨r2.len, fun a q => ?_, fun i d q => ?_, fun i b c' q => ?_, r2.inj, r2.raw⟩
        · rcases q with q | q
          · exact r3.oa a q
          · obtain ⟨o, ho⟩ := hc.some
            rw [q, ho]; exact fun z => nomatch z
        · obtain ⟨v, h1, h2⟩ := r2.val i d q
          exact ⟨v, h1, dp_mono gh _ _ h2⟩
        · obtain ⟨a, h1, h2, h3⟩ := r2.own i b c' q
          obtain ⟨o, ho⟩ := h3.some
          exact ⟨a, h1, fun z => z.elim h2 (ne_of_none ho hp), h3.mono gh fun o q => sm _ _ q⟩
      · obtain ⟨q1, q2⟩ := vis0.mp q
        exact Gv_of (fun z => z.elim (fun z => q1 (.inl (.inl z))) fun z => q1 (.inr z)) (fun z => q1 (.inl (.inr (keeps_out r hk z)))) q2
end
section
variable {X : Cx} {W : WX} {x : Str} {p pos : Pos} {e : Expr} {es : List Expr} {k n : Nat} {ps : List Str} {F : Fn} {g : DEnv → Res (List EV)}
theorem de_call (C : FOk X.prog X.w X.K X.mg X.base x k ps (spP X.K X.mg n F)) (hr : Room k X.A) (hx : ∀ σ, PassesAt (L2N.CX X.prog X.w) X σ (WE W σ)) (ha : DA X W (e :: es) g) (hl : (e :: es).length = n := by rfl) (hg : Gl X x := by rfl) (hdb : (x == ("__debug__" : Str)) = false := by decide)
    (he : starEach (e :: es) X.env = (false, eval e X.env) :: starEach es X.env := by rfl) (hpl : (backTo pos (starEach es X.env)).any (·.1) = false := by rfl) (hlen : ∀ ρ vs ρ', g ρ = .ok vs ρ' → vs.length = n) :
    DE X W (.Call (.Name x p) (e :: es) [] pos) (xCall F g) := by
  obtain ⟨f, fd, Fo, hm, hk, hb⟩ := C
  refine ⟨pe_imp (pe_callS (E := WE W) Fo hr hg hm hk hb hx ha.pa hdb he hpl) fun σ H Q ⟨O, ρ, r, s⟩ => ⟨O, ρ, r, ?_⟩⟩
  unfold xCall at s
  cases q : g ρ with
  | ok vs ρ1 =>
    rw [q] at s
    intro us H1 st r1 e1
    obtain ⟨ds, hd, s2⟩ := optR_sat (Sat.shift s st)
    have hlv : us.length = vs.length := by
      have : ∀ (us : List V) (vs : List EV), RelEs X.K O σ ρ1 H1 us vs → us.length = vs.length := by
        intro us
        induction us with
        | nil => intro vs h; cases vs with
          | nil => rfl
          | cons _ _ => exact h.elim
        | cons u us ih => intro vs h; cases vs with
          | nil => exact h.elim
          | cons v vs => simp [ih vs h.2]
      exact this us vs e1
    exact call_core (k := k) r1 e1 hd (hlv.trans (hlen _ _ _ q)) s2
  | err x ρ1 => rw [q] at s; exact s
  | bad => rw [q] at s; exact s
theorem dl_call (C : FOk X.prog X.w X.K X.mg X.base x k ps (spP X.K X.mg n F)) (hr : Room k X.A) (hx : ∀ σ, PassesAt (L2N.CX X.prog X.w) X σ (WE W σ)) (ha : DA X W (e :: es) g) (hl : (e :: es).length = n := by rfl) (hg : Gl X x := by rfl) (hdb : (x == ("__debug__" : Str)) = false := by decide)
    (he : starEach (e :: es) X.env = (false, eval e X.env) :: starEach es X.env := by rfl) (hpl : (backTo pos (starEach es X.env)).any (·.1) = false := by rfl) (hlen : ∀ ρ vs ρ', g ρ = .ok vs ρ' → vs.length = n) :
    DLs X W (.Call (.Name x p) (e :: es) [] pos) (xCallL F g) := by
  obtain ⟨f, fd, Fo, hm, hk, hb⟩ := C
  refine ⟨pe_imp (pe_callS (E := WE W) Fo hr hg hm hk hb hx ha.pa hdb he hpl) fun σ H Q ⟨O, ρ, r, s⟩ => ⟨O, ρ, r, ?_⟩⟩
  unfold xCallL at s
  cases q : g ρ with
  | ok vs ρ1 =>
    rw [q] at s
    intro us H1 st r1 e1
    obtain ⟨ds, hd, s2⟩ := optR_satL (SatL.shift s st st.none)
    have hlv : us.length = vs.length := by
      have : ∀ (us : List V) (vs : List EV), RelEs X.K O σ ρ1 H1 us vs → us.length = vs.length := by
        intro us
        induction us with
        | nil => intro vs h; cases vs with
          | nil => rfl
          | cons _ _ => exact h.elim
        | cons u us ih => intro vs h; cases vs with
          | nil => exact h.elim
          | cons v vs => simp [ih vs h.2]
      exact this us vs e1
    exact call_coreL r1 e1 hd (hlv.trans (hlen _ _ _ q)) s2
  | err x ρ1 => rw [q] at s; exact s
  | bad => rw [q] at s; exact s
/-- how many arguments there are -/
theorem aNil_len : ∀ ρ vs ρ', aNil ρ = .ok vs ρ' → vs.length = 0 := fun ρ vs ρ' h => by cases h; rfl
theorem aCons_len {f : DX} {g : DEnv → Res (List EV)} {n : Nat} (h : ∀ ρ vs ρ', g ρ = .ok vs ρ' → vs.length = n) : ∀ ρ vs ρ', aCons f g ρ = .ok vs ρ' → vs.length = n + 1 := fun ρ vs ρ' e => by
  unfold aCons at e
  cases q : f ρ with
  | ok v ρ1 =>
    rw [q] at e
    dsimp only [bindR] at e
    cases q2 : g ρ1 with
    | ok ws ρ2 =>
      rw [q2] at e
      cases e
      simp [h _ _ _ q2]
    | err x ρ2 => rw [q2] at e; cases e
    | bad => rw [q2] at e; cases e
  | err x ρ1 => rw [q] at e; cases e
  | bad => rw [q] at e; cases e
end

/-! ### a def's body -/
def runF (m : Nat) (body : DSt) : Fn := fun ds => match body (ds.map (fun d => some (.val d)) ++ List.replicate (m - ds.length) none) with
  | .nx _ => .ok (.val .none)
  | .rt v _ => .ok v
  | .err x _ => .err x
  | _ => .bad
section
variable {P : Program} {w : World} {K : Frg} {mg : Mg} {base : Heap}
theorem start_get {N : List Str} {vs : List V} {i : Nat} : (L2.start N vs)[i]? = if i < vs.length then (vs[i]?).map some else if i < vs.length + (N.length - vs.length) then some none else none := by
  unfold L2.start
  by_cases h : i < vs.length
  · rw [if_pos h, List.getElem?_append_left (by simpa using h), List.getElem?_map]
  · rw [if_neg h, List.getElem?_append_right (by simpa using h), List.getElem?_replicate, List.length_map]
    by_cases h2 : i < vs.length + (N.length - vs.length)
    · rw [if_pos h2, if_pos (by omega)]
    · rw [if_neg h2, if_neg (by omega)]
def startD (m : Nat) (ds : List D) : DEnv := ds.map (fun d => some (.val d)) ++ List.replicate (m - ds.length) none
theorem startD_own {m : Nat} {ds : List D} {i : Nat} {b : Bool} {c : Cell} : (startD m ds)[i]? ≠ some (some (.own b c)) := by
  unfold startD
  by_cases h : i < ds.length
  · rw [List.getElem?_append_left (by simpa using h), List.getElem?_map]
    cases ds[i]? with
    | none => exact fun z => nomatch z
    | some d => exact fun z => nomatch z
  · rw [List.getElem?_append_right (by simpa using h), List.getElem?_replicate]
    split
    · exact fun z => nomatch z
    · exact fun z => nomatch z
theorem start_rel {O : Addr → Prop} {N : List Str} {vs : List V} {ds : List D} {H : Hp} (ho : ∀ a, O a → H a ≠ none) (h : DpAll K (Vis0 O H) vs ds) : RelEnv K O (L2.start N vs) H (startD N.length ds) := by
  have hl := DL.DpAll.length h
  have now : ∀ a, ¬ Ow (L2.start N vs) (startD N.length ds) a := fun a ⟨i, b, c, e, _⟩ => startD_own e
  refine ⟨?_, ho, fun i d e => ?_, fun i b c e => absurd e startD_own, fun i j a b c b' c' e => absurd e startD_own, fun i a e => ?_⟩
  · unfold L2.start startD
    simp [hl]
  · unfold startD at e
    by_cases hi : i < ds.length
    · rw [List.getElem?_append_left (by simpa using hi), List.getElem?_map] at e
      cases q : ds[i]? with
      | none => rw [q] at e; cases e
      | some d' =>
        rw [q] at e
        cases e
        obtain ⟨v, h1, h2⟩ := DL.DpAll.at h q
        refine ⟨v, ?_, dp_mono (fun a o z => Gv_of (vis0.mp z).1 (now a) (vis0.mp z).2) _ _ h2⟩
        rw [start_get, if_pos (by omega), h1]; rfl
    · rw [List.getElem?_append_right (by simpa using hi), List.getElem?_replicate] at e
      split at e <;> cases e
  · unfold startD at e
    by_cases hi : i < ds.length
    · rw [List.getElem?_append_left (by simpa using hi), List.getElem?_map] at e
      cases q : ds[i]? with
      | none => rw [q] at e; cases e
      | some d' => rw [q] at e; cases e
    · rw [List.getElem?_append_right (by simpa using hi), List.getElem?_replicate] at e
      split at e <;> cases e
abbrev cxN (P : Program) (w : World) (K : Frg) (mg : Mg) (base : Heap) (N : List Str) (qual : Str) (st : Stmt) (f : Addr) (cdv : Value) (A : Around) (outer : List Env) (s : Shared) (H : Hp) (E : XK) : Cx :=
  cxOf (L2N.CX P w) P w K mg base N qual (defScope st) f cdv A outer s H E
/-- THE RULE for a def of data -/
theorem fn_data {x qual : Str} {st : Stmt} {f : Addr} {fd : FuncData} {N ps : List Str} {k : Nat} {body : DSt} (F : Fun K x qual st f fd) (S : FnScope N ps (defScope st))
    (hbody : ∀ (cdv : Value) (A : Around) (outer : List Env) (s : Shared) (H : Hp) (E : XK), Room k (A.deeper (envOfC qual (defScope st) s.heap.objs.size f cdv)) →
      L2N.Takes (cxN P w K mg base N qual st f cdv A outer s H E) (fun cls d _ H => E cls d H) → PassesOwn (model P w) (cxN P w K mg base N qual st f cdv A outer s H E).A (cxN P w K mg base N qual st f cdv A outer s H E).env (cxN P w K mg base N qual st f cdv A outer s H E).xe →
      DSs (cxN P w K mg base N qual st f cdv A outer s H E) (fun cls d _ H => E cls d H) (defBody st) body) :
    FnOk P w K mg base (L2N.CX P w) (k + 1) f fd ps (spP K mg ps.length (runF N.length body)) := by
  obtain ⟨oc, od, kV, doc, pm, an, cdv, ct, osl, rfl, lk, hcd⟩ := F.ex
  refine fn_of lk hcd S (fun vs H Q E h => h.1) fun A outer s H vs Q E hr h => ?_
  obtain ⟨hn, O, ds, ho, ha, h⟩ := h
  refine ⟨_, (hbody cdv A outer s H E hr (L2N.takes_of rfl rfl rfl rfl) (passes_of rfl)).pss, O, startD N.length ds, start_rel ho ha, ?_⟩
  have now : ∀ a, ¬ Ow (L2.start N vs) (startD N.length ds) a := fun a ⟨i, b, c, e, _⟩ => startD_own e
  unfold runF at h
  have same : ∀ {σ' : L2.St} {ρ' : DEnv} {H' : Hp}, SStp (L2.start N vs) (startD N.length ds) H σ' ρ' H' → Same H H' := fun {σ' ρ' H'} st b o e => st.ext b o e (now b)
  have gvs : ∀ {σ' : L2.St} {ρ' : DEnv} {H' : Hp}, ∀ a o, Gv O σ' ρ' H' a = some o → Vis0 O H' a = some o := fun {σ' ρ' H'} a o q => vis0.mpr ⟨(of_Gv q).1, (of_Gv q).2.2⟩
  show SatS K mg O (L2.start N vs) (startD N.length ds) H _ _ (body (startD N.length ds))
  change SatF K mg O H Q E (match body (startD N.length ds) with
    | .nx _ => .ok (.val .none)
    | .rt v _ => .ok v
    | .err x _ => .err x
    | _ => .bad) at h
  cases q : body (startD N.length ds) with
  | nx ρ' => rw [q] at h; exact fun σ' H' st r => h .non H' (same st) .non
  | rt v ρ' =>
    rw [q] at h
    intro u σ' H' st r
    cases v with
    | val d => exact h u H' (same st) (dp_mono gvs _ _ r.2)
    | own c =>
      obtain ⟨p, rfl, ⟨r1, r2, r3, r4⟩, r5⟩ := r
      refine h p H' (same st) (r5.elim (fun z => absurd z (now p)) fun z => z) (r4.mono (fun a o z => vis0.mpr ⟨(of_Gv z).1, (of_Gv z).2.2⟩) fun _ z => z)
  | bk ρ' => rw [q] at h; exact h.elim
  | ct ρ' => rw [q] at h; exact h.elim
  | err x ρ' => rw [q] at h; exact fun cls d σ' H' st r ex => h cls d H' (same st) ex
  | bad => rw [q] at h; exact h.elim
end
end DL

namespace DL
open L2 PySem PySem.Spec PyProof.Rows

section
variable {K : Frg} {O : Addr → Prop} {σ : L2.St} {ρ : DEnv} {H : Hp} {u : V} {a : EV}
theorem RelE.int {i : Int} (h : RelE K O σ ρ H u a) (r : RelEnv K O σ H ρ) (e : deref ρ a = some (.int i)) : u = .int i := by
  have := h.dp r e; cases this; rfl
theorem RelE.str {x : Str} (h : RelE K O σ ρ H u a) (r : RelEnv K O σ H ρ) (e : deref ρ a = some (.str x)) : u = .str x := by
  have := h.dp r e; cases this; rfl
theorem RelE.bl {b : Bool} (h : RelE K O σ ρ H u a) (r : RelEnv K O σ H ρ) (e : deref ρ a = some (.bool b)) : u = .bl b := by
  have := h.dp r e; cases this; rfl
theorem RelE.non (h : RelE K O σ ρ H u a) (r : RelEnv K O σ H ρ) (e : deref ρ a = some .none) : u = .non := by
  have := h.dp r e; cases this; rfl
theorem dp_new {vs : List V} {ds : List D} {p : Addr} (r : RelEnv K O σ H ρ) (hp : H p = none) (a : DpAll K (Gv O σ ρ H) vs ds) : Same H (upd H p (.tup vs)) ∧ Dp K (Gv O σ ρ (upd H p (.tup vs))) (.ref p) (.tuple ds) :=
  ⟨same_upd hp, L2.Dp.tup (SqT.of (Gv_of (r.fresh hp).1 (r.fresh hp).2 upd_same)) (dpAll_mono (same_gv (same_upd hp)) _ _ a)⟩
end

/-! ### + -/
def kAdd : D → D → Option D
  | .int i, .int j => some (.int (i + j))
  | .str x, .str y => if x.length + y.length ≤ sizeLine then some (.str (x ++ y)) else none
  | .tuple xs, .tuple ys => if xs.length + ys.length ≤ sizeLine then some (.tuple (xs ++ ys)) else none
  | _, _ => none
section
variable {X : Cx}
theorem o_add : OpR X (binaryOp .Add) (rD2 X.K kAdd) := by
  intro pins s σ H x y v u Q I rx ry ⟨O, σ', ρ, a, b, d, e, z, r, ea, eb, hd, he, hk, q⟩
  unfold kAdd at hk
  split at hk
  · rename_i i j
    cases hk
    cases RelE.int ea r hd
    cases RelE.int eb r he
    exact op_add pins s σ H _ _ v u Q I rx ry ⟨i, j, rfl, rfl, q _ H (Same.refl _) (.int _)⟩
  · rename_i i j
    split at hk
    · rename_i hz
      cases hk
      cases RelE.str ea r hd
      cases RelE.str eb r he
      exact op_add_str pins s σ H _ _ v u Q I rx ry ⟨i, j, rfl, rfl, hz, q _ H (Same.refl _) (.str _)⟩
    · cases hk
  · rename_i xs ys
    split at hk
    · rename_i hz
      cases hk
      obtain ⟨p1, vs, rfl, s1, a1⟩ := RelE.tup ea r hd
      obtain ⟨p2, ws, rfl, s2, a2⟩ := RelE.tup eb r he
      have l1 := DL.DpAll.length a1
      have l2 := DL.DpAll.length a2
      refine op_catA pins s σ H _ _ v u Q I rx ry ⟨p1, p2, vs, ws, rfl, rfl, SqT.mono Gv_sub s1, SqT.mono Gv_sub s2, by omega, fun hv => ?_, fun hv hw => ?_, fun hv hw p hp => ?_⟩
      · subst hv
        have : xs = [] := List.eq_nil_of_length_eq_zero l1.symm
        subst this
        exact q _ H (Same.refl _) (.tup s2 a2)
      · subst hw
        have : ys = [] := List.eq_nil_of_length_eq_zero l2.symm
        subst this
        exact q _ H (Same.refl _) (.tup s1 (by simpa using a1))
      · obtain ⟨m1, m2⟩ := dp_new r hp (DL.DpAll.append a1 a2)
        exact q _ _ m1 m2
    · cases hk
  · cases hk
def kSub : D → D → Option D
  | .int i, .int j => some (.int (i - j))
  | _, _ => none
theorem o_sub : OpR X (binaryOp .Sub) (rD2 X.K kSub) := by
  intro pins s σ H x y v u Q I rx ry ⟨O, σ', ρ, a, b, d, e, z, r, ea, eb, hd, he, hk, q⟩
  unfold kSub at hk
  split at hk
  · rename_i i j
    cases hk
    cases RelE.int ea r hd
    cases RelE.int eb r he
    exact op_sub pins s σ H _ _ v u Q I rx ry ⟨i, j, rfl, rfl, q _ H (Same.refl _) (.int _)⟩
  · cases hk
/-- the sizes that a product may have -/
def mulOk (i j : Int) : Bool := decide (i.natAbs.log2 + j.natAbs.log2 < 1000000)
def kMul : D → D → Option D
  | .int i, .int j => if mulOk i j = true then some (.int (i * j)) else none
  | .tuple xs, .int k => if (!xs.isEmpty) = true ∧ 2 ≤ k ∧ k ≤ 1000 ∧ xs.length ≤ 1000 then some (.tuple (List.replicate k.toNat xs).flatten) else none
  | _, _ => none
theorem DpAll.rep {K : Frg} {G : Hp} {vs : List V} {ds : List D} (a : DpAll K G vs ds) : ∀ n, DpAll K G (List.replicate n vs).flatten (List.replicate n ds).flatten
  | 0 => .nil
  | n + 1 => by
    rw [List.replicate_succ, List.replicate_succ, List.flatten_cons, List.flatten_cons]
    exact DL.DpAll.append a (DpAll.rep a n)
theorem o_mul : OpR X (binaryOp .Mult) (rD2 X.K kMul) := by
  intro pins s σ H x y v u Q I rx ry ⟨O, σ', ρ, a, b, d, e, z, r, ea, eb, hd, he, hk, q⟩
  unfold kMul at hk
  split at hk
  · rename_i i j
    split at hk
    · rename_i hz
      cases hk
      cases RelE.int ea r hd
      cases RelE.int eb r he
      exact op_mulW pins s σ H _ _ v u Q I rx ry ⟨i, j, rfl, rfl, (of_decide_eq_true (p := i.natAbs.log2 + j.natAbs.log2 < 1000000) hz : _), q _ H (Same.refl _) (.int _)⟩
    · cases hk
  · rename_i xs k
    split at hk
    · rename_i hz
      cases hk
      obtain ⟨p1, vs, rfl, s1, a1⟩ := RelE.tup ea r hd
      cases RelE.int eb r he
      have l1 := DL.DpAll.length a1
      refine op_repT pins s σ H _ _ v u Q I rx ry ⟨p1, k, vs, rfl, rfl, SqT.mono Gv_sub s1, fun hv => ?_, hz.2.1, hz.2.2.1, by omega, fun p hp => ?_⟩
      · subst hv
        have : xs = [] := List.eq_nil_of_length_eq_zero l1.symm
        subst this
        exact absurd hz.1 (by decide)
      · obtain ⟨m1, m2⟩ := dp_new r hp (DpAll.rep a1 k.toNat)
        exact q _ _ m1 m2
    · cases hk
  · cases hk
def divOk (j : Int) : Bool := decide (j ≠ 0 ∧ j.natAbs.log2 < 9000)
def kDiv : D → D → Option D
  | .int i, .int j => if divOk j = true then some (.int (i.fdiv j)) else none
  | _, _ => none
theorem o_div : OpR X (binaryOp .FloorDiv) (rD2 X.K kDiv) := by
  intro pins s σ H x y v u Q I rx ry ⟨O, σ', ρ, a, b, d, e, z, r, ea, eb, hd, he, hk, q⟩
  unfold kDiv at hk
  split at hk
  · rename_i i j
    split at hk
    · rename_i hz
      cases hk
      cases RelE.int ea r hd
      cases RelE.int eb r he
      obtain ⟨h1, h2⟩ := of_decide_eq_true hz
      obtain ⟨t, rfl⟩ := rx
      obtain ⟨t2, rfl⟩ := ry
      exact floordiv_int h1 ⟨.int _, H, I.tok _, ⟨_, rfl⟩, q _ H (Same.refl _) (.int _)⟩ (.inl (PyProof.noPylong_of_log2 h2))
    · cases hk
  · cases hk
def kMod : D → D → Option D
  | .int i, .int j => if j ≠ 0 then some (.int (i.fmod j)) else none
  | _, _ => none
theorem o_mod : OpR X (binaryOp .Mod) (rD2 X.K kMod) := by
  intro pins s σ H x y v u Q I rx ry ⟨O, σ', ρ, a, b, d, e, z, r, ea, eb, hd, he, hk, q⟩
  unfold kMod at hk
  split at hk
  · rename_i i j
    split at hk
    · rename_i hz
      cases hk
      cases RelE.int ea r hd
      cases RelE.int eb r he
      exact op_modN pins s σ H _ _ v u Q I rx ry ⟨i, j, rfl, rfl, hz, q _ H (Same.refl _) (.int _)⟩
    · cases hk
  · cases hk
def kPow : D → D → Option D
  | .int i, .int j => if 0 ≤ j ∧ j ≤ 1000000 ∧ i.natAbs < 2 ^ 64 then some (.int (i ^ j.toNat)) else none
  | _, _ => none
theorem o_pow : OpR X (binaryOp .Pow) (rD2 X.K kPow) := by
  intro pins s σ H x y v u Q I rx ry ⟨O, σ', ρ, a, b, d, e, z, r, ea, eb, hd, he, hk, q⟩
  unfold kPow at hk
  split at hk
  · rename_i i j
    split at hk
    · rename_i hz
      cases hk
      cases RelE.int ea r hd
      cases RelE.int eb r he
      exact op_pow pins s σ H _ _ v u Q I rx ry ⟨i, j, rfl, rfl, hz, q _ H (Same.refl _) (.int _)⟩
    · cases hk
  · cases hk
def kNeg : D → Option D
  | .int i => some (.int (-i))
  | _ => none
theorem o_neg : UnR X (unaryOp .USub) (rD1 X.K kNeg) := by
  intro pins s σ H x v Q I rx ⟨O, σ', ρ, a, d, z, r, ea, hd, hk, q⟩
  unfold kNeg at hk
  split at hk
  · rename_i i
    cases hk
    cases RelE.int ea r hd
    exact un_neg pins s σ H _ v Q I rx ⟨i, rfl, q _ H (Same.refl _) (.int _)⟩
  · cases hk

/-! ### lists: + and * -/
def kAddL : D → D → Option (List D)
  | .list xs, .list ys => if xs.length + ys.length ≤ sizeLine then some (xs ++ ys) else none
  | _, _ => none
theorem o_addL : OpR X (binaryOp .Add) (rD2L X.K kAddL) := by
  intro pins s σ H x y v u Q I rx ry ⟨O, σ', ρ, a, b, d, e, z, r, ea, eb, hd, he, hk, q⟩
  unfold kAddL at hk
  split at hk
  · rename_i xs ys
    split at hk
    · rename_i hz
      cases hk
      obtain ⟨p1, vs, rfl, s1, a1⟩ := RelE.lst ea r hd
      obtain ⟨p2, ws, rfl, s2, a2⟩ := RelE.lst eb r he
      have l1 := DL.DpAll.length a1
      have l2 := DL.DpAll.length a2
      cases rx
      cases ry
      obtain ⟨its, r1, ⟨⟨c1, dd1, da1, sl1⟩, n1, o1, k1, k2, k3⟩, z1⟩ := I.list s1
      obtain ⟨jts, r2, ⟨⟨c2, dd2, da2, sl2⟩, n2, o2, j1, j2, j3⟩, z2⟩ := I.list s2
      dsimp only at k1 k2 k3 j1 j2 j3
      subst k1 k2 k3 j1 j2 j3
      have hx1 := r1.length
      have hx2 := r2.length
      refine concat_meets ⟨_, o1, rfl⟩ ⟨_, o2, rfl⟩ noFill_list_add seq_list_add PySem.F.slot_list_add PySem.F.entry_list_add (PySem.F.args_list_add_2 _ _)
        (list_addW p1 p2 its.toArray jts.toArray n1 n2 _ _ _ _ (by rw [List.size_toArray, List.size_toArray]; omega)) ⟨o1, o2, ?_⟩
      have ea : its.toArray ++ jts.toArray = (its ++ jts).toArray := by simp
      rw [ea]
      exact ⟨.ref _, _, I.lnew (t' := s.toks) (r1.append r2) (by rw [List.length_append]; omega), rfl, q _ _ I.fresh (DL.DpAll.append a1 a2)⟩
    · cases hk
  · cases hk

/-! ### comparisons -/
def kEq : D → D → Option Bool
  | .str x, .str y => some (decide (x = y))
  | d, e => if SeqAt.shaped d = true ∧ SeqAt.shaped e = true then some (PyData.eqv d e) else none
def kNe : D → D → Option Bool
  | .str x, .str y => some (!decide (x = y))
  | d, e => if SeqAt.shaped d = true ∧ SeqAt.shaped e = true then some (!PyData.eqv d e) else none
theorem kB_some {k : D → D → Option Bool} {d e z : D} (h : kB k d e = some z) : ∃ b, k d e = some b ∧ z = .bool b := by
  unfold kB at h
  cases q : k d e with
  | none => rw [q] at h; cases h
  | some b => rw [q] at h; cases h; exact ⟨b, rfl, rfl⟩
theorem o_eq (hu : X.A.units + 200 < cLine) : OpR X (compareOp .Eq) (rD2 X.K (kB kEq)) := by
  intro pins s σ H x y v u Q I rx ry ⟨O, σ', ρ, a, b, d, e, z, r, ea, eb, hd, he, hk, q⟩
  obtain ⟨c, hk2, rfl⟩ := kB_some hk
  clear hk
  unfold kEq at hk2
  split at hk2
  · rename_i x1 y1
    cases hk2
    cases RelE.str ea r hd
    cases RelE.str eb r he
    refine op_eq pins s σ H _ _ v u Q I rx ry ⟨rfl, q _ H (Same.refl _) ?_⟩
    have e : decide (x1 = y1) = decide (V.str x1 = V.str y1) := by simp
    rw [e]
    exact .bl _
  split at hk2
  · rename_i hz
    cases hk2
    exact op_eqD (by omega) pins s σ H _ _ v u Q I rx ry ⟨d, e, ea.dp r hd, eb.dp r he, hz.1, hz.2, q _ H (Same.refl _) (.bl _)⟩
  · cases hk2
theorem o_ne (hu : X.A.units + 200 < cLine) : OpR X (compareOp .NotEq) (rD2 X.K (kB kNe)) := by
  intro pins s σ H x y v u Q I rx ry ⟨O, σ', ρ, a, b, d, e, z, r, ea, eb, hd, he, hk, q⟩
  obtain ⟨c, hk2, rfl⟩ := kB_some hk
  clear hk
  unfold kNe at hk2
  split at hk2
  · rename_i x1 y1
    cases hk2
    cases RelE.str ea r hd
    cases RelE.str eb r he
    refine op_ne pins s σ H _ _ v u Q I rx ry ⟨rfl, q _ H (Same.refl _) ?_⟩
    have e : decide (x1 = y1) = decide (V.str x1 = V.str y1) := by simp
    rw [e]
    exact .bl _
  split at hk2
  · rename_i hz
    cases hk2
    exact op_neD (by omega) pins s σ H _ _ v u Q I rx ry ⟨d, e, ea.dp r hd, eb.dp r he, hz.1, hz.2, q _ H (Same.refl _) (.bl _)⟩
  · cases hk2
/-- order: ints by themselves, other data alike -/
def notNone : D → Bool
  | .none => false
  | _ => true
def kLt : D → D → Option Bool
  | .int i, .int j => some (decide (i < j))
  | d, e => if PySem.W.alike d e = true ∧ notNone d = true ∧ d.depth ≤ 64 then some (PySem.W.dataLt d e) else none
def kGt : D → D → Option Bool
  | .int i, .int j => some (decide (j < i))
  | d, e => if PySem.W.alike d e = true ∧ notNone d = true ∧ d.depth ≤ 64 then some (PySem.W.dataLt e d) else none
def kLe : D → D → Option Bool
  | .int i, .int j => some (decide (i ≤ j))
  | d, e => if PySem.W.alike d e = true ∧ notNone d = true ∧ d.depth ≤ 64 then some (!PySem.W.dataLt e d) else none
def kGe : D → D → Option Bool
  | .int i, .int j => some (decide (j ≤ i))
  | d, e => if PySem.W.alike d e = true ∧ notNone d = true ∧ d.depth ≤ 64 then some (!PySem.W.dataLt d e) else none
theorem notNone_ne {d : D} (h : notNone d = true) : d ≠ .none := fun z => by rw [z] at h; cases h
theorem ordC {op : CmpOp} {k : D → D → Option Bool} {f : Int → Int → Bool} {g : D → D → Bool} (hk : ∀ d e c, k d e = some c → (∃ i j, d = .int i ∧ e = .int j ∧ c = f i j) ∨ (PySem.W.alike d e = true ∧ notNone d = true ∧ d.depth ≤ 64 ∧ c = g d e))
    (h1 : OpR X (compareOp op) (rI0 fun i j => .bl (f i j)))
    (h2 : ∀ (s : Shared) (v u : Value) (d e : D) (as bs : List Addr) (Q : Value → Shared → Prop), Reads s.heap v d as → Reads s.heap u e bs → PySem.W.alike d e = true → d ≠ .none → X.A.units + min d.depth e.depth < cLine → Q (.bool (g d e)) s → wpAny (model X.prog X.w) X.A (compareOp op v u) Q X.xe s)
    (hu : X.A.units + 200 < cLine) : OpR X (compareOp op) (rD2 X.K (kB k)) := by
  intro pins s σ H x y v u Q I rx ry ⟨O, σ', ρ, a, b, d, e, z, r, ea, eb, hd, he, hz, q⟩
  obtain ⟨c, hk2, rfl⟩ := kB_some hz
  rcases hk d e c hk2 with ⟨i, j, rfl, rfl, rfl⟩ | ⟨z1, z2, z3, rfl⟩
  · cases RelE.int ea r hd
    cases RelE.int eb r he
    exact h1 pins s σ H _ _ v u Q I rx ry ⟨i, j, rfl, rfl, q _ H (Same.refl _) (.bl _)⟩
  · obtain ⟨as, ra⟩ := Dp.reads I d x v (ea.dp r hd) rx
    obtain ⟨bs, rb⟩ := Dp.reads I e y u (eb.dp r he) ry
    have hm : min d.depth e.depth ≤ d.depth := Nat.min_le_left _ _
    exact h2 s v u d e as bs _ ra rb z1 (notNone_ne z2) (by omega) ⟨.bl _, H, I, rfl, q _ H (Same.refl _) (.bl _)⟩
theorem o_lt (hu : X.A.units + 200 < cLine) : OpR X (compareOp .Lt) (rD2 X.K (kB kLt)) := by
  refine ordC (f := fun i j => decide (i < j)) (g := fun d e => PySem.W.dataLt d e) (fun d e c h => ?_) op_lt (fun s v u d e as bs Q ra rb z1 z2 z3 hq => PySem.W.lt_data ra rb z1 z2 z3 hq) hu
  unfold kLt at h
  split at h
  · cases h; exact .inl ⟨_, _, rfl, rfl, rfl⟩
  · split at h
    · rename_i hz
      cases h
      exact .inr ⟨hz.1, hz.2.1, hz.2.2, rfl⟩
    · cases h
theorem o_gt (hu : X.A.units + 200 < cLine) : OpR X (compareOp .Gt) (rD2 X.K (kB kGt)) := by
  refine ordC (f := fun i j => decide (j < i)) (g := fun d e => PySem.W.dataLt e d) (fun d e c h => ?_) op_gt (fun s v u d e as bs Q ra rb z1 z2 z3 hq => PySem.W.gt_data ra rb z1 z2 z3 hq) hu
  unfold kGt at h
  split at h
  · cases h; exact .inl ⟨_, _, rfl, rfl, rfl⟩
  · split at h
    · rename_i hz
      cases h
      exact .inr ⟨hz.1, hz.2.1, hz.2.2, rfl⟩
    · cases h
theorem o_le (hu : X.A.units + 200 < cLine) : OpR X (compareOp .LtE) (rD2 X.K (kB kLe)) := by
  refine ordC (f := fun i j => decide (i ≤ j)) (g := fun d e => !PySem.W.dataLt e d) (fun d e c h => ?_) op_le (fun s v u d e as bs Q ra rb z1 z2 z3 hq => PySem.W.le_data ra rb z1 z2 z3 hq) hu
  unfold kLe at h
  split at h
  · cases h; exact .inl ⟨_, _, rfl, rfl, rfl⟩
  · split at h
    · rename_i hz
      cases h
      exact .inr ⟨hz.1, hz.2.1, hz.2.2, rfl⟩
    · cases h
theorem o_ge (hu : X.A.units + 200 < cLine) : OpR X (compareOp .GtE) (rD2 X.K (kB kGe)) := by
  refine ordC (f := fun i j => decide (j ≤ i)) (g := fun d e => !PySem.W.dataLt d e) (fun d e c h => ?_) op_ge (fun s v u d e as bs Q ra rb z1 z2 z3 hq => PySem.W.ge_data ra rb z1 z2 z3 hq) hu
  unfold kGe at h
  split at h
  · cases h; exact .inl ⟨_, _, rfl, rfl, rfl⟩
  · split at h
    · rename_i hz
      cases h
      exact .inr ⟨hz.1, hz.2.1, hz.2.2, rfl⟩
    · cases h
end
end DL

namespace DL
open L2 PySem PySem.Spec PyProof.Rows
section
variable {X : Cx}
/-! ### is, in -/
def kIs : D → D → Option Bool
  | .none, .none => some true
  | .bool a, .bool b => some (a == b)
  | _, .none => some false
  | _, .bool _ => some false
  | _, _ => none
def kIsNot (d e : D) : Option Bool := (kIs d e).map (!·)
theorem is_core {P : Program} {w : World} {A : Around} {E : Value → Shared → Prop} {s : Shared} {K : Frg} {H : Hp} {x y : V} {v u : Value} {d e : D} {c : Bool} (hk : kIs d e = some c) (hx : Dp K H x d) (hy : Dp K H y e) (rx : RelV x v) (ry : RelV y u) : plainIs v u = true ∧ (v == u) = c := by
  unfold kIs at hk
  split at hk
  · cases hk; cases hx; cases hy; cases rx; cases ry; exact ⟨rfl, rfl⟩
  · rename_i a b
    cases hk; cases hx; cases hy; cases rx; cases ry
    refine ⟨rfl, ?_⟩
    cases a <;> cases b <;> rfl
  · cases hk
    cases hy; cases ry
    cases hx with
    | non => rename_i h; exact absurd rfl h
    | bl b => cases rx; exact ⟨rfl, rfl⟩
    | int i => obtain ⟨t, rfl⟩ := rx; exact ⟨rfl, rfl⟩
    | str z => obtain ⟨t, rfl⟩ := rx; exact ⟨rfl, rfl⟩
    | lst _ _ => cases rx; exact ⟨rfl, rfl⟩
    | tup _ _ => cases rx; exact ⟨rfl, rfl⟩
  · cases hk
    cases hy; cases ry
    cases hx with
    | non => cases rx; exact ⟨rfl, rfl⟩
    | bl b => rename_i h; exact (h b rfl).elim
    | int i => obtain ⟨t, rfl⟩ := rx; exact ⟨rfl, rfl⟩
    | str z => obtain ⟨t, rfl⟩ := rx; exact ⟨rfl, rfl⟩
    | lst _ _ => cases rx; exact ⟨rfl, rfl⟩
    | tup _ _ => cases rx; exact ⟨rfl, rfl⟩
  · cases hk
theorem o_is : OpR X (compareOp .Is) (rD2 X.K (kB kIs)) := by
  intro pins s σ H x y v u Q I rx ry ⟨O, σ', ρ, a, b, d, e, z, r, ea, eb, hd, he, hz, q⟩
  obtain ⟨c, hk, rfl⟩ := kB_some hz
  obtain ⟨h1, h2⟩ := is_core (P := X.prog) (w := X.w) (A := X.A) (E := X.xe) (s := s) hk (ea.dp r hd) (eb.dp r he) rx ry
  exact wpAny_is_plain h1 ⟨.bl (v == u), H, I, rfl, by rw [h2]; exact q _ H (Same.refl _) (.bl _)⟩
theorem o_isnot : OpR X (compareOp .IsNot) (rD2 X.K (kB kIsNot)) := by
  intro pins s σ H x y v u Q I rx ry ⟨O, σ', ρ, a, b, d, e, z, r, ea, eb, hd, he, hz, q⟩
  obtain ⟨c, hk, rfl⟩ := kB_some hz
  unfold kIsNot at hk
  cases hk2 : kIs d e with
  | none => rw [hk2] at hk; cases hk
  | some c2 =>
    rw [hk2] at hk
    cases hk
    obtain ⟨h1, h2⟩ := is_core (P := X.prog) (w := X.w) (A := X.A) (E := X.xe) (s := s) hk2 (ea.dp r hd) (eb.dp r he) rx ry
    exact wpAny_isNot_plain h1 ⟨.bl (!(v == u)), H, I, rfl, by rw [h2]; exact q _ H (Same.refl _) (.bl _)⟩
def kIn : D → D → Option Bool
  | d, .list ds => if SeqAt.shaped d = true ∧ SeqAt.shaped (.list ds) = true then some (ds.any fun z => PyData.eqv z d) else none
  | _, _ => none
def kNotIn : D → D → Option Bool
  | d, .list ds => if SeqAt.shaped d = true ∧ SeqAt.shaped (.list ds) = true then some (!ds.any fun z => PyData.eqv z d) else none
  | _, _ => none
theorem o_in (hu : X.A.units + 200 < cLine) : OpR X (compareOp .In) (rD2 X.K (kB kIn)) := by
  intro pins s σ H x y v u Q I rx ry ⟨O, σ', ρ, a, b, d, e, z, r, ea, eb, hd, he, hz, q⟩
  obtain ⟨c, hk, rfl⟩ := kB_some hz
  unfold kIn at hk
  split at hk
  · rename_i ds
    split at hk
    · rename_i hs
      cases hk
      exact op_inD (by omega) pins s σ H _ _ v u Q I rx ry ⟨d, ds, ea.dp r hd, eb.dp r he, hs.1, hs.2, q _ H (Same.refl _) (.bl _)⟩
    · cases hk
  · cases hk
theorem o_notin (hu : X.A.units + 200 < cLine) : OpR X (compareOp .NotIn) (rD2 X.K (kB kNotIn)) := by
  intro pins s σ H x y v u Q I rx ry ⟨O, σ', ρ, a, b, d, e, z, r, ea, eb, hd, he, hz, q⟩
  obtain ⟨c, hk, rfl⟩ := kB_some hz
  unfold kNotIn at hk
  split at hk
  · rename_i ds
    split at hk
    · rename_i hs
      cases hk
      exact op_notInD (by omega) pins s σ H _ _ v u Q I rx ry ⟨d, ds, ea.dp r hd, eb.dp r he, hs.1, hs.2, q _ H (Same.refl _) (.bl _)⟩
    · cases hk
  · cases hk

/-! ### subscripts -/
def kIx : D → D → Option D
  | .list ds, .int i => atI ds i
  | .tuple ds, .int i => atI ds i
  | .str z, .int i => if z.length ≤ sizeLine then (atI z.cps.toList i).map fun c => .str ⟨#[c]⟩ else none
  | _, _ => none
theorem atI_dp {K : Frg} {G : Hp} {vs : List V} {ds : List D} {i : Int} {d : D} (a : DpAll K G vs ds) (h : atI ds i = some d) : ∃ v, atI vs i = some v ∧ Dp K G v d := by
  unfold atI at h ⊢
  rw [DL.DpAll.length a]
  cases q : ixN ds.length i with
  | none => rw [q] at h; cases h
  | some j =>
    rw [q] at h
    exact DL.DpAll.at a h
theorem i_ix : IxR X (rD2 X.K kIx) := by
  intro value slice pins s σ H x y v u Q I rx ry ⟨O, σ', ρ, a, b, d, e, z, r, ea, eb, hd, he, hk, q⟩ hs
  unfold kIx at hk
  split at hk
  · rename_i ds i
    obtain ⟨p, vs, rfl, s1, a1⟩ := RelE.lst ea r hd
    cases RelE.int eb r he
    obtain ⟨w, h1, h2⟩ := atI_dp a1 hk
    exact ix_list value slice pins s σ H _ _ v u Q I rx ry ⟨p, vs, i, w, rfl, rfl, s1, h1, q _ H (Same.refl _) h2⟩ hs
  · rename_i ds i
    obtain ⟨p, vs, rfl, s1, a1⟩ := RelE.tup ea r hd
    cases RelE.int eb r he
    obtain ⟨w, h1, h2⟩ := atI_dp a1 hk
    exact ix_tup value slice pins s σ H _ _ v u Q I rx ry ⟨p, vs, i, w, rfl, rfl, SqT.mono Gv_sub s1, h1, q _ H (Same.refl _) h2⟩ hs
  · rename_i z' i
    split at hk
    · rename_i hz
      cases RelE.str ea r hd
      cases RelE.int eb r he
      cases hc : atI z'.cps.toList i with
      | none => rw [hc] at hk; cases hk
      | some c =>
        rw [hc] at hk
        cases hk
        exact ix_str value slice pins s σ H _ _ v u Q I rx ry ⟨z', i, c, rfl, rfl, hz, hc, q _ H (Same.refl _) (.str _)⟩ hs
    · cases hk
  · cases hk

/-! ### slices -/
def cutD (xs : List D) (lo hi : Option Int) : List D := (xs.drop (HT.sIx xs.length 0 lo)).take (HT.sIx xs.length xs.length hi - HT.sIx xs.length 0 lo)
theorem cut_dp {K : Frg} {G : Hp} {vs : List V} {ds : List D} (a : DpAll K G vs ds) (lo hi : Option Int) : DpAll K G (cutV vs lo hi) (cutD ds lo hi) := by
  unfold cutV cutD
  rw [DL.DpAll.length a]
  exact DL.DpAll.take _ (DL.DpAll.drop _ a)
end
section
variable {X : Cx} {W : WX}
/-- a slice's part -/
def tDP (K : Frg) (mg : Mg) (W : WX) (f : DEnv → Res (Option Int)) : TO := fun σ H Q => ∃ O ρ, RelEnv K O σ H ρ ∧ Sat K mg O σ ρ H W (fun _ _ u a => u = a) Q (f ρ)
structure DP (X : Cx) (W : WX) (e : Option Expr) (f : DEnv → Res (Option Int)) : Prop where
  po : PO X e (tDP X.K X.mg W f)
theorem po_imp {X : Cx} {e : Option Expr} {t t' : TO} (h : PO X e t) (i : ∀ σ H Q, t' σ H Q → t σ H Q) : PO X e t' := ⟨fun pins s σ H Q I q => h.run pins s σ H Q I (i _ _ _ q)⟩
def pNo : DEnv → Res (Option Int) := fun ρ => .ok none ρ
def pSome (f : DX) : DEnv → Res (Option Int) := fun ρ => bindR (f ρ) fun v ρ1 => match deref ρ1 v with
  | some (.int i) => .ok (some i) ρ1
  | _ => .bad
theorem dp_no : DP X W none pNo := ⟨po_imp po_none fun σ H Q ⟨O, ρ, r, s⟩ => s none H .refl r rfl⟩
theorem dp_some {e : Expr} {f : DX} (h : DE X W e f) : DP X W (some e) (pSome f) := by
  refine ⟨po_imp (po_some h.pe) fun σ H Q ⟨O, ρ, r, s⟩ => ⟨O, ρ, r, (Sat.bind s).imp fun u H1 ⟨v, ρ1, r1, e1, s1⟩ => ?_⟩⟩
  try dsimp only at s1
  split at s1
  · rename_i i hd
    exact ⟨i, RelE.int e1 r1 hd, s1 _ H1 .refl r1 rfl⟩
  · exact s1.elim
/-- x[lo:hi] as data: of a tuple or a text -/
def kCut (d : D) (lo hi : Option Int) : Option D := match d with
  | .tuple ds => some (.tuple (cutD ds lo hi))
  | .str z => if z.length ≤ sizeLine then some (.str (cutS z lo hi)) else none
  | _ => none
def xCut (fa : DX) (fl fh : DEnv → Res (Option Int)) : DX := fun ρ => bindR (fa ρ) fun a ρ1 => bindR (fl ρ1) fun lo ρ2 => bindR (fh ρ2) fun hi ρ3 => optR (deref ρ3 a) fun d => optR (kCut d lo hi) fun z => .ok (.val z) ρ3
def xCutL (fa : DX) (fl fh : DEnv → Res (Option Int)) : DEnv → Res Cell := fun ρ => bindR (fa ρ) fun a ρ1 => bindR (fl ρ1) fun lo ρ2 => bindR (fh ρ2) fun hi ρ3 => match deref ρ3 a with
  | some (.list ds) => .ok (.lst (cutD ds lo hi)) ρ3
  | _ => .bad
def rCutD (K : Frg) : V → Option Int → Option Int → Hp → VK → Prop := fun x lo hi H Q => ∃ O σ ρ a d z, RelEnv K O σ H ρ ∧ RelE K O σ ρ H x a ∧ deref ρ a = some d ∧ kCut d lo hi = some z ∧ ∀ u H', Same H H' → Dp K (Gv O σ ρ H') u z → Q u H'
theorem sl_data : SlR X (rCutD X.K) := by
  intro pins s σ H x v vl vu lo hi sl Q I rx hs pl pu ⟨O, σ', ρ, a, d, z, r, ea, hd, hk, q⟩
  unfold kCut at hk
  split at hk
  · rename_i ds
    cases hk
    obtain ⟨p, vs, rfl, s1, a1⟩ := RelE.tup ea r hd
    refine sl_tupA pins s σ H _ v vl vu lo hi sl Q I rx hs pl pu ⟨p, vs, rfl, SqT.mono Gv_sub s1, ?_, ?_⟩
    · intro hw
      have e : cutD ds lo hi = ds := by
        have hl := DL.DpAll.length a1
        unfold cutD
        rw [← hl, hw.1, hw.2, List.drop_zero, hl, Nat.sub_zero, List.take_length]
      exact q _ H (Same.refl _) (by rw [e]; exact .tup s1 a1)
    · intro hw p2 hp
      obtain ⟨m1, m2⟩ := dp_new r hp (cut_dp a1 lo hi)
      exact q _ _ m1 m2
  · rename_i z'
    split at hk
    · rename_i hz
      cases hk
      cases RelE.str ea r hd
      exact sl_str pins s σ H _ v vl vu lo hi sl Q I rx hs pl pu ⟨z', rfl, hz, q _ H (Same.refl _) (.str _)⟩
    · cases hk
  · cases hk
theorem de_cut {e : Expr} {lo hi : Option Expr} {p2 pos : Pos} {fa : DX} {fl fh : DEnv → Res (Option Int)} (ha : DE X W e fa) (hl : DP X W lo fl) (hh : DP X W hi fh) : DE X W (.Subscript e (.Slice lo hi none p2) pos) (xCut fa fl fh) := by
  refine ⟨pe_imp (pe_slice sl_data ha.pe hl.po hh.po) fun σ H Q ⟨O, ρ, r, s⟩ => ⟨O, ρ, r, (Sat.bind s).imp fun u H1 ⟨v, ρ1, r1, e1, s1⟩ => ⟨O, ρ1, r1, ?_⟩⟩⟩
  try dsimp only at s1
  cases q : fl ρ1 with
  | err x ρ2 => rw [q] at s1; exact s1
  | bad => rw [q] at s1; exact s1
  | ok lo ρ2 =>
    rw [q] at s1
    rintro _ H2 st2 r2 rfl
    have s2 := Sat.shift s1 st2
    refine ⟨O, ρ2, r2, ?_⟩
    dsimp only [bindR] at s2
    cases q3 : fh ρ2 with
    | err x ρ3 => rw [q3] at s2; exact s2
    | bad => rw [q3] at s2; exact s2
    | ok hi ρ3 =>
      rw [q3] at s2
      rintro _ H3 st3 r3 rfl
      have s3 := Sat.shift s2 st3
      obtain ⟨d, hd, s4⟩ := optR_sat s3
      obtain ⟨z, hz, s5⟩ := optR_sat s4
      exact ⟨O, σ, ρ3, v, d, z, r3, (RelE.mono e1 st2).mono st3, hd, hz, fun u' H' sm q' => s5 u' H' (.same sm) (r3.same sm) q'⟩
theorem dl_cut {e : Expr} {lo hi : Option Expr} {p2 pos : Pos} {fa : DX} {fl fh : DEnv → Res (Option Int)} (ha : DE X W e fa) (hl : DP X W lo fl) (hh : DP X W hi fh) : DLs X W (.Subscript e (.Slice lo hi none p2) pos) (xCutL fa fl fh) := by
  refine ⟨pe_imp (pe_slice sl_list ha.pe hl.po hh.po) fun σ H Q ⟨O, ρ, r, s⟩ => ⟨O, ρ, r, (SatL.bind s).imp fun u H1 ⟨v, ρ1, r1, e1, st1, s1⟩ => ⟨O, ρ1, r1, ?_⟩⟩⟩
  try dsimp only at s1
  cases q : fl ρ1 with
  | err x ρ2 => rw [q] at s1; exact s1
  | bad => rw [q] at s1; exact s1
  | ok lo ρ2 =>
    rw [q] at s1
    rintro _ H2 st2 r2 rfl
    have s2 := SatL.shift s1 st2 st2.none
    refine ⟨O, ρ2, r2, ?_⟩
    dsimp only [bindR] at s2
    cases q3 : fh ρ2 with
    | err x ρ3 => rw [q3] at s2; exact s2
    | bad => rw [q3] at s2; exact s2
    | ok hi ρ3 =>
      rw [q3] at s2
      rintro _ H3 st3 r3 rfl
      have s3 := SatL.shift s2 st3 st3.none
      dsimp only at s3
      split at s3
      · rename_i ds hd
        obtain ⟨p, vs, rfl, sq, a1⟩ := RelE.lst ((RelE.mono e1 st2).mono st3) r3 hd
        exact ⟨p, vs, rfl, sq, fun p2 hp => s3 p2 _ (.same (same_upd hp)) hp (.mk' r3 hp (cut_dp a1 _ _))⟩
      · exact s3.elim
end
end DL

namespace DL
open L2 PySem PySem.Spec PyProof.Rows
open PySem.W (AlikeAll minD maxD minD_ints maxD_ints min_list_data min_tuple_data max_list_data max_tuple_data)

def intsOf : List D → Option (List Int)
  | [] => some []
  | .int i :: ds => (intsOf ds).map (i :: ·)
  | _ :: _ => none
theorem intsOf_eq : ∀ {ds : List D} {ns : List Int}, intsOf ds = some ns → ds = ns.map PyData.int
  | [], _, h => by cases h; rfl
  | .int i :: ds, ns, h => by
    rw [intsOf] at h
    cases q : intsOf ds with
    | none => rw [q] at h; cases h
    | some ms => rw [q] at h; cases h; rw [intsOf_eq q]; rfl
  | .none :: ds, ns, h => by cases h
  | .bool _ :: ds, ns, h => by cases h
  | .str _ :: ds, ns, h => by cases h
  | .list _ :: ds, ns, h => by cases h
  | .tuple _ :: ds, ns, h => by cases h
  | .dict _ :: ds, ns, h => by cases h
@[simp] theorem intsOf_map (ns : List Int) : intsOf (ns.map PyData.int) = some ns := by
  induction ns with
  | nil => rfl
  | cons n ns ih => show (intsOf (ns.map PyData.int)).map (n :: ·) = _; rw [ih]; rfl
section
variable {X : Cx}
/-- one argument -/
theorem one_arg {K : Frg} {O : Addr → Prop} {σ : L2.St} {ρ : DEnv} {H : Hp} {xs : List V} {vs : List EV} {d : D} (r : RelEnv K O σ H ρ) (e : RelEs K O σ ρ H xs vs) (hd : derefs ρ vs = some [d]) : ∃ u a, xs = [u] ∧ RelE K O σ ρ H u a ∧ deref ρ a = some d := by
  match xs, vs, e with
  | [], [], _ => cases hd
  | [u], [a], e =>
    refine ⟨u, a, rfl, e.1, ?_⟩
    unfold derefs at hd
    split at hd
    · rename_i d' q
      cases hd
      exact q
    · cases hd
  | u :: v :: us, a :: b :: as, e =>
    unfold derefs at hd
    split at hd
    · split at hd
      · rename_i ds q
        cases hd
        unfold derefs at q
        split at q
        · split at q
          · cases q
          · cases q
        · cases q
      · cases hd
    · cases hd
def kLen : List D → Option D
  | [.list ds] => some (.int ds.length)
  | [.tuple ds] => some (.int ds.length)
  | [.str z] => if z.length ≤ sizeLine then some (.int z.length) else none
  | _ => none
theorem c_len : CallR X (.builtin "len") (rDn X.K kLen) := by
  intro pins s σ H xs us Q I rs ⟨O, σ', ρ, vs, ds, z, r, e, hd, hk, q⟩
  unfold kLen at hk
  split at hk
  · cases hk
    obtain ⟨u, a, rfl, ea, hda⟩ := one_arg r e hd
    obtain ⟨p, ws, rfl, s1, a1⟩ := RelE.lst ea r hda
    exact call_len pins s σ H _ us Q I rs ⟨_, ws.length, rfl, .inl ⟨ws, s1, rfl⟩, q _ H (Same.refl _) (by rw [DL.DpAll.length a1]; exact .int _)⟩
  · cases hk
    obtain ⟨u, a, rfl, ea, hda⟩ := one_arg r e hd
    obtain ⟨p, ws, rfl, s1, a1⟩ := RelE.tup ea r hda
    exact call_len pins s σ H _ us Q I rs ⟨_, ws.length, rfl, .inr ⟨ws, SqT.mono Gv_sub s1, rfl⟩, q _ H (Same.refl _) (by rw [DL.DpAll.length a1]; exact .int _)⟩
  · split at hk
    · rename_i hz
      cases hk
      obtain ⟨u, a, rfl, ea, hda⟩ := one_arg r e hd
      cases RelE.str ea r hda
      exact call_len pins s σ H _ us Q I rs ⟨_, _, rfl, ⟨hz, rfl⟩, q _ H (Same.refl _) (.int _)⟩
    · cases hk
  · cases hk
def kInt : List D → Option D
  | [.int i] => some (.int i)
  | [.bool b] => some (.int (if b then 1 else 0))
  | _ => none
theorem c_int : CallR X (.type "int") (rDn X.K kInt) := by
  intro pins s σ H xs us Q I rs ⟨O, σ', ρ, vs, ds, z, r, e, hd, hk, q⟩
  unfold kInt at hk
  split at hk
  · cases hk
    obtain ⟨u, a, rfl, ea, hda⟩ := one_arg r e hd
    cases RelE.int ea r hda
    exact call_int1 pins s σ H _ us Q I rs (.inl ⟨_, rfl, q _ H (Same.refl _) (.int _)⟩)
  · cases hk
    obtain ⟨u, a, rfl, ea, hda⟩ := one_arg r e hd
    cases RelE.bl ea r hda
    exact call_int1 pins s σ H _ us Q I rs (.inr ⟨_, rfl, q _ H (Same.refl _) (.int _)⟩)
  · cases hk
def kAbs : List D → Option D
  | [.int i] => some (.int (if i < 0 then -i else i))
  | _ => none
theorem c_abs : CallR X (.builtin "abs") (rDn X.K kAbs) := by
  intro pins s σ H xs us Q I rs ⟨O, σ', ρ, vs, ds, z, r, e, hd, hk, q⟩
  unfold kAbs at hk
  split at hk
  · cases hk
    obtain ⟨u, a, rfl, ea, hda⟩ := one_arg r e hd
    cases RelE.int ea r hda
    exact call_abs pins s σ H _ us Q I rs ⟨_, rfl, q _ H (Same.refl _) (.int _)⟩
  · cases hk

/-- a sequence as it stands in the heap -/
theorem seq_at {pins : List (Addr × Obj)} {s : Shared} {σ : L2.St} {H : Hp} {O : Addr → Prop} {σ' : L2.St} {ρ : DEnv} {u : V} {v : Value} {a : EV} {d : D} {ds : List D} (I : Inv X pins σ H s) (r : RelEnv X.K O σ' H ρ) (ea : RelE X.K O σ' ρ H u a) (hd : deref ρ a = some d) (hi : itemsD d = some ds) (rv : RelV u v) :
    ∃ (p : Addr) (ws : List V) (its : List Value) (bs : List Addr), u = .ref p ∧ v = .ref p ∧ Vals ws its ∧ DpAll X.K (Gv O σ' ρ H) ws ds ∧ ReadsAll s.heap its ds bs ∧ ws.length ≤ sizeLine ∧ ((d = .list ds ∧ s.heap.IsList p its.toArray ∧ SqL X.K H p ws) ∨ (d = .tuple ds ∧ s.heap.IsTuple p its.toArray ∧ SqT X.K H p ws)) := by
  cases d with
  | list xs =>
    cases hi
    obtain ⟨p, ws, rfl, s1, a1⟩ := RelE.lst ea r hd
    cases rv
    obtain ⟨its, r1, ⟨o, n, h1, h2, h3, h4⟩, z1⟩ := I.list s1
    obtain ⟨bs, hb⟩ := Dp.readsAll I ds ws its (dpAll_mono Gv_sub _ _ a1) r1
    exact ⟨p, ws, its, bs, rfl, rfl, r1, a1, hb, z1, .inl ⟨rfl, ⟨o, h1, h2, n, h4⟩, s1⟩⟩
  | tuple xs =>
    cases hi
    obtain ⟨p, ws, rfl, s1, a1⟩ := RelE.tup ea r hd
    cases rv
    obtain ⟨its, r1, ⟨o, h1, h2, n, h4⟩, z1⟩ := I.tuple (SqT.mono Gv_sub s1)
    obtain ⟨bs, hb⟩ := Dp.readsAll I ds ws its (dpAll_mono Gv_sub _ _ a1) r1
    exact ⟨p, ws, its, bs, rfl, rfl, r1, a1, hb, z1, .inr ⟨rfl, ⟨o, h1, h2, n, h4⟩, SqT.mono Gv_sub s1⟩⟩
  | none => cases hi
  | bool _ => cases hi
  | int _ => cases hi
  | str _ => cases hi
  | dict _ => cases hi
theorem depthInts : ∀ (ns : List Int), PyData.depthAll (ns.map PyData.int) = 0 := by
  intro ns
  induction ns with
  | nil => rfl
  | cons n ns ih => simp [PyData.depthAll, PyData.depth, ih]
theorem alikeInts (ns : List Int) : AlikeAll (ns.map PyData.int) := by
  refine ⟨fun x hx y hy => ?_, fun x hx => ?_⟩
  · obtain ⟨i, _, rfl⟩ := List.mem_map.mp hx
    obtain ⟨j, _, rfl⟩ := List.mem_map.mp hy
    rfl
  · obtain ⟨i, _, rfl⟩ := List.mem_map.mp hx
    exact fun z => nomatch z
def kMin : List D → Option D
  | [d] => match itemsD d with
    | some ds => match intsOf ds with
      | some (n :: ns) => some (.int (ns.foldl min n))
      | _ => none
    | none => none
  | _ => none
def kMax : List D → Option D
  | [d] => match itemsD d with
    | some ds => match intsOf ds with
      | some (n :: ns) => some (.int (ns.foldl max n))
      | _ => none
    | none => none
  | _ => none
theorem c_min (hc : X.calm = true) (hu : X.A.units + 200 < cLine) : CallR X (.builtin "min") (rDn X.K kMin) := by
  intro pins s σ H xs us Q I rs ⟨O, σ', ρ, vs, ds, z, r, e, hd, hk, q⟩
  unfold kMin at hk
  split at hk
  case h_2 => cases hk
  rename_i d
  split at hk
  case h_2 => cases hk
  rename_i l hi
  split at hk
  case h_2 => cases hk
  rename_i n ns hn
  cases hk
  obtain ⟨u, a, rfl, ea, hda⟩ := one_arg r e hd
  obtain ⟨v, rfl, rv⟩ := vals1 rs
  obtain ⟨p, ws, its, bs, rfl, rfl, rw', a1, hb, z1, h⟩ := seq_at I r ea hda hi rv
  have hl := intsOf_eq hn
  subst hl
  have hh := I.ok.hd hc
  have fin : ∀ (i : Nat) (v : Value) (h' : Heap) (tk : Nat) (bs : List Addr), its.toArray[i]? = some v → Reads h' v (minD (.int n) (ns.map .int)) bs → (∀ b o, s.heap.get? b = some o → h'.get? b = some o) → EP X pins σ Q v { s with heap := h', toks := tk } := fun i v h' tk bs hv rd hk => by
    rw [minD_ints] at rd
    cases rd
    exact ⟨.int _, H, I.kept (t' := tk) hk, ⟨_, rfl⟩, q _ H (Same.refl _) (.int _)⟩
  have hdp : X.A.units + 1 + PyData.depthAll (PyData.int n :: ns.map PyData.int) < cLine := by
    have := depthInts (n :: ns)
    rw [List.map_cons] at this
    omega
  rcases h with ⟨rfl, h, _⟩ | ⟨rfl, h, _⟩
  · exact min_list_data hh h hb (alikeInts (n :: ns)) hdp fin
  · exact min_tuple_data hh h hb (alikeInts (n :: ns)) hdp fin
theorem c_max (hc : X.calm = true) (hu : X.A.units + 200 < cLine) : CallR X (.builtin "max") (rDn X.K kMax) := by
  intro pins s σ H xs us Q I rs ⟨O, σ', ρ, vs, ds, z, r, e, hd, hk, q⟩
  unfold kMax at hk
  split at hk
  case h_2 => cases hk
  rename_i d
  split at hk
  case h_2 => cases hk
  rename_i l hi
  split at hk
  case h_2 => cases hk
  rename_i n ns hn
  cases hk
  obtain ⟨u, a, rfl, ea, hda⟩ := one_arg r e hd
  obtain ⟨v, rfl, rv⟩ := vals1 rs
  obtain ⟨p, ws, its, bs, rfl, rfl, rw', a1, hb, z1, h⟩ := seq_at I r ea hda hi rv
  have hl := intsOf_eq hn
  subst hl
  have hh := I.ok.hd hc
  have fin : ∀ (i : Nat) (v : Value) (h' : Heap) (tk : Nat) (bs : List Addr), its.toArray[i]? = some v → Reads h' v (maxD (.int n) (ns.map .int)) bs → (∀ b o, s.heap.get? b = some o → h'.get? b = some o) → EP X pins σ Q v { s with heap := h', toks := tk } := fun i v h' tk bs hv rd hk => by
    rw [maxD_ints] at rd
    cases rd
    exact ⟨.int _, H, I.kept (t' := tk) hk, ⟨_, rfl⟩, q _ H (Same.refl _) (.int _)⟩
  have hdp : X.A.units + 1 + PyData.depthAll (PyData.int n :: ns.map PyData.int) < cLine := by
    have := depthInts (n :: ns)
    rw [List.map_cons] at this
    omega
  rcases h with ⟨rfl, h, _⟩ | ⟨rfl, h, _⟩
  · exact max_list_data hh h hb (alikeInts (n :: ns)) hdp fin
  · exact max_tuple_data hh h hb (alikeInts (n :: ns)) hdp fin
end
end DL

namespace DL
open L2 PySem PySem.Spec PyProof.Rows
section
variable {X : Cx}
def kSum : List D → Option D
  | [d] => match itemsD d with
    | some ds => match intsOf ds with
      | some ns => some (.int ns.sum)
      | none => none
    | none => none
  | _ => none
theorem sum_tup {prog : Program} {w : World} {A : Around} {E : Value → Shared → Prop} {s : Shared} {t : Addr} {its : List Value} {ns : List Int} {Q : Value → Shared → Prop} (hh : A.handled = none) (ht : s.heap.IsTuple t its.toArray) (hi : IntsAre its ns)
    (h : ∀ h' tk t', (∀ b o, s.heap.get? b = some o → h'.get? b = some o) → Q (.int ns.sum t') { s with heap := h', toks := tk }) : wpAny (model prog w) A (call (.builtin "sum") [.ref t]) Q E s := by
  obtain ⟨xs, hx⟩ := hi.allInts.items
  have hn : numsOf (intItems xs).toList = ns := by rw [← hx]; simpa using hi.numsOf
  rw [nums_intItems] at hn
  rw [hx] at ht
  refine PySem.W.ktm_sumG hh ht fun h' tk t' hk => ?_
  have z := h h' tk t' hk
  rw [preSum_eq, List.take_of_length_le (by simp), hn]
  exact z
theorem c_sum (hc : X.calm = true) : CallR X (.builtin "sum") (rDn X.K kSum) := by
  intro pins s σ H xs us Q I rs ⟨O, σ', ρ, vs, ds, z, r, e, hd, hk, q⟩
  unfold kSum at hk
  split at hk
  case h_2 => cases hk
  rename_i d
  split at hk
  case h_2 => cases hk
  rename_i l hi
  split at hk
  case h_2 => cases hk
  rename_i ns hn
  cases hk
  obtain ⟨u, a, rfl, ea, hda⟩ := one_arg r e hd
  obtain ⟨v, rfl, rv⟩ := vals1 rs
  obtain ⟨p, ws, its, bs, rfl, rfl, rw', a1, hb, z1, h⟩ := seq_at I r ea hda hi rv
  have hl := intsOf_eq hn
  subst hl
  have hw := DL.DpAll.ints a1
  subst hw
  have hh := I.ok.hd hc
  rcases h with ⟨rfl, h, _⟩ | ⟨rfl, h, _⟩
  · exact sum_raw hh h rw'.ints fun h' tk t' hk => ⟨.int _, H, I.kept (t' := tk) hk, ⟨_, rfl⟩, q _ H (Same.refl _) (.int _)⟩
  · exact sum_tup hh h rw'.ints fun h' tk t' hk => ⟨.int _, H, I.kept (t' := tk) hk, ⟨_, rfl⟩, q _ H (Same.refl _) (.int _)⟩
/-- the truth of flat items -/
def truF : D → Option Bool
  | .none => some false
  | .bool b => some b
  | .int i => some (i != 0)
  | _ => none
def trusF : List D → Option (List Bool)
  | [] => some []
  | d :: ds => match truF d with
    | some b => (trusF ds).map (b :: ·)
    | none => none
theorem trusF_ok : ∀ {ds : List D} {bs : List Bool}, trusF ds = some bs → PyData.plainAll ds = true ∧ (∀ x ∈ ds, x.fits63) ∧ ds.map PyData.truthy = bs
  | [], bs, h => by cases h; exact ⟨rfl, (fun _ h => nomatch h), rfl⟩
  | d :: ds, bs, h => by
    rw [trusF] at h
    cases hb : truF d with
    | none => rw [hb] at h; cases h
    | some b =>
      rw [hb] at h
      dsimp only at h
      cases hs : trusF ds with
      | none => rw [hs] at h; cases h
      | some cs =>
        rw [hs] at h
        cases h
        obtain ⟨h1, h2, h3⟩ := trusF_ok hs
        cases d with
        | none => cases hb; exact ⟨by simpa [PyData.plainAll, PyData.plain] using h1, fun x hx => (List.mem_cons.mp hx).elim (fun z => by subst z; trivial) (h2 x), by simp [PyData.truthy, h3]⟩
        | bool c => cases hb; exact ⟨by simpa [PyData.plainAll, PyData.plain] using h1, fun x hx => (List.mem_cons.mp hx).elim (fun z => by subst z; trivial) (h2 x), by simp [PyData.truthy, h3]⟩
        | int i => cases hb; exact ⟨by simpa [PyData.plainAll, PyData.plain] using h1, fun x hx => (List.mem_cons.mp hx).elim (fun z => by subst z; trivial) (h2 x), by simp [PyData.truthy, h3]⟩
        | str _ => cases hb
        | list _ => cases hb
        | tuple _ => cases hb
        | dict _ => cases hb
def kAny : List D → Option D
  | [d] => match itemsD d with
    | some ds => (trusF ds).map fun bs => .bool (bs.any id)
    | none => none
  | _ => none
def kAll : List D → Option D
  | [d] => match itemsD d with
    | some ds => (trusF ds).map fun bs => .bool (bs.all id)
    | none => none
  | _ => none
theorem c_any (hc : X.calm = true) : CallR X (.builtin "any") (rDn X.K kAny) := by
  intro pins s σ H xs us Q I rs ⟨O, σ', ρ, vs, ds, z, r, e, hd, hk, q⟩
  unfold kAny at hk
  split at hk
  case h_2 => cases hk
  rename_i d
  split at hk
  case h_2 => cases hk
  rename_i l hi
  cases hn : trusF l with
  | none => rw [hn] at hk; cases hk
  | some bs =>
    rw [hn] at hk
    cases hk
    obtain ⟨u, a, rfl, ea, hda⟩ := one_arg r e hd
    obtain ⟨v, rfl, rv⟩ := vals1 rs
    obtain ⟨p, ws, its, as, rfl, rfl, rw', a1, hb, z1, h⟩ := seq_at I r ea hda hi rv
    obtain ⟨h1, h2, rfl⟩ := trusF_ok hn
    have hh := I.ok.hd hc
    have fin : ∀ (h' : Heap) (tk : Nat), (∀ b o, s.heap.get? b = some o → h'.get? b = some o) → EP X pins σ Q (.bool (l.any PyData.truthy)) { s with heap := h', toks := tk } := fun h' tk hk =>
      ⟨.bl _, H, I.kept (t' := tk) hk, rfl, q _ H (Same.refl _) (by show Dp _ _ _ (.bool ((l.map _).any id)); rw [List.any_map]; exact .bl _)⟩
    rcases h with ⟨rfl, h, _⟩ | ⟨rfl, h, _⟩
    · exact PySem.W.any_list_data hh h hb h1 h2 fin
    · exact PySem.W.any_tuple_data hh h hb h1 h2 fin
theorem c_all (hc : X.calm = true) : CallR X (.builtin "all") (rDn X.K kAll) := by
  intro pins s σ H xs us Q I rs ⟨O, σ', ρ, vs, ds, z, r, e, hd, hk, q⟩
  unfold kAll at hk
  split at hk
  case h_2 => cases hk
  rename_i d
  split at hk
  case h_2 => cases hk
  rename_i l hi
  cases hn : trusF l with
  | none => rw [hn] at hk; cases hk
  | some bs =>
    rw [hn] at hk
    cases hk
    obtain ⟨u, a, rfl, ea, hda⟩ := one_arg r e hd
    obtain ⟨v, rfl, rv⟩ := vals1 rs
    obtain ⟨p, ws, its, as, rfl, rfl, rw', a1, hb, z1, h⟩ := seq_at I r ea hda hi rv
    obtain ⟨h1, h2, rfl⟩ := trusF_ok hn
    have hh := I.ok.hd hc
    have fin : ∀ (h' : Heap) (tk : Nat), (∀ b o, s.heap.get? b = some o → h'.get? b = some o) → EP X pins σ Q (.bool (l.all PyData.truthy)) { s with heap := h', toks := tk } := fun h' tk hk =>
      ⟨.bl _, H, I.kept (t' := tk) hk, rfl, q _ H (Same.refl _) (by show Dp _ _ _ (.bool ((l.map _).all id)); rw [List.all_map]; exact .bl _)⟩
    rcases h with ⟨rfl, h, _⟩ | ⟨rfl, h, _⟩
    · exact PySem.W.all_list_data hh h hb h1 h2 fin
    · exact PySem.W.all_tuple_data hh h hb h1 h2 fin

/-! ### tuple(x), list(x) -/
def kTuple : List D → Option D
  | [.list ds] => some (.tuple ds)
  | [.tuple ds] => some (.tuple ds)
  | _ => none
theorem c_tuple : CallR X (.type "tuple") (rDn X.K kTuple) := by
  intro pins s σ H xs us Q I rs ⟨O, σ', ρ, vs, ds, z, r, e, hd, hk, q⟩
  unfold kTuple at hk
  split at hk
  · cases hk
    obtain ⟨u, a, rfl, ea, hda⟩ := one_arg r e hd
    obtain ⟨p, ws, rfl, s1, a1⟩ := RelE.lst ea r hda
    refine call_tuple_of pins s σ H _ us Q I rs ⟨p, ws, rfl, .inl ⟨s1, fun l hl => ?_⟩⟩
    obtain ⟨m1, m2⟩ := dp_new r hl a1
    exact q _ _ m1 m2
  · cases hk
    obtain ⟨u, a, rfl, ea, hda⟩ := one_arg r e hd
    obtain ⟨p, ws, rfl, s1, a1⟩ := RelE.tup ea r hda
    exact call_tuple_of pins s σ H _ us Q I rs ⟨p, ws, rfl, .inr ⟨SqT.mono Gv_sub s1, q _ H (Same.refl _) (.tup s1 a1)⟩⟩
  · cases hk
def kList : List D → Option (List D)
  | [.list ds] => some ds
  | [.tuple ds] => some ds
  | _ => none
theorem c_list : CallR X (.type "list") (rDnL X.K kList) := by
  intro pins s σ H xs us Q I rs ⟨O, σ', ρ, vs, ds, z, r, e, hd, hk, q⟩
  unfold kList at hk
  split at hk
  · cases hk
    obtain ⟨u, a, rfl, ea, hda⟩ := one_arg r e hd
    obtain ⟨p, ws, rfl, s1, a1⟩ := RelE.lst ea r hda
    exact call_list_of pins s σ H _ us Q I rs ⟨p, ws, rfl, .inl s1, fun l hl => q l ws hl a1⟩
  · cases hk
    obtain ⟨u, a, rfl, ea, hda⟩ := one_arg r e hd
    obtain ⟨p, ws, rfl, s1, a1⟩ := RelE.tup ea r hda
    exact call_list_of pins s σ H _ us Q I rs ⟨p, ws, rfl, .inr (SqT.mono Gv_sub s1), fun l hl => q l ws hl a1⟩
  · cases hk
def kGcd : List D → Option D
  | [.int i, .int j] => some (.int (Nat.gcd i.natAbs j.natAbs : Nat))
  | _ => none
theorem two_args {K : Frg} {O : Addr → Prop} {σ : L2.St} {ρ : DEnv} {H : Hp} {xs : List V} {vs : List EV} {d d2 : D} (r : RelEnv K O σ H ρ) (e : RelEs K O σ ρ H xs vs) (hd : derefs ρ vs = some [d, d2]) : ∃ u a u2 a2, xs = [u, u2] ∧ RelE K O σ ρ H u a ∧ deref ρ a = some d ∧ RelE K O σ ρ H u2 a2 ∧ deref ρ a2 = some d2 := by
  match xs, vs, e with
  | [], [], _ => cases hd
  | u :: us, a :: as, e =>
    unfold derefs at hd
    split at hd
    · rename_i d' q
      split at hd
      · rename_i ds' q2
        cases hd
        obtain ⟨u2, a2, rfl, h1, h2⟩ := one_arg r e.2 q2
        exact ⟨u, a, u2, a2, rfl, e.1, q, h1, h2⟩
      · cases hd
    · cases hd
theorem c_gcd : CallR X (.builtin "math.gcd") (rDn X.K kGcd) := by
  intro pins s σ H xs us Q I rs ⟨O, σ', ρ, vs, ds, z, r, e, hd, hk, q⟩
  unfold kGcd at hk
  split at hk
  · cases hk
    obtain ⟨u, a, u2, a2, rfl, ea, hda, ea2, hda2⟩ := two_args r e hd
    cases RelE.int ea r hda
    cases RelE.int ea2 r hda2
    exact cr_gcd pins s σ H _ us Q I rs ⟨_, _, rfl, q _ H (Same.refl _) (.int _)⟩
  · cases hk

/-! ### repr -/
def kRepr : List D → Option D
  | [d] => if d.showable = true ∧ d.hasDict = false ∧ d.depth ≤ 64 ∧ d.shown.length ≤ sizeLine then some (.str d.shown) else none
  | _ => none
theorem c_repr (hg : X.A.guards = some []) (hu : X.A.units + 200 < cLine) : CallR X (.builtin "repr") (rDn X.K kRepr) := by
  intro pins s σ H xs us Q I rs ⟨O, σ', ρ, vs, ds, z, r, e, hd, hk, q⟩
  unfold kRepr at hk
  split at hk
  case h_2 => cases hk
  rename_i d
  split at hk
  case isFalse => cases hk
  rename_i hz
  cases hk
  obtain ⟨u, a, rfl, ea, hda⟩ := one_arg r e hd
  obtain ⟨v, rfl, rv⟩ := vals1 rs
  have dp := ea.dp r hda
  obtain ⟨as, rd⟩ := Dp.reads I d u v dp rv
  cases d with
  | none => cases dp; cases rv; exact PySem.P.repr_of_none ⟨.str _, H, I.tok _, ⟨_, rfl⟩, q _ H (Same.refl _) (.str _)⟩
  | bool b => cases dp; cases rv; exact PySem.P.repr_of_bool ⟨.str _, H, I.tok _, ⟨_, rfl⟩, q _ H (Same.refl _) (.str _)⟩
  | int i =>
    cases dp
    obtain ⟨t, rfl⟩ := rv
    exact PySem.P.repr_of_int (of_decide_eq_true hz.1) ⟨.str _, H, I.tok _, ⟨_, rfl⟩, q _ H (Same.refl _) (.str _)⟩
  | str x =>
    cases dp
    obtain ⟨t, rfl⟩ := rv
    exact PySem.P.repr_of_str ⟨.str _, H, I.tok _, ⟨_, rfl⟩, q _ H (Same.refl _) (.str _)⟩ hz.2.2.2
  | list l =>
    cases dp with
    | lst s1 a1 =>
      cases rv
      exact repr_of_reads' rd hz.1 (fun h => by rw [hz.2.1] at h; cases h) hg (by have := hz.2.2.1; omega) (fun _ _ e => e) (fun h' u' tk hk => ⟨.str _, H, I.kept (t' := tk) hk, ⟨_, rfl⟩, q _ H (Same.refl _) (.str _)⟩) hz.2.2.2
  | tuple l =>
    cases dp with
    | tup s1 a1 =>
      cases rv
      exact repr_of_reads' rd hz.1 (fun h => by rw [hz.2.1] at h; cases h) hg (by have := hz.2.2.1; omega) (fun _ _ e => e) (fun h' u' tk hk => ⟨.str _, H, I.kept (t' := tk) hk, ⟨_, rfl⟩, q _ H (Same.refl _) (.str _)⟩) hz.2.2.2
  | dict _ => cases dp
variable {W : WX}
/-- f(e, ..), f a module's name of a built-in -/
theorem de_cbg {x : Str} {p pos : Pos} {e : Expr} {es : List Expr} {g : DEnv → Res (List EV)} {id : String} {k : List D → Option D} (hc : CallR X (.builtin id) (rDn X.K k)) (hm : X.mg x = some (.builtin id)) (ha : DA X W (e :: es) g) (hg : Gl X x := by rfl) (hdb : (x == ("__debug__" : Str)) = false := by decide)
    (he : starEach (e :: es) X.env = (false, eval e X.env) :: starEach es X.env := by rfl) (hpl : (backTo pos (starEach es X.env)).any (·.1) = false := by rfl) : DE X W (.Call (.Name x p) (e :: es) [] pos) (xCB k g) :=
  ⟨pe_imp (pe_callBfun hc hg hm ha.pa hdb he hpl) fun _ _ _ h => cb_core h⟩
end
end DL

namespace DL
open L2 PySem PySem.Spec PyProof.Rows

section
variable {K : Frg} {O : Addr → Prop} {σ : L2.St} {ρ : DEnv} {H : Hp}
theorem ow_put {i : Nat} {b : Bool} {c c' : Cell} (e : ρ[i]? = some (some (.own b c))) (x : Addr) : Ow σ (ρ.set i (some (.own b c'))) x ↔ Ow σ ρ x := by
  have hi : i < ρ.length := (List.getElem?_eq_some_iff.mp e).1
  constructor
  · rintro ⟨j, b2, c2, e1, e2⟩
    by_cases hj : i = j
    · subst hj; exact ⟨i, b, c, e, e2⟩
    · rw [List.getElem?_set_ne hj] at e1; exact ⟨j, b2, c2, e1, e2⟩
  · rintro ⟨j, b2, c2, e1, e2⟩
    by_cases hj : i = j
    · subst hj; exact ⟨i, b, c', List.getElem?_set_self hi, e2⟩
    · exact ⟨j, b2, c2, by rw [List.getElem?_set_ne hj]; exact e1, e2⟩
/-- what a name owns is changed in its place; nothing else that stood there is -/
theorem put_gen {i : Nat} {b : Bool} {c c' : Cell} {a : Addr} {H' : Hp} (r : RelEnv K O σ H ρ) (e : ρ[i]? = some (some (.own b c))) (hs : σ[i]? = some (some (.ref a))) (ext : ∀ x o, H x = some o → x ≠ a → H' x = some o) (al : ∀ x, H x ≠ none → H' x ≠ none)
    (hc : CellOk K (Gv O σ (ρ.set i (some (.own b c'))) H') H' a c') :
    RelEnv K O σ H' (ρ.set i (some (.own b c'))) ∧ EStp σ ρ H (ρ.set i (some (.own b c'))) H' := by
  have hi : i < ρ.length := (List.getElem?_eq_some_iff.mp e).1
  have st : EStp σ ρ H (ρ.set i (some (.own b c'))) H' := by
    refine ⟨fun x u h n => ext x u h fun z => n ⟨i, b, c, e, by rw [z]; exact hs⟩, al, fun x h => (ow_put e x).mp h, fun j c2 h => ?_⟩
    by_cases hj : i = j
    · subst hj
      rw [e] at h
      cases h
      exact ⟨c', List.getElem?_set_self hi⟩
    · exact ⟨c2, by rw [List.getElem?_set_ne hj]; exact h⟩
  have gv := st.gv (O := O)
  refine ⟨⟨by rw [List.length_set]; exact r.len, fun x hx => al x (r.oa x hx), fun j d h => ?_, fun j b2 c2 h => ?_, fun j k x b2 c2 b3 c3 h1 h2 h3 h4 => ?_, fun j x h => ?_⟩, st⟩
  · have hj : i ≠ j := by rintro rfl; rw [List.getElem?_set_self hi] at h; cases h
    rw [List.getElem?_set_ne hj] at h
    obtain ⟨v, h1, h2⟩ := r.val j d h
    exact ⟨v, h1, dp_mono gv _ _ h2⟩
  · by_cases hj : i = j
    · subst hj
      rw [List.getElem?_set_self hi] at h
      cases h
      obtain ⟨a', h1, h2, h3⟩ := r.own i b c e
      rw [hs] at h1
      cases h1
      exact ⟨a, hs, h2, hc⟩
    · rw [List.getElem?_set_ne hj] at h
      obtain ⟨a', h1, h2, h3⟩ := r.own j b2 c2 h
      have n : a' ≠ a := fun z => hj (r.inj i j a _ _ _ _ e h hs (by rw [← z]; exact h1))
      exact ⟨a', h1, h2, h3.mono gv fun u q => ext _ _ q n⟩
  · have key : ∀ {m : Nat} {b0 : Bool} {c0 : Cell}, (ρ.set i (some (.own b c')))[m]? = some (some (.own b0 c0)) → ∃ b1 c1, ρ[m]? = some (some (.own b1 c1)) := by
      intro m b0 c0 q
      by_cases hm : i = m
      · subst hm; exact ⟨b, c, e⟩
      · rw [List.getElem?_set_ne hm] at q; exact ⟨b0, c0, q⟩
    obtain ⟨_, _, k1⟩ := key h1
    obtain ⟨_, _, k2⟩ := key h2
    exact r.inj j k x _ _ _ _ k1 k2 h3 h4
  · have hj : i ≠ j := by rintro rfl; rw [List.getElem?_set_self hi] at h; cases h
    rw [List.getElem?_set_ne hj] at h
    exact r.raw j x h
theorem gv_put {i : Nat} {b : Bool} {c c' : Cell} {a : Addr} {o : HO} (e : ρ[i]? = some (some (.own b c))) (hs : σ[i]? = some (some (.ref a))) : ∀ x u, Gv O σ ρ H x = some u → Gv O σ (ρ.set i (some (.own b c'))) (upd H a o) x = some u := fun x u h => by
  obtain ⟨h1, h2, h3⟩ := of_Gv h
  have n : x ≠ a := fun z => h2 ⟨i, b, c, e, by rw [z]; exact hs⟩
  exact Gv_of h1 (fun q => h2 ((ow_put e x).mp q)) (by rw [upd_ne n]; exact h3)
theorem put_own {i : Nat} {b : Bool} {c c' : Cell} {a : Addr} {o : HO} (r : RelEnv K O σ H ρ) (e : ρ[i]? = some (some (.own b c))) (hs : σ[i]? = some (some (.ref a))) (hc : CellOk K (Gv O σ ρ H) (upd H a o) a c') :
    RelEnv K O σ (upd H a o) (ρ.set i (some (.own b c'))) ∧ EStp σ ρ H (ρ.set i (some (.own b c'))) (upd H a o) :=
  put_gen r e hs (fun x u h n => by rw [upd_ne n]; exact h) (fun x hx => by
    by_cases z : x = a
    · rw [z, upd_same]; exact fun z => nomatch z
    · rw [upd_ne z]; exact hx) (hc.mono (gv_put e hs) fun _ q => q)
end

/-! ### methods of a name's own list -/
/-- x.m(e, ..): upd_ tells the new list and the value from the old list and the arguments -/
def xM (i : Nat) (m : List D → List D → Option (D × List D)) (g : DEnv → Res (List EV)) : DX := fun ρ => match ρ[i]? with
  | some (some (.own _ (.lst _))) => bindR (g ρ) fun vs ρ1 => optR (keeps vs ρ1) fun p => match p.2[i]? with
    | some (some (.own b (.lst ds))) => optR (m ds p.1) fun q => .ok (.val q.1) (p.2.set i (some (.own b (.lst q.2))))
    | _ => .bad
  | _ => .bad
/-- what a method of a list is worth -/
def MOk (X : Cx) (id : String) (m : List D → List D → Option (D × List D)) : Prop :=
  ∃ r, MtR X id r ∧ ∀ (G H : Hp) (l : Addr) (xs args : List V) (ds as : List D) (z : D) (ds' : List D) (Q : VK), H l = some (.lst xs) → DpAll X.K G xs ds → DpAll X.K G args as → m ds as = some (z, ds') →
    (∀ u xs', Dp X.K G u z → DpAll X.K G xs' ds' → Q u (upd H l (.lst xs'))) → r (.ref l) args H Q
section
variable {X : Cx} {W : WX} {i : Nat} {e : Expr} {es : List Expr} {o : Expr} {apos cpos : Pos} {name : Str} {id : String} {m : List D → List D → Option (D × List D)}
theorem meth_core {r : V → List V → Hp → VK → Prop} {g : DEnv → Res (List EV)} {σ : L2.St} {H : Hp} {Q : VK} (hm : ∀ (G H : Hp) (l : Addr) (xs args : List V) (ds as : List D) (z : D) (ds' : List D) (Q : VK), H l = some (.lst xs) → DpAll X.K G xs ds → DpAll X.K G args as → m ds as = some (z, ds') →
    (∀ u xs', Dp X.K G u z → DpAll X.K G xs' ds' → Q u (upd H l (.lst xs'))) → r (.ref l) args H Q) (h : tDX X.K X.mg W (xM i m g) σ H Q) : tBM X.K "list" r (tVar i) (tDA X.K X.mg W g) σ H Q := by
  obtain ⟨O, ρ, rr, s⟩ := h
  unfold xM at s
  split at s
  case h_2 => exact s.elim
  rename_i b ds0 e0
  obtain ⟨a, h1, h2, vs0, h3, h4⟩ := rr.own i _ _ e0
  refine ⟨_, h1, .inl ⟨rfl, vs0, SqL.of h3⟩, O, ρ, rr, (Sat.bind s).imp fun us H1 ⟨vs, ρ1, r1, e1, s1⟩ => ?_⟩
  obtain ⟨⟨as, ρ2⟩, hk, s2⟩ := optR_sat s1
  obtain ⟨r2, st2, ha⟩ := keeps_ok r1 e1 hk
  dsimp only at s2
  split at s2
  case h_2 => exact s2.elim
  rename_i b2 ds e2
  obtain ⟨⟨z, ds'⟩, hz, s3⟩ := optR_sat s2
  obtain ⟨a2, k1, k2, xs, k3, k4⟩ := r2.own i _ _ e2
  rw [h1] at k1
  cases k1
  refine hm (Gv O σ ρ2 H1) H1 a xs us ds as z ds' Q k3 k4 ha hz fun u xs' hu hx => ?_
  obtain ⟨r3, st3⟩ := put_own (c' := .lst ds') (o := .lst xs') r2 e2 h1 ⟨xs', upd_same, hx⟩
  exact s3 u _ (st2.trans st3) r3 (dp_mono (gv_put e2 h1) _ _ hu)
theorem de_m (ho : PE X o (tVar i)) (slot : Slot "list" name id) (hty : typeOf (.builtin id) = pure (.type "method_descriptor")) (hm : MOk X id m) {g : DEnv → Res (List EV)} (ha : DA X W (e :: es) g)
    (hbase : attributeBase o name X.env (eval o X.env) = eval o X.env := by rfl)
    (hfew : ((backTo cpos (starEach (e :: es) X.env)).all (fun x => !x.1) && (backToKw cpos (keywordEach [] X.env)).all (fun x => x.1.isSome)
      && decide ((e :: es).length + ([] : List Keyword).length + (if ([] : List Keyword).isEmpty then 0 else 1) < 30)) = true := by rfl)
    (hline : (apos.endLine == cpos.line) = true := by rfl) (hs : starEach (e :: es) X.env = (false, eval e X.env) :: starEach es X.env := by rfl) (hplain : (backTo cpos (starEach es X.env)).any (·.1) = false := by rfl) :
    DE X W (.Call (.Attribute o name apos) (e :: es) [] cpos) (xM i m g) := by
  obtain ⟨r, h1, h2⟩ := hm
  exact ⟨pe_imp (pe_bm PySem.F.plainAttrs_list slot hty h1 ho ha.pa hbase hfew hline hs hplain) fun _ _ _ h => meth_core h2 h⟩
theorem de_m0 (ho : PE X o (tVar i)) (slot : Slot "list" name id) (hty : typeOf (.builtin id) = pure (.type "method_descriptor")) (hm : MOk X id m)
    (hbase : attributeBase o name X.env (eval o X.env) = eval o X.env := by rfl) (hline : (apos.endLine == cpos.line) = true := by rfl) : DE X W (.Call (.Attribute o name apos) [] [] cpos) (xM i m aNil) := by
  obtain ⟨r, h1, h2⟩ := hm
  refine ⟨pe_imp (pe_bm0 PySem.F.plainAttrs_list slot hty h1 ho hbase hline) fun σ H Q h => ?_⟩
  obtain ⟨v, k1, k2, O, ρ, r1, s⟩ := meth_core h2 h
  exact ⟨v, k1, k2, s [] H .refl r1 trivial⟩

/-! ### the methods -/
def mAppend : List D → List D → Option (D × List D) := fun ds as => match as with
  | [d] => if ds.length < sizeLine then some (.none, ds ++ [d]) else none
  | _ => none
theorem m_append : MOk X "list.append" mAppend := by
  refine ⟨rAppend, mt_append, fun G H l xs args ds as z ds' Q hl hx ha hz q => ?_⟩
  unfold mAppend at hz
  split at hz
  · rename_i d
    split at hz
    · rename_i hlen
      cases hz
      cases ha with
      | cons h1 h2 =>
        cases h2
        exact ⟨l, xs, _, rfl, rfl, hl, by rw [DL.DpAll.length hx]; exact hlen, q _ _ .non (DL.DpAll.append hx (.cons h1 .nil))⟩
    · cases hz
  · cases hz
def mPop : List D → List D → Option (D × List D) := fun ds as => match as with
  | [] => match ds.getLast? with
    | some d => some (d, ds.dropLast)
    | none => none
  | _ => none
theorem DpAll.dropLast {K : Frg} {G : Hp} {vs : List V} {ds : List D} (a : DpAll K G vs ds) : DpAll K G vs.dropLast ds.dropLast := by
  rw [List.dropLast_eq_take, List.dropLast_eq_take, DL.DpAll.length a]
  exact DL.DpAll.take _ a
theorem m_pop : MOk X "list.pop" mPop := by
  refine ⟨rPop, mt_pop, fun G H l xs args ds as z ds' Q hl hx ha hz q => ?_⟩
  unfold mPop at hz
  split at hz
  · split at hz
    · rename_i d hd
      cases hz
      cases ha
      rw [List.getLast?_eq_getElem?] at hd
      obtain ⟨v, h1, h2⟩ := DL.DpAll.at hx hd
      exact ⟨l, xs, v, rfl, rfl, hl, by rw [DL.DpAll.length hx]; exact h1, q _ _ h2 (DpAll.dropLast hx)⟩
    · cases hz
  · cases hz
def mReverse : List D → List D → Option (D × List D) := fun ds as => match as with
  | [] => some (.none, ds.reverse)
  | _ => none
theorem m_reverse : MOk X "list.reverse" mReverse := by
  refine ⟨rReverse, mt_reverse, fun G H l xs args ds as z ds' Q hl hx ha hz q => ?_⟩
  unfold mReverse at hz
  split at hz
  · cases hz
    cases ha
    exact ⟨l, xs, rfl, rfl, hl, q _ _ .non (DL.DpAll.reverse hx)⟩
  · cases hz
end

/-! ### x.extend(a new list), x[i] = e -/
def gExtend (i : Nat) (f : DEnv → Res Cell) : DSt := fun ρ => match ρ[i]? with
  | some (some (.own _ (.lst _))) => bindF (f ρ) fun c ρ1 => match c, ρ1[i]? with
    | .lst es, some (some (.own b (.lst ds))) => if ds.length + es.length ≤ sizeLine then .nx (ρ1.set i (some (.own b (.lst (ds ++ es))))) else .bad
    | _, _ => .bad
  | _ => .bad
section
variable {X : Cx} {W : WX} {i : Nat} {e : Expr} {o : Expr} {apos cpos pos : Pos}
theorem ds_extend {f : DEnv → Res Cell} (ho : PE X o (tVar i)) (he : DLs X W e f) (hs0 : swapsWith (.Call (.Attribute o "extend" apos) [e] [] cpos) none pos.line X.env = pure false := by rfl)
    (hbase : attributeBase o "extend" X.env (eval o X.env) = eval o X.env := by rfl)
    (hfew : ((backTo cpos (starEach [e] X.env)).all (fun x => !x.1) && (backToKw cpos (keywordEach [] X.env)).all (fun x => x.1.isSome)
      && decide ([e].length + ([] : List Keyword).length + (if ([] : List Keyword).isEmpty then 0 else 1) < 30)) = true := by rfl)
    (hline : (apos.endLine == cpos.line) = true := by rfl) (hs : starEach [e] X.env = (false, eval e X.env) :: starEach [] X.env := by rfl) (hplain : (backTo cpos (starEach [] X.env)).any (·.1) = false := by rfl) :
    DS X W (.Expr (.Call (.Attribute o "extend" apos) [e] [] cpos) pos) (gExtend i f) := by
  have hp := pe_bm (X := X) PySem.F.plainAttrs_list PySem.F.slot_list_extend PySem.F.type_list_extend mt_extend ho (pa_cons he.pe pa_nil hs) hbase hfew hline hs hplain
  refine ⟨ps_imp (ps_expr hp hs0) fun E σ H ⟨O, ρ, rr, s⟩ => ?_⟩
  unfold gExtend at s
  split at s
  case h_2 => exact s.elim
  rename_i b ds0 e0
  obtain ⟨a, h1, h2, vs0, h3, h4⟩ := rr.own i _ _ e0
  refine ⟨_, h1, .inl ⟨rfl, vs0, SqL.of h3⟩, O, ρ, rr, (SatS.bindL s).imp fun u H1 ⟨c, ρ1, p, hu, n, hp0, st, s1⟩ => ?_⟩
  subst hu
  try dsimp only at s1
  split at s1
  case h_2 => exact s1.elim
  rename_i es b2 ds e2
  split at s1
  case isFalse => exact s1.elim
  rename_i hlen
  obtain ⟨nr, n1, n2, ws, n3, n4⟩ := n
  obtain ⟨a2, k1, k2, xs, k3, k4⟩ := nr.own i _ _ e2
  rw [h1] at k1
  cases k1
  have l1 := DL.DpAll.length k4
  have l2 := DL.DpAll.length n4
  refine ⟨a, p, xs, ws, rfl, rfl, k3, n3, by omega, ?_⟩
  have r1 : RelEnv X.K O σ H1 ρ1 := nr.unhide
  obtain ⟨r3, st3⟩ := put_own (c' := .lst (ds ++ es)) (o := .lst (xs ++ ws)) r1 e2 h1 ⟨_, upd_same, DL.DpAll.append (dpAll_mono gv_hide _ _ k4) (dpAll_mono gv_hide _ _ n4)⟩
  exact s1 σ _ st3.s r3
end
end DL

namespace DL
open L2 PySem PySem.Spec PyProof.Rows

/-! ### defs whose first parameter is a list that they change -/
/-- the list, the other arguments; what comes back and the list behind it -/
abbrev IFn := List D → List D → Option (RV × List D)
def SatIF (K : Frg) (O : Addr → Prop) (a : Addr) (H : Hp) (Q : VK) : Option (RV × List D) → Prop
  | some (.val d, ds') => ∀ u H', (∀ b o, H b = some o → b ≠ a → H' b = some o) → (∀ b, H b ≠ none → H' b ≠ none) → CellOk K (Vis0 (fun b => O b ∨ b = a) H') H' a (.lst ds') → Dp K (Vis0 (fun b => O b ∨ b = a) H') u d → Q u H'
  | some (.own c, ds') => ∀ p H', (∀ b o, H b = some o → b ≠ a → H' b = some o) → (∀ b, H b ≠ none → H' b ≠ none) → H p = none → CellOk K (Vis0 (fun b => (O b ∨ b = a) ∨ b = p) H') H' a (.lst ds') →
      CellOk K (Vis0 (fun b => (O b ∨ b = a) ∨ b = p) H') H' p c → Q (.ref p) H'
  | none => False
def spI (K : Frg) (n : Nat) (F : IFn) : Sp := fun vs H Q _ => vs.length = n ∧ ∃ (O : Addr → Prop) (a : Addr) (us : List V) (ds es : List D), vs = .ref a :: us ∧ ¬ O a ∧ (∀ b, O b → H b ≠ none) ∧ CellOk K (Vis0 (fun b => O b ∨ b = a) H) H a (.lst ds) ∧
  DpAll K (Vis0 (fun b => O b ∨ b = a) H) us es ∧ SatIF K O a H Q (F ds es)

def valsOf : List EV → Option (List D)
  | [] => some []
  | .val d :: vs => match valsOf vs with
    | some ds => some (d :: ds)
    | none => none
  | .bor _ :: _ => none
theorem valsOf_rel {K : Frg} {O : Addr → Prop} {σ : L2.St} {ρ : DEnv} {H : Hp} : ∀ {us : List V} {vs : List EV} {ds : List D}, RelEs K O σ ρ H us vs → valsOf vs = some ds → DpAll K (Gv O σ ρ H) us ds
  | [], [], _, _, e => by cases e; exact .nil
  | u :: us, .val d :: vs, ds, h, e => by
    unfold valsOf at e
    split at e
    · rename_i ds' q
      cases e
      exact .cons h.1 (valsOf_rel h.2 q)
    · cases e
  | u :: us, .bor _ :: vs, ds, h, e => by cases e
  | [], _ :: _, _, h, _ => h.elim
  | _ :: _, [], _, h, _ => h.elim
theorem RelEs.len {K : Frg} {O : Addr → Prop} {σ : L2.St} {ρ : DEnv} {H : Hp} : ∀ {us : List V} {vs : List EV}, RelEs K O σ ρ H us vs → us.length = vs.length
  | [], [], _ => rfl
  | u :: us, v :: vs, h => by simp [RelEs.len h.2]
  | [], _ :: _, h => h.elim
  | _ :: _, [], h => h.elim

def xCallI (F : IFn) (g : DEnv → Res (List EV)) : DX := fun ρ => bindR (g ρ) fun vs ρ1 => match vs with
  | .bor i :: ws => optR (valsOf ws) fun es => match ρ1[i]? with
    | some (some (.own b (.lst ds))) => match F ds es with
      | some (.val d, ds') => .ok (.val d) (ρ1.set i (some (.own b (.lst ds'))))
      | some (.own (.lst l), ds') => .ok (.val (.list l)) (ρ1.set i (some (.own b (.lst ds'))))
      | _ => .bad
    | _ => .bad
  | _ => .bad
def xCallIL (F : IFn) (g : DEnv → Res (List EV)) : DEnv → Res Cell := fun ρ => bindR (g ρ) fun vs ρ1 => match vs with
  | .bor i :: ws => optR (valsOf ws) fun es => match ρ1[i]? with
    | some (some (.own b (.lst ds))) => match F ds es with
      | some (.own c, ds') => .ok c (ρ1.set i (some (.own b (.lst ds'))))
      | _ => .bad
    | _ => .bad
  | _ => .bad
section
variable {K : Frg} {mg : Mg} {O : Addr → Prop} {σ : L2.St} {ρ : DEnv} {H : Hp} {W : WX}
theorem hid_gv {i : Nat} {b : Bool} {c : Cell} {a : Addr} (e : ρ[i]? = some (some (.own b c))) (hs : σ[i]? = some (some (.ref a))) : ∀ x o, Gv O σ ρ H x = some o → Vis0 (fun x => (O x ∨ (Ow σ ρ x ∧ x ≠ a)) ∨ x = a) H x = some o := fun x o h => by
  obtain ⟨h1, h2, h3⟩ := of_Gv h
  exact vis0.mpr ⟨fun z => z.elim (fun z => z.elim h1 fun z => h2 z.1) fun z => h2 ⟨i, b, c, e, by rw [z]; exact hs⟩, h3⟩
theorem gv_hid {i : Nat} {b : Bool} {c c' : Cell} {a : Addr} {H' : Hp} (e : ρ[i]? = some (some (.own b c))) : ∀ x o, Vis0 (fun x => (O x ∨ (Ow σ ρ x ∧ x ≠ a)) ∨ x = a) H' x = some o → Gv O σ (ρ.set i (some (.own b c'))) H' x = some o := fun x o h => by
  obtain ⟨h1, h2⟩ := vis0.mp h
  exact Gv_of (fun z => h1 (.inl (.inl z))) (fun z => h1 (by
    by_cases q : x = a
    · exact .inr q
    · exact .inl (.inr ⟨(ow_put e x).mp z, q⟩))) h2
theorem io_pre {i : Nat} {b : Bool} {ds es : List D} {us : List V} {a : Addr} (r : RelEnv K O σ H ρ) (e : ρ[i]? = some (some (.own b (.lst ds)))) (hs : σ[i]? = some (some (.ref a))) (h2 : DpAll K (Gv O σ ρ H) us es) {F : IFn} {Q : VK} {n : Nat} {E : XK} (hn : us.length + 1 = n)
    (h : SatIF K (fun x => O x ∨ (Ow σ ρ x ∧ x ≠ a)) a H Q (F ds es)) : spI K n F (.ref a :: us) H Q E := by
  obtain ⟨a', k1, k2, k3⟩ := r.own i b _ e
  rw [hs] at k1
  cases k1
  refine ⟨by simpa using hn, _, a, us, ds, es, rfl, fun z => z.elim k2 fun z => z.2 rfl, fun x z => z.elim (r.oa x) fun z => ?_, k3.mono (hid_gv e hs) fun _ q => q, dpAll_mono (hid_gv e hs) _ _ h2, h⟩
  obtain ⟨o, ho⟩ := r.owSome z.1
  rw [ho]; exact fun z => nomatch z
theorem callI_core {n : Nat} {F : IFn} {u0 : V} {us : List V} {i : Nat} {b : Bool} {ws : List EV} {ds es : List D} {Q : VK} {E : XK} (r : RelEnv K O σ H ρ) (hu : σ[i]? = some (some u0)) (e : RelEs K O σ ρ H us ws) (hd : valsOf ws = some es) (hn : us.length + 1 = n) (hi : ρ[i]? = some (some (.own b (.lst ds))))
    (h : Sat K mg O σ ρ H W (fun ρ' H' u a => RelE K O σ ρ' H' u a) Q (match F ds es with
      | some (.val d, ds') => .ok (.val d) (ρ.set i (some (.own b (.lst ds'))))
      | some (.own (.lst l), ds') => .ok (.val (.list l)) (ρ.set i (some (.own b (.lst ds'))))
      | _ => .bad)) : spI K n F (u0 :: us) H Q E := by
  obtain ⟨a, k1, k2, k3⟩ := r.own i b _ hi
  rw [hu] at k1
  cases k1
  refine io_pre r hi hu (valsOf_rel e hd) hn ?_
  cases hF : F ds es with
  | none => rw [hF] at h; exact h.elim
  | some z =>
    obtain ⟨v, ds'⟩ := z
    rw [hF] at h
    cases v with
    | val d =>
      intro u H' ext al hc hdp
      obtain ⟨r', st⟩ := put_gen (c' := .lst ds') r hi hu ext al (hc.mono (gv_hid hi) fun _ q => q)
      exact h u H' st r' (dp_mono (gv_hid hi) _ _ hdp)
    | own c =>
      cases c with
      | dK _ => exact h.elim
      | dT _ => exact h.elim
      | lst l =>
        intro p H' ext al hp hc hc2
        have g2 : ∀ x o, Vis0 (fun b => ((O b ∨ (Ow σ ρ b ∧ b ≠ a)) ∨ b = a) ∨ b = p) H' x = some o → Gv O σ (ρ.set i (some (.own b (.lst ds')))) H' x = some o := fun x o q => gv_hid hi x o (vis0.mpr ⟨fun z => (vis0.mp q).1 (.inl z), (vis0.mp q).2⟩)
        obtain ⟨r', st⟩ := put_gen (c' := .lst ds') r hi hu ext al (hc.mono g2 fun _ q => q)
        obtain ⟨xs, h1, h2⟩ := hc2
        refine h _ H' st r' (L2.Dp.lst (SqL.of (Gv_of (r.fresh hp).1 (fun z => (r.fresh hp).2 ((ow_put hi p).mp z)) h1)) (dpAll_mono g2 _ _ h2))
theorem callI_coreL {n : Nat} {F : IFn} {u0 : V} {us : List V} {i : Nat} {b : Bool} {ws : List EV} {ds es : List D} {Q : VK} {E : XK} (r : RelEnv K O σ H ρ) (hu : σ[i]? = some (some u0)) (e : RelEs K O σ ρ H us ws) (hd : valsOf ws = some es) (hn : us.length + 1 = n) (hi : ρ[i]? = some (some (.own b (.lst ds))))
    (h : SatL K mg O σ ρ H W Q (match F ds es with
      | some (.own c, ds') => .ok c (ρ.set i (some (.own b (.lst ds'))))
      | _ => .bad)) : spI K n F (u0 :: us) H Q E := by
  obtain ⟨a, k1, k2, k3⟩ := r.own i b _ hi
  rw [hu] at k1
  cases k1
  refine io_pre r hi hu (valsOf_rel e hd) hn ?_
  cases hF : F ds es with
  | none => rw [hF] at h; exact h.elim
  | some z =>
    obtain ⟨v, ds'⟩ := z
    rw [hF] at h
    cases v with
    | val d => exact h.elim
    | own c =>
      intro p H' ext al hp hc hc2
      have g2 : ∀ x o, Vis0 (fun b => ((O b ∨ (Ow σ ρ b ∧ b ≠ a)) ∨ b = a) ∨ b = p) H' x = some o → Gv O σ (ρ.set i (some (.own b (.lst ds')))) H' x = some o := fun x o q => gv_hid hi x o (vis0.mpr ⟨fun z => (vis0.mp q).1 (.inl z), (vis0.mp q).2⟩)
      have g3 : ∀ x o, Vis0 (fun b => ((O b ∨ (Ow σ ρ b ∧ b ≠ a)) ∨ b = a) ∨ b = p) H' x = some o → Gv (fun b => O b ∨ b = p) σ (ρ.set i (some (.own b (.lst ds')))) H' x = some o := fun x o q => by
        obtain ⟨q1, q2, q3⟩ := of_Gv (g2 x o q)
        exact Gv_of (fun z => z.elim q1 fun z => (vis0.mp q).1 (.inr z)) q2 q3
      -- the list's new cell, and p hidden
      have rp : RelEnv K (fun b => O b ∨ b = p) σ (upd H p (.lst [])) ρ := r.hidden hp
      have n1 : ∀ x o, upd H p (.lst []) x = some o → x ≠ a → H' x = some o ∨ x = p := fun x o q hx => by
        by_cases z : x = p
        · exact .inr z
        · rw [upd_ne z] at q; exact .inl (ext x o q hx)
      obtain ⟨r', st⟩ := put_gen (c' := .lst ds') r hi hu ext al (hc.mono g2 fun _ q => q)
      refine h p H' st hp ⟨?_, (r.fresh hp).1, fun z => (r.fresh hp).2 ((ow_put hi p).mp z), hc2.mono g3 fun _ q => q⟩
      have gh : ∀ x o, Gv O σ ρ H x = some o → Gv (fun b => O b ∨ b = p) σ (ρ.set i (some (.own b (.lst ds')))) H' x = some o := fun x o q => by
        obtain ⟨q1, q2, q3⟩ := of_Gv (st.gv x o q)
        exact Gv_of (fun z => z.elim q1 (ne_of_none (of_Gv q).2.2 hp)) q2 q3
      have hil : i < ρ.length := (List.getElem?_eq_some_iff.mp hi).1
      refine ⟨r'.len, fun x q => ?_, fun j d q => ?_, fun j b2 c2 q => ?_, r'.inj, r'.raw⟩
      · rcases q with q | q
        · exact r'.oa x q
        · obtain ⟨o, ho⟩ := hc2.some
          rw [q, ho]; exact fun z => nomatch z
      · have hj : i ≠ j := by rintro rfl; rw [List.getElem?_set_self hil] at q; cases q
        rw [List.getElem?_set_ne hj] at q
        obtain ⟨v, h1, h2⟩ := r.val j d q
        exact ⟨v, h1, dp_mono gh _ _ h2⟩
      · by_cases hj : i = j
        · subst hj
          rw [List.getElem?_set_self hil] at q
          cases q
          exact ⟨a, hu, fun z => z.elim k2 (ne_of_none k3.some.choose_spec hp), hc.mono g3 fun _ q => q⟩
        · rw [List.getElem?_set_ne hj] at q
          obtain ⟨a2, h1, h2, h3⟩ := r.own j b2 c2 q
          obtain ⟨o, ho⟩ := h3.some
          have na : a2 ≠ a := fun z => hj (r.inj i j a _ _ _ _ hi q hu (by rw [← z]; exact h1))
          exact ⟨a2, h1, fun z => z.elim h2 (ne_of_none ho hp), h3.mono gh fun u q => ext _ _ q na⟩
end
section
variable {X : Cx} {W : WX} {x : Str} {p pos : Pos} {e : Expr} {es : List Expr} {k n : Nat} {ps : List Str} {F : IFn} {g : DEnv → Res (List EV)}
theorem de_callI (C : FOk X.prog X.w X.K X.mg X.base x k ps (spI X.K n F)) (hr : Room k X.A) (hx : ∀ σ, PassesAt (L2N.CX X.prog X.w) X σ (WE W σ)) (ha : DA X W (e :: es) g) (hl : (e :: es).length = n := by rfl) (hg : Gl X x := by rfl) (hdb : (x == ("__debug__" : Str)) = false := by decide)
    (he : starEach (e :: es) X.env = (false, eval e X.env) :: starEach es X.env := by rfl) (hpl : (backTo pos (starEach es X.env)).any (·.1) = false := by rfl) (hlen : ∀ ρ vs ρ', g ρ = .ok vs ρ' → vs.length = n) :
    DE X W (.Call (.Name x p) (e :: es) [] pos) (xCallI F g) := by
  obtain ⟨f, fd, Fo, hm, hk, hb⟩ := C
  refine ⟨pe_imp (pe_callS (E := WE W) Fo hr hg hm hk hb hx ha.pa hdb he hpl) fun σ H Q ⟨O, ρ, r, s⟩ => ⟨O, ρ, r, ?_⟩⟩
  unfold xCallI at s
  cases q : g ρ with
  | err x ρ1 => rw [q] at s; exact s
  | bad => rw [q] at s; exact s
  | ok vs ρ1 =>
    rw [q, bindR_ok] at s
    intro us H1 st r1 e1
    have s1 := Sat.shift s st
    have hln := hlen _ _ _ q
    have hul := RelEs.len e1
    try dsimp only at s1
    split at s1
    case h_2 => exact s1.elim
    rename_i i ws
    obtain ⟨es', hd, s2⟩ := optR_sat s1
    split at s2
    case h_2 => exact s2.elim
    rename_i b ds hi
    cases us with
    | nil => exact e1.elim
    | cons u0 us => exact callI_core r1 e1.1 e1.2 hd (by simp at hul hln; omega) hi s2
theorem dl_callI (C : FOk X.prog X.w X.K X.mg X.base x k ps (spI X.K n F)) (hr : Room k X.A) (hx : ∀ σ, PassesAt (L2N.CX X.prog X.w) X σ (WE W σ)) (ha : DA X W (e :: es) g) (hl : (e :: es).length = n := by rfl) (hg : Gl X x := by rfl) (hdb : (x == ("__debug__" : Str)) = false := by decide)
    (he : starEach (e :: es) X.env = (false, eval e X.env) :: starEach es X.env := by rfl) (hpl : (backTo pos (starEach es X.env)).any (·.1) = false := by rfl) (hlen : ∀ ρ vs ρ', g ρ = .ok vs ρ' → vs.length = n) :
    DLs X W (.Call (.Name x p) (e :: es) [] pos) (xCallIL F g) := by
  obtain ⟨f, fd, Fo, hm, hk, hb⟩ := C
  refine ⟨pe_imp (pe_callS (E := WE W) Fo hr hg hm hk hb hx ha.pa hdb he hpl) fun σ H Q ⟨O, ρ, r, s⟩ => ⟨O, ρ, r, ?_⟩⟩
  unfold xCallIL at s
  cases q : g ρ with
  | err x ρ1 => rw [q] at s; exact s
  | bad => rw [q] at s; exact s
  | ok vs ρ1 =>
    rw [q, bindR_ok] at s
    intro us H1 st r1 e1
    have s1 := SatL.shift s st st.none
    have hln := hlen _ _ _ q
    have hul := RelEs.len e1
    try dsimp only at s1
    split at s1
    case h_2 => exact s1.elim
    rename_i i ws
    obtain ⟨es', hd, s2⟩ := optR_satL s1
    split at s2
    case h_2 => exact s2.elim
    rename_i b ds hi
    cases us with
    | nil => exact e1.elim
    | cons u0 us => exact callI_coreL r1 e1.1 e1.2 hd (by simp at hul hln; omega) hi s2
end

/-! ### such a def's body -/
def cellAt0 (ρ : DEnv) : Option (List D) := match ρ[(0 : Nat)]? with
  | some (some (SV.own _ (Cell.lst ds))) => some ds
  | _ => none
def startI (m : Nat) (ds es : List D) : DEnv := some (.own true (.lst ds)) :: startD (m - 1) es
def runI (m : Nat) (body : DSt) : IFn := fun ds es => match body (startI m ds es) with
  | .nx ρ => (cellAt0 ρ).map fun l => (.val .none, l)
  | .rt v ρ => (cellAt0 ρ).map fun l => (v, l)
  | _ => none
section
variable {P : Program} {w : World} {K : Frg} {mg : Mg} {base : Heap}
theorem start_cons {N : List Str} {u : V} {us : List V} (h : 0 < N.length) : L2.start N (u :: us) = some u :: L2.start (N.drop 1) us := by
  unfold L2.start
  cases N with
  | nil => simp at h
  | cons y N => simp
theorem startI_rel {O : Addr → Prop} {N : List Str} {a : Addr} {us : List V} {ds es : List D} {H : Hp} (hN : 0 < N.length) (ha : ¬ O a) (ho : ∀ b, O b → H b ≠ none) (hc : CellOk K (Vis0 (fun b => O b ∨ b = a) H) H a (.lst ds)) (h : DpAll K (Vis0 (fun b => O b ∨ b = a) H) us es) :
    RelEnv K O (L2.start N (.ref a :: us)) H (startI N.length ds es) := by
  rw [start_cons hN]
  have r0 : RelEnv K (fun b => O b ∨ b = a) (L2.start (N.drop 1) us) H (startD (N.drop 1).length es) := start_rel (fun b q => q.elim (ho b) fun q => by obtain ⟨o, e⟩ := hc.some; rw [q, e]; exact fun z => nomatch z) h
  have hl : (N.drop 1).length = N.length - 1 := by simp
  rw [hl] at r0
  have only : ∀ (i : Nat) (b : Bool) (c : Cell), (startI N.length ds es)[i]? = some (some (.own b c)) → i = 0 ∧ b = true ∧ c = .lst ds := fun i b c e => by
    cases i with
    | zero => cases e; exact ⟨rfl, rfl, rfl⟩
    | succ i => exact absurd (show (startD (N.length - 1) es)[i]? = some (some (.own b c)) from e) startD_own
  have gv : ∀ x o, Vis0 (fun b => O b ∨ b = a) H x = some o → Gv O (some (.ref a) :: L2.start (N.drop 1) us) (startI N.length ds es) H x = some o := fun x o q => by
    obtain ⟨q1, q2⟩ := vis0.mp q
    refine Gv_of (fun z => q1 (.inl z)) (fun ⟨i, b, c, e1, e2⟩ => ?_) q2
    obtain ⟨rfl, _, _⟩ := only i b c e1
    cases e2
    exact q1 (.inr rfl)
  have gv0 : ∀ x o, Gv (fun b => O b ∨ b = a) (L2.start (N.drop 1) us) (startD (N.length - 1) es) H x = some o → Vis0 (fun b => O b ∨ b = a) H x = some o := fun x o q => vis0.mpr ⟨(of_Gv q).1, (of_Gv q).2.2⟩
  refine ⟨?_, ho, fun i d e => ?_, fun i b c e => ?_, fun i j x b c b' c' e1 e2 _ _ => ?_, fun i x e => ?_⟩
  · have := r0.len
    simp only [startI, List.length_cons, this]
  · cases i with
    | zero => cases e
    | succ i =>
      obtain ⟨v, h1, h2⟩ := r0.val i d e
      exact ⟨v, h1, dp_mono (fun x o q => gv x o (gv0 x o q)) _ _ h2⟩
  · obtain ⟨rfl, rfl, rfl⟩ := only i b c e
    exact ⟨a, rfl, ha, hc.mono gv fun _ q => q⟩
  · rw [(only i b c e1).1, (only j b' c' e2).1]
  · cases i with
    | zero => cases e
    | succ i => exact r0.raw i x e
/-- THE RULE for a def whose first parameter is a list that it changes -/
theorem fn_io {x qual : Str} {st : Stmt} {f : Addr} {fd : FuncData} {N ps : List Str} {k : Nat} {body : DSt} (F : Fun K x qual st f fd) (S : FnScope N ps (defScope st)) (hN : 0 < N.length)
    (hbody : ∀ (cdv : Value) (A : Around) (outer : List Env) (s : Shared) (H : Hp) (E : XK), Room k (A.deeper (envOfC qual (defScope st) s.heap.objs.size f cdv)) →
      L2N.Takes (cxN P w K mg base N qual st f cdv A outer s H E) (fun cls d _ H => E cls d H) → PassesOwn (model P w) (cxN P w K mg base N qual st f cdv A outer s H E).A (cxN P w K mg base N qual st f cdv A outer s H E).env (cxN P w K mg base N qual st f cdv A outer s H E).xe →
      DSs (cxN P w K mg base N qual st f cdv A outer s H E) (fun cls d _ H => E cls d H) (defBody st) body) :
    FnOk P w K mg base (L2N.CX P w) (k + 1) f fd ps (spI K ps.length (runI N.length body)) := by
  obtain ⟨oc, od, kV, doc, pm, an, cdv, ct, osl, rfl, lk, hcd⟩ := F.ex
  refine fn_of lk hcd S (fun vs H Q E h => h.1) fun A outer s H vs Q E hr h => ?_
  obtain ⟨hn, O, a, us, ds, es, rfl, ha, ho, hc, hd, h⟩ := h
  refine ⟨_, (hbody cdv A outer s H E hr (L2N.takes_of rfl rfl rfl rfl) (passes_of rfl)).pss, O, startI N.length ds es, startI_rel hN ha ho hc hd, ?_⟩
  have h0 : (startI N.length ds es)[0]? = some (some (.own true (.lst ds))) := rfl
  have s0 : (L2.start N (.ref a :: us))[0]? = some (some (V.ref a)) := by rw [start_cons hN]; rfl
  have only : ∀ b, Ow (L2.start N (.ref a :: us)) (startI N.length ds es) b → b = a := fun b ⟨i, io, c, e1, e2⟩ => by
    cases i with
    | zero => rw [s0] at e2; cases e2; rfl
    | succ i => exact absurd (show (startD (N.length - 1) es)[i]? = some (some (.own io c)) from e1) startD_own
  have ext : ∀ {σ' : L2.St} {ρ' : DEnv} {H' : Hp}, SStp (L2.start N (.ref a :: us)) (startI N.length ds es) H σ' ρ' H' → ∀ b o, H b = some o → b ≠ a → H' b = some o := fun st b o e n => st.ext b o e fun z => n (only b z)
  have at0 : ∀ {σ' : L2.St} {ρ' : DEnv} {H' : Hp}, SStp (L2.start N (.ref a :: us)) (startI N.length ds es) H σ' ρ' H' → σ'[0]? = some (some (V.ref a)) ∧ ∃ c', ρ'[0]? = some (some (.own true c')) := fun st => by
    obtain ⟨e1, c', e2⟩ := st.io 0 _ h0
    exact ⟨e1.trans s0, c', e2⟩
  have gvs : ∀ {O' : Addr → Prop} {σ' : L2.St} {ρ' : DEnv} {H' : Hp} {c' : Cell}, σ'[0]? = some (some (V.ref a)) → ρ'[0]? = some (some (.own true c')) → ∀ b o, Gv O' σ' ρ' H' b = some o → b ≠ a := fun e1 e2 b o q z => by
    obtain ⟨_, q2, _⟩ := of_Gv q
    exact q2 ⟨0, true, _, e2, by rw [z]; exact e1⟩
  show SatS K mg O (L2.start N (.ref a :: us)) (startI N.length ds es) H _ _ (body (startI N.length ds es))
  change SatIF K O a H Q (match body (startI N.length ds es) with
    | .nx ρ => (cellAt0 ρ).map fun l => (.val .none, l)
    | .rt v ρ => (cellAt0 ρ).map fun l => (v, l)
    | _ => none) at h
  have cell : ∀ {ρ' : DEnv} {c' : Cell} {l : List D}, ρ'[0]? = some (some (.own true c')) → cellAt0 ρ' = some l → c' = .lst l := fun e2 q => by
    unfold cellAt0 at q
    rw [e2] at q
    split at q
    · rename_i z; cases z; cases q; rfl
    · cases q
  cases q : body (startI N.length ds es) with
  | nx ρ' =>
    rw [q] at h
    dsimp only at h
    intro σ' H' st r
    obtain ⟨e1, c', e2⟩ := at0 st
    cases hl : cellAt0 ρ' with
    | none => rw [hl] at h; exact h.elim
    | some l =>
      rw [hl] at h
      obtain rfl := cell e2 hl
      obtain ⟨a', k1, k2, k3⟩ := r.own 0 _ _ e2
      rw [e1] at k1
      cases k1
      exact h .non H' (ext st) st.al (k3.mono (fun b o z => vis0.mpr ⟨fun y => y.elim (of_Gv z).1 (gvs e1 e2 b o z), (of_Gv z).2.2⟩) fun _ z => z) .non
  | rt v ρ' =>
    rw [q] at h
    dsimp only at h
    intro u σ' H' st r
    obtain ⟨e1, c', e2⟩ := at0 st
    cases hl : cellAt0 ρ' with
    | none => rw [hl] at h; exact h.elim
    | some l =>
      rw [hl] at h
      obtain rfl := cell e2 hl
      cases v with
      | val d =>
        obtain ⟨r1, r2⟩ := r
        obtain ⟨a', k1, k2, k3⟩ := r1.own 0 _ _ e2
        rw [e1] at k1
        cases k1
        have g : ∀ b o, Gv O σ' ρ' H' b = some o → Vis0 (fun b => O b ∨ b = a) H' b = some o := fun b o z => vis0.mpr ⟨fun y => y.elim (of_Gv z).1 (gvs e1 e2 b o z), (of_Gv z).2.2⟩
        exact h u H' (ext st) st.al (k3.mono g fun _ z => z) (dp_mono g _ _ r2)
      | own c =>
        obtain ⟨p, rfl, ⟨r1, r2, r3, r4⟩, r5⟩ := r
        obtain ⟨a', k1, k2, k3⟩ := r1.own 0 _ _ e2
        rw [e1] at k1
        cases k1
        have pa : p ≠ a := fun z => k2 (.inr z.symm)
        have g : ∀ b o, Gv (fun b => O b ∨ b = p) σ' ρ' H' b = some o → Vis0 (fun b => (O b ∨ b = a) ∨ b = p) H' b = some o := fun b o z => vis0.mpr ⟨fun y => y.elim (fun y => y.elim (fun y => (of_Gv z).1 (.inl y)) (gvs e1 e2 b o z)) fun y => (of_Gv z).1 (.inr y), (of_Gv z).2.2⟩
        exact h p H' (ext st) st.al (r5.elim (fun z => absurd (only p z) pa) fun z => z) (k3.mono g fun _ z => z) (r4.mono g fun _ z => z)
  | bk ρ' => rw [q] at h; exact h.elim
  | ct ρ' => rw [q] at h; exact h.elim
  | err x ρ' => rw [q] at h; exact h.elim
  | bad => rw [q] at h; exact h.elim
end
end DL

namespace DL
open L2 PySem PySem.Spec PyProof.Rows

/-! ### raise of an own class -/
/-- an own class of exceptions of the text, below ValueError -/
structure Own (K : Frg) (mg : Mg) (x : Str) (C : Addr) : Prop where
  xi : PySem.W.excIn K C [.type "ValueError", .type "Exception", .type "BaseException", .type "object"] "ValueError.__new__" = true
  gC : mg x = some (.ref C)
  kC : PySem.W.keepIn K (.ref C) = true
  s1 : PySem.W.subIn K (.ref C) (.type "BaseException") = some true
  s2 : PySem.W.typeIn K (.ref C) = some (.type "type")
def gRaise (x : Str) : DSt := fun ρ => .err ⟨x, none⟩ ρ
theorem ds_raise {X : Cx} {W : WX} {x m : Str} {C : Addr} {j : Nat} {p p2 pos1 pos : Pos} (c : Own X.K X.mg x C) (hc : X.calm = true) (tk : L2N.Takes X W) (hg : Gl X x := by rfl) (hdb : (x == ("__debug__" : Str)) = false := by decide) :
    DS X W (.Raise (some (.Call (.Name x p) [.Constant (.str m) j p2] [] pos1)) none pos) (gRaise x) := by
  refine ⟨ps_imp (L2N.ps_raise hc tk (L2N.pmk_own PySem.F.excBase_ValueError c.xi c.gC c.kC (raises_own c.s1 c.s2) hg hdb)) fun E σ H ⟨O, ρ, r, s⟩ => ?_⟩
  exact s (.ref C) none σ H .refl r ⟨C, c.gC, rfl, rfl⟩

/-! ### a def that is told a caught exception, called in the suite -/
structure KFn (P : Program) (w : World) (K : Frg) (mg : Mg) (base : Heap) (k : Nat) (f : Addr) (fd : FuncData) (ps : List Str) (C : Addr) (d : PyData) : Prop where
  one : ps.length = 1
  run : ∀ (A : Around) (outer : List Env) (s : Shared) (H : Hp) (args : Args) (us : List Value) (Q : VK) (p : Addr × Obj), L2H.RoomH k A → L2H.Hot1 A p → L2N.Zn (.ref C) none p.2 → L2H.PinOk outer H s p → Env0 P w K mg base A outer s H →
    BindsTo s fd args (ps.zip us) → Vals [V.ref p.1] us → (∀ u H', Same H H' → Dp K H' u d → Q u H') → codeAny (model P w) A (.call (.ref f) args) (CR (L2N.CX P w) outer P w H s Q (fun _ _ _ => False)) s
def startK (m : Nat) (a : Addr) : DEnv := some (.raw a) :: List.replicate (m - 1) none
theorem startK_own {m : Nat} {a : Addr} {i : Nat} {b : Bool} {c : Cell} : (startK m a)[i]? ≠ some (some (.own b c)) := by
  cases i with
  | zero => exact fun z => nomatch z
  | succ i =>
    show (List.replicate (m - 1) none)[i]? ≠ _
    rw [List.getElem?_replicate]
    split
    · exact fun z => nomatch z
    · exact fun z => nomatch z
theorem startK_rel {K : Frg} {N : List Str} {a : Addr} {H : Hp} (hN : 0 < N.length) : RelEnv K (fun _ => False) (L2.start N [V.ref a]) H (startK N.length a) := by
  have e : L2.start N [V.ref a] = some (.ref a) :: List.replicate (N.length - 1) none := rfl
  rw [e]
  refine ⟨by simp [startK], fun _ z => z.elim, fun i d q => ?_, fun i b c q => absurd q startK_own, fun i j x b c b' c' q => absurd q startK_own, fun i x q => ?_⟩
  · cases i with
    | zero => cases q
    | succ i =>
      have q' : (List.replicate (N.length - 1) (none : Option SV))[i]? = some (some (.val d)) := q
      rw [List.getElem?_replicate] at q'
      split at q' <;> cases q'
  · cases i with
    | zero => cases q; rfl
    | succ i =>
      have q' : (List.replicate (N.length - 1) (none : Option SV))[i]? = some (some (.raw x)) := q
      rw [List.getElem?_replicate] at q'
      split at q' <;> cases q'
theorem kfn_of {P : Program} {w : World} {K : Frg} {mg : Mg} {base : Heap} {x qual : Str} {st : Stmt} {f C : Addr} {fd : FuncData} {N ps : List Str} {k : Nat} {body : Addr → DSt} {d : PyData} (F : Fun K x qual st f fd) (S : FnScope N ps (defScope st)) (h1 : ps.length = 1) (hN : 0 < N.length)
    (hbody : ∀ (cdv : Value) (A : Around) (outer : List Env) (s : Shared) (H : Hp) (E : XK) (p : Addr × Obj), L2H.Hot1 A p → L2N.Zn (.ref C) none p.2 → L2H.RoomH k (A.deeper (envOfC qual (defScope st) s.heap.objs.size f cdv)) →
      DSs (L2H.cxH (L2N.CX P w) P w K mg base N qual (defScope st) f cdv A outer s H E p) W0 (defBody st) (body p.1))
    (hres : ∀ a, ∃ ρ', body a (startK N.length a) = .rt (.val d) ρ') : KFn P w K mg base (k + 1) f fd ps C d := by
  obtain ⟨oc, od, kV, doc, pm, an, cdv, ct, osl, rfl, lk, hcd⟩ := F.ex
  refine ⟨h1, fun A outer s H args us Q p hr hot hz hpin e0 hb rv hQ => ?_⟩
  -- a def for this exception alone: its promise speaks of this p
  have KX : K.In s.heap := e0.mod.kin.keeps fun b o e => (e0.bs b o e).1
  have kinds : ∀ y ∈ ps.zip us, (defScope st).names.lookup y.1 = some .local ∨ ((defScope st).names.lookup y.1 = some .cell ∧ ((cellsFrom (s.heap.objs.size + 1) (defScope st).names []).lookup y.1).isSome = true) := by
    rintro ⟨n, v⟩ hy
    exact (S.par n (List.of_mem_zip hy).1).imp (fun q => q) fun q => ⟨q, PySem.W.cellsFrom_some _ _ _ (.inl q)⟩
  refine codeAny_call_function hr.depth (KX _ _ lk) rfl S.co S.gen rfl (PySem.W.codeRec_of KX hcd) (hb _ _ _ _ (wpAny_newFunctionEnv_cells S.kind kinds fun env he s1 x => ?_))
  cases he
  refine ⟨(e0.mod.nolimit.keeps fun b o e => (e0.bs b o e).1).keeps x.toInCall.keep, codeAny_func ?_⟩
  have I := L2H.inv_startH (CX := L2N.CX P w) (E := fun _ _ _ => False) S hpin e0 (show ([V.ref p.1] : List V).length = ps.length from h1.symm) rv x
  have B := hbody cdv A outer s H (fun _ _ _ => False) p hot hz (hr.deeper _)
  obtain ⟨ρ', hb'⟩ := hres p.1
  have fin : ∀ (u : V) (σ' : L2.St) (H' : Hp), SStp (L2.start N [V.ref p.1]) (startK N.length p.1) H σ' ρ' H' → RelR K (fun _ => False) (L2.start N [V.ref p.1]) (startK N.length p.1) H σ' ρ' H' u (.val d) → Q u H' := fun u σ' H' st' r' =>
    hQ u H' (fun b o e => st'.ext b o e fun ⟨i, io, c, e1, _⟩ => startK_own e1) (dp_mono Gv_sub _ _ r'.2)
  have B2 : SatS K mg (fun _ => False) (L2.start N [V.ref p.1]) (startK N.length p.1) H W0 { nx := fun _ H' => Q .non H', rt := Q } (body p.1 (startK N.length p.1)) := by
    rw [hb']
    exact fin
  refine wpAny_mono (B.pss.run [] s1 (L2.start N [V.ref p.1]) H { nx := fun _ H' => Q .non H', rt := Q } I ⟨_, _, startK_rel hN, B2⟩) (fun fl s' hs => ?_) fun e s' hs => hs
  cases fl with
  | ret u => exact let ⟨v, σ', H', J, rv', q⟩ := hs; ⟨v, H', J.os, J.bare, J.base, J.hok, rv', q⟩
  | next => exact let ⟨σ', H', J, q⟩ := hs; ⟨.non, H', J.os, J.bare, J.base, J.hok, (rfl : Value.none = Value.none), q⟩
  | brk => exact let ⟨_, _, _, q⟩ := hs; q.elim
  | cont => exact let ⟨_, _, _, q⟩ := hs; q.elim
/-- isinstance(e, C) of the exception at a, in a context that bears it -/
def xIs (i : Nat) (a : Addr) (b : Bool) : DX := fun ρ => match ρ[i]? with
  | some (some (.raw x)) => if x = a then .ok (.val (.bool b)) ρ else .bad
  | _ => .bad
section
variable {X : Cx} {W : WX} {i : Nat}
theorem call_isP {a C : Addr} {oe : Obj} (hp : (a, oe) ∈ X.pn) (c : ExcC X.K C) (hz : Zc (.ref C) none oe) (hf : ∃ vs, oe.data = .fields vs) : CallR X (.builtin "isinstance") (rIsE X.K C a) := by
  intro pins s σ H xs us Q I r h
  obtain ⟨c', cv, b, rfl, hcv, e, q⟩ := h
  cases r with
  | cons rx rr => cases rr with
    | cons rt rr =>
      cases rr
      cases rx
      cases hcv _ rt
      have J : PySem.W.InstAt s.heap a oe C none := by
        have g := (I.pin (a, oe) (List.mem_append_left _ hp)).1
        obtain ⟨vs, hv⟩ := hf
        cases oe
        obtain ⟨e1, e2⟩ := hz
        cases e1; cases e2; cases hv
        exact ⟨g, rfl, rfl, trivial⟩
      exact PySem.W.kia_one (PySem.W.handS_kitx_exc c.hg c.hk c.hs c.hd c.ha c.hn c.ht c.hm) I.kIn J e (fun z => nomatch z) fun tk => ⟨.bl b, H, I.kept (t' := tk) fun _ _ z => z, rfl, q⟩
theorem de_isE {a C D : Addr} {oe : Obj} {b : Bool} {x y : Str} {p px py pos : Pos} (hp : (a, oe) ∈ X.pn) (c : ExcC X.K C) (hz : Zc (.ref C) none oe) (hf : ∃ vs, oe.data = .fields vs) (hm : X.mg "isinstance" = none) (hb : bootBuiltins "isinstance" = some (.builtin "isinstance")) (hv : PE X (.Name x px) (tVar i)) (gy : X.mg y = some (.ref D))
    (kb : PySem.W.kitOne X.K (.ref C) (.ref D) = some b) (hg : Gl X "isinstance" := by rfl) (hgy : Gl X y := by rfl) (hdy : (y == ("__debug__" : Str)) = false := by decide)
    (hs : starEach [.Name x px, .Name y py] X.env = (false, eval (.Name x px) X.env) :: starEach [.Name y py] X.env := by rfl) (hs2 : starEach [.Name y py] X.env = (false, eval (.Name y py) X.env) :: starEach [] X.env := by rfl) (hpl : (backTo pos (starEach [.Name y py] X.env)).any (·.1) = false := by rfl) :
    DE X W (.Call (.Name "isinstance" p) [.Name x px, .Name y py] [] pos) (xIs i a b) := by
  have hy : PE X (.Name y py) (tC (.ref D)) := pe_glob hgy gy rfl hdy
  have P := pe_callB (p := p) (pos := pos) (call_isP hp c hz hf) hg hm hb (pa_cons hv (pa_cons hy pa_nil hs2) hs) (by decide) (by decide) hs hpl
  refine ⟨pe_imp P fun σ H Q ⟨O, ρ, r, s⟩ => ?_⟩
  unfold xIs at s
  split at s
  case h_2 => exact s.elim
  rename_i x' hx
  split at s
  case isFalse => exact s.elim
  rename_i hxa
  subst hxa
  have hs1 := r.raw i _ hx
  exact ⟨_, hs1, .ref D, .ref D, b, rfl, fun u q => q, kb, s (.bl b) H .refl r (L2.Dp.bl b)⟩

/-! ### the suite: return of something made of the caught exception -/
def xKind (i : Nat) (a : Addr) (d : D) : DX := fun ρ => match ρ[i]? with
  | some (some (.raw x)) => if x = a then .ok (.val d) ρ else .bad
  | _ => .bad
theorem de_kind {x : Str} {f C : Addr} {fd : FuncData} {ps : List Str} {k : Nat} {d : D} {q pos : Pos} {e : Expr} {p : Addr × Obj} (hot : L2H.Hot1 X.A p) (hp : p ∈ X.pn) (hz : L2N.Zn (.ref C) none p.2) (F : KFn X.prog X.w X.K X.mg X.base k f fd ps C d) (hr : L2H.RoomH k X.A)
    (hm : X.mg x = some (.ref f)) (hk : PySem.W.keepIn X.K (.ref f) = true) (hb : Binds X.K fd ps []) (hv : PE X e (tVar i)) (hfl : ∃ v, flat d = some v) (hg : Gl X x := by rfl) (hdb : (x == ("__debug__" : Str)) = false := by decide)
    (he : starEach [e] X.env = (false, eval e X.env) :: starEach [] X.env := by rfl) (hpl : (backTo pos (starEach [] X.env)).any (·.1) = false := by rfl) :
    DE X W (.Call (.Name x q) [e] [] pos) (xKind i p.1 d) := by
  refine ⟨⟨fun pins s σ H Q I ⟨O, ρ, r, st⟩ => ?_⟩⟩
  unfold xKind at st
  split at st
  case h_2 => exact st.elim
  rename_i y hy
  split at st
  case isFalse => exact st.elim
  rename_i hya
  subst hya
  have s1 := r.raw i _ hy
  refine wpAny_Call_Name_kw (ld_glob I hg hm ?_ hdb)
  refine PySem.W.callWith_K (h₀ := X.base) I.ok.mod.kin hk (thn ((pa_cons hv pa_nil he).run pos pins s σ H (fun vs H1 => vs = [V.ref p.1] ∧ H1 = H) I ⟨_, s1, rfl, rfl⟩) fun us s2 ⟨vs, H1, I1, rv, q⟩ => ⟨I1.kIn, ?_⟩) he hpl
  obtain ⟨rfl, rfl⟩ := q
  have hl : us.length = ps.length := by rw [← rv.length, F.one]; rfl
  have b := hb s2 us I1.kIn (by rw [List.append_nil]; exact hl)
  rw [List.append_nil] at b
  have P1 := I1.pin p (List.mem_append_left _ hp)
  refine wpAny_call (codeAny_mono (F.run X.A X.stack s2 H1 ⟨us, []⟩ us Q p hr hot hz ⟨P1.1, P1.2.1, fun hm => (List.mem_cons.mp (I1.stkSub p.1 hm)).elim P1.2.2.1 P1.2.2.2.1, P1.2.2.2.2⟩ I1.env0 b rv fun u H' sm hu => ?_) fun rr s' hq => ?_)
  · obtain ⟨w, hw⟩ := hfl
    exact st u H' (.same sm) (r.same sm) (dp_any hu hw)
  · cases rr with
    | error e => obtain ⟨_, _, _, _, _, _, _, _, _, _, _, _, z⟩ := hq; exact z.elim
    | ok fl =>
      cases fl with
      | ret u => exact I1.after hq
      | next => exact False.elim hq
      | brk => exact False.elim hq
      | cont => exact False.elim hq
end
section
variable {K : Frg} {O : Addr → Prop} {σ : L2.St} {ρ : DEnv} {H : Hp}
theorem set_gen {v : Option V} {x : Option SV} {i : Nat} (r : RelEnv K O σ H ρ) (hio : isIo ρ[i]? = false) (h1 : ∀ io c, x ≠ some (.own io c)) (h2 : ∀ d, x ≠ some (.val d)) (h3 : ∀ a, x = some (.raw a) → v = some (.ref a)) :
    RelEnv K O (σ.set i v) H (ρ.set i x) ∧ SStp σ ρ H (σ.set i v) (ρ.set i x) H := by
  have ow : ∀ b, Ow (σ.set i v) (ρ.set i x) b → Ow σ ρ b := fun b h => ow_setV h1 h
  have st : SStp σ ρ H (σ.set i v) (ρ.set i x) H := ⟨fun _ _ h _ => h, fun _ h => h, fun b h => .inl (ow b h), fun j c h => by
    have hj : i ≠ j := by rintro rfl; rw [h] at hio; cases hio
    rw [List.getElem?_set_ne hj, List.getElem?_set_ne hj]; exact ⟨rfl, c, h⟩⟩
  have nt : ∀ {j : Nat} {y : SV}, (ρ.set i x)[j]? = some (some y) → (j = i ∧ x = some y) ∨ (i ≠ j ∧ ρ[j]? = some (some y)) := fun {j y} e => by
    by_cases hj : i = j
    · subst hj
      have hi : i < ρ.length := by
        have := (List.getElem?_eq_some_iff.mp e).1
        rw [List.length_set] at this; exact this
      rw [List.getElem?_set_self hi] at e
      exact .inl ⟨rfl, Option.some.inj e⟩
    · rw [List.getElem?_set_ne hj] at e
      exact .inr ⟨hj, e⟩
  refine ⟨⟨by rw [List.length_set, List.length_set]; exact r.len, r.oa, fun j d h => ?_, fun j b c h => ?_, fun j k a b c b' c' e1 e2 e3 e4 => ?_, fun j a h => ?_⟩, st⟩
  · rcases nt h with ⟨_, z⟩ | ⟨hj, h⟩
    · exact absurd z (h2 d)
    · obtain ⟨u, k1, k2⟩ := r.val j d h
      exact ⟨u, by rw [List.getElem?_set_ne hj]; exact k1, dp_mono st.gv _ _ k2⟩
  · rcases nt h with ⟨_, z⟩ | ⟨hj, h⟩
    · exact absurd z (h1 b c)
    · obtain ⟨a, k1, k2, k3⟩ := r.own j b c h
      exact ⟨a, by rw [List.getElem?_set_ne hj]; exact k1, k2, k3.mono st.gv fun _ q => q⟩
  · rcases nt e1 with ⟨_, z⟩ | ⟨hj, e1⟩
    · exact absurd z (h1 b c)
    · rcases nt e2 with ⟨_, z⟩ | ⟨hk, e2⟩
      · exact absurd z (h1 b' c')
      · rw [List.getElem?_set_ne hj] at e3
        rw [List.getElem?_set_ne hk] at e4
        exact r.inj j k a _ _ _ _ e1 e2 e3 e4
  · rcases nt h with ⟨hj, z⟩ | ⟨hj, h⟩
    · subst hj
      have hi : j < ρ.length := by
        have := (List.getElem?_eq_some_iff.mp h).1
        rw [List.length_set] at this; exact this
      rw [List.getElem?_set_self (by rw [r.len]; exact hi), h3 a z]
    · rw [List.getElem?_set_ne hj]; exact r.raw j a h
end
/-- try: body; except c as slot i: return (what hd tells of the exception) -/
def gTry (i : Nat) (g : DSt) (hd : Exn → Option D) : DSt := fun ρ => match g ρ with
  | .err x ρ1 => if (ρ1[i]?.isNone || isIo ρ1[i]?) = true then .bad else match hd x with
    | some d => .rt (.val d) (ρ1.set i none)
    | none => .bad
  | z => z
section
variable {X : Cx} {W : WX} {x n : Str} {c : Value} {i : Nat} {body : List Stmt} {e : Expr} {np pr pos pos' : Pos} {g : DSt} {hd : Exn → Option D}
theorem ds_tryAs (hs : X.stack = X.env :: X.outer) (hf : X.env.frame = some X.env.locals) (hN : X.N.Nodup) (hi : X.N[i]? = some n) (hln : X.env.kindOf n = some .local) (hc : Names X x c) (tk : L2N.Takes X W)
    (hb : ∀ (W' : WX) (pn : List (Addr × Obj)) (xe : Value → Shared → Prop), L2N.Takes (X.tr pn xe) W' → PassesOwn (model X.prog X.w) X.A X.env xe → DSs (X.tr pn xe) W' body g)
    (hh : ∀ y d, hd y = some d → ∃ C, X.mg y.cls = some (.ref C) ∧ y.arg = none ∧ PySem.W.exmOne X.K (.ref C) c = some true ∧ ∀ (a : Addr) (oe : Obj) (pn : List (Addr × Obj)), L2N.Zn (.ref C) none oe → (∃ vs, oe.data = .fields vs) →
      ∃ f, DE (X.suite a ((a, oe) :: pn)) W0 e f ∧ ∀ ρ, ρ[i]? = some (some (.raw a)) → f ρ = .ok (.val d) ρ) :
    DS X W (.Try body [.ExceptHandler (some (.Name x np)) (some n) [.Return (some e) pr] pos'] [] [] pos) (gTry i g hd) := by
  refine ⟨ps_imp (L2N.ps_try_as (Wout := W) (tb := fun W' => tDS X.K X.mg W' g) (ts := fun a cls dd E σ' H' => ∃ y d O ρ C, hd y = some d ∧ X.mg y.cls = some (.ref C) ∧ cls = .ref C ∧ dd = none ∧ RelEnv X.K O σ' H' ρ ∧ ρ[i]? = some (some (.raw a)) ∧
    ∀ u H'', EStp σ' ρ H' ρ H'' → RelEnv X.K O σ' H'' ρ → Dp X.K (Gv O σ' ρ H'') u d → E.rt u H'') hs hf hN hi hln hc tk (fun W' pn xe tk' po => (hb W' pn xe tk' po).pss) fun a oe cls dd pn hz hfl => ?_) fun E σ H ⟨O, ρ, r, s⟩ => ?_⟩
  · refine ⟨fun pins s σ H D I h => ?_⟩
    obtain ⟨y, d, O, ρ, C, h1, h2, h3, h4, h5, h6, h7⟩ := h
    subst h3 h4
    obtain ⟨C', k1, _, k3, k4⟩ := hh y d h1
    rw [h2] at k1
    cases k1
    obtain ⟨f, df, ef⟩ := k4 a oe pn hz hfl
    refine (pss_one (ps_ret (pos := pr) df.pe)).run pins s σ H D I ⟨O, ρ, h5, ?_⟩
    rw [ef ρ h6]
    exact fun u H'' st r' hu => h7 u H'' st r' hu
  · refine ⟨O, ρ, r, ?_⟩
    unfold gTry at s
    cases q : g ρ with
    | nx ρ1 => rw [q] at s; exact s
    | rt v ρ1 => rw [q] at s; exact s
    | bk ρ1 => rw [q] at s; exact s
    | ct ρ1 => rw [q] at s; exact s
    | bad => rw [q] at s; exact s
    | err y ρ1 =>
      rw [q] at s
      dsimp only at s
      intro cls dd σ' H' st r' ex
      split at s
      · exact s.elim
      rename_i hio
      have hio' : isIo ρ1[i]? = false := by
        cases z : isIo ρ1[i]? with
        | false => rfl
        | true => exact absurd (by rw [z, Bool.or_true]) hio
      split at s
      case h_2 => exact s.elim
      rename_i d hy
      obtain ⟨C, k1, k2, k3, _⟩ := hh y d hy
      obtain ⟨C', e1, e2, e3⟩ := ex
      rw [k1] at e1
      cases e1
      subst e2
      rw [k2] at e3
      refine ⟨true, k3, fun _ a ha => ?_, fun z => nomatch z⟩
      obtain ⟨r2, st2⟩ := set_gen (v := some (.ref a)) (x := some (.raw a)) r' hio' (fun _ _ z => nomatch z) (fun _ z => nomatch z) (fun b z => by cases z; rfl)
      have hlen : i < ρ1.length := by
        cases z : ρ1[i]? with
        | none => exact absurd (by rw [z]; rfl) hio
        | some _ => exact (List.getElem?_eq_some_iff.mp z).1
      refine ⟨y, d, O, ρ1.set i (some (.raw a)), C, hy, k1, rfl, e3, r2, List.getElem?_set_self hlen, fun u H'' st3 r3 hu => ?_⟩
      obtain ⟨r4, st4⟩ := set_gen (v := some (.ref a)) (x := none) r3 (by rw [List.getElem?_set_self hlen]; rfl) (fun _ _ z => nomatch z) (fun _ z => nomatch z) (fun b z => nomatch z)
      rw [List.set_set, List.set_set] at r4 st4
      exact s u _ H'' (((st.trans st2).trans st3.s).trans st4) ⟨r4, dp_mono st4.gv _ _ hu⟩
end
end DL

namespace DL
open L2 PySem PySem.Spec PyProof.Rows

theorem mul_same (l : Addr) (items : Array Value) (n : Nat) (dd : Option Addr) (sl : Array (Option Value)) (x : Int) (u : Tok) (c0 : (decide (x < -(2 ^ 63)) || decide (x ≥ 2 ^ 63)) = false) (c1 : (items.isEmpty || x == 1) = true) :
    Meets (Builtin.«tuple.__mul__» ⟨[.ref l, .int x u], []⟩) (fun _ R s => s.heap.get? l = some { cls := .type "tuple", dict := dd, data := .seq items n, slots := sl } ∧ R (.ok (.ret (Value.ref l))) s) :=
  .of_wp fun prog w A R s h => by
    obtain ⟨hp, g, d, tk, os⟩ := s
    obtain ⟨hl, h⟩ := h
    have f1 := AutoSeq1.idx_int
    wp_walk using wpAny_loadPart' hl
    refine wpAny_ite_false (decide_eq_false (by rw [c0]; exact Bool.false_ne_true)) ?_
    wp_walk using wpAny_loadPart' hl
    exact ⟨_, rfl, h⟩
theorem mul_none (l : Addr) (items : Array Value) (n : Nat) (dd : Option Addr) (sl : Array (Option Value)) (x : Int) (u : Tok) (c0 : (decide (x < -(2 ^ 63)) || decide (x ≥ 2 ^ 63)) = false) (c1 : (items.isEmpty || x == 1) = false) (c2 : (decide (x ≤ 0) || items.isEmpty) = true) :
    Meets (Builtin.«tuple.__mul__» ⟨[.ref l, .int x u], []⟩) (fun _ R s => s.heap.get? l = some { cls := .type "tuple", dict := dd, data := .seq items n, slots := sl } ∧
      R (.ok (.ret (Value.ref s.heap.objs.size))) { s with heap := s.heap.push { cls := Value.type "tuple", data := Data.seq #[] }, toks := s.toks }) :=
  .of_wp fun prog w A R s h => by
    obtain ⟨hp, g, d, tk, os⟩ := s
    obtain ⟨hl, h⟩ := h
    have f1 := AutoSeq1.idx_int
    wp_walk using wpAny_loadPart' hl
    refine wpAny_ite_false (decide_eq_false (by rw [c0]; exact Bool.false_ne_true)) ?_
    wp_walk using wpAny_loadPart' hl
    exact ⟨_, rfl, h⟩
/-- tuple * int, the rest: once, or none -/
def rRepO (K : PySem.W.Frag) : R2 := fun x y H Q => ∃ l k xs, x = .ref l ∧ y = .int k ∧ SqT K H l xs ∧ -(2 ^ 63) ≤ k ∧ k < 2 ^ 63 ∧ (((xs = [] ∨ k = 1) ∧ Q (.ref l) H) ∨ (xs ≠ [] ∧ k ≤ 0 ∧ ∀ p, H p = none → Q (.ref p) (upd H p (.tup []))))
theorem op_repO {X : Cx} : OpR X (binaryOp .Mult) (rRepO X.K) := by
  intro pins s σ H x y v u Q I rx ry h
  obtain ⟨l, k, xs, rfl, rfl, hT, h1, h2, h⟩ := h
  cases rx
  obtain ⟨t, rfl⟩ := ry
  obtain ⟨its, r, ⟨⟨cls, dd, data, sl⟩, ho, hc, n, hd⟩, hs⟩ := I.tuple hT
  simp only at hc hd
  subst hc hd
  have hle : its.length = xs.length := r.length.symm
  have c0 : (decide (k < -(2 ^ 63)) || decide (k ≥ 2 ^ 63)) = false := by
    rw [decide_eq_false (by omega), decide_eq_false (by omega)] <;> rfl
  rcases h with ⟨h3, q⟩ | ⟨h3, h4, q⟩
  · have c1 : (its.toArray.isEmpty || k == 1) = true := by
      rcases h3 with h3 | h3
      · subst h3
        have : its = [] := List.eq_nil_of_length_eq_zero hle
        subst this; rfl
      · subst h3; simp
    refine wpAny_binaryOp_repeat_ref (T := "tuple") (U := "int") (by decide) ⟨_, ho, rfl⟩ (fun s' => typeIs_int s' k t) noFill_tuple_mul F.fills_int_mul F.slot_int_rmul repeat_tuple F.slot_int_index.lookup
      (call_meets F.slot_int_rmul (typeIs_int s k t) F.entry_int_rmul (F.args_int_rmul_2 _ _) (int_rmul_tuple k t l its.toArray n dd sl)
        ⟨ho, rfl, ⟨_, ho, rfl⟩, call_meets F.slot_tuple_mul ⟨_, ho, rfl⟩ F.entry_tuple_mul (F.args_tuple_mul_2 _ _) (mul_same l its.toArray n dd sl k t c0 c1) ⟨ho, ?_⟩⟩)
    exact ⟨.ref l, H, I, rfl, q⟩
  · have c1 : (its.toArray.isEmpty || k == 1) = false := by
      have : its.toArray.isEmpty = false := by
        cases its with
        | nil => exact absurd (List.eq_nil_of_length_eq_zero hle.symm) h3
        | cons a b => rfl
      rw [this, Bool.false_or]
      exact beq_eq_false_iff_ne.mpr (by omega)
    have c2 : (decide (k ≤ 0) || its.toArray.isEmpty) = true := by rw [decide_eq_true h4]; rfl
    refine wpAny_binaryOp_repeat_ref (T := "tuple") (U := "int") (by decide) ⟨_, ho, rfl⟩ (fun s' => typeIs_int s' k t) noFill_tuple_mul F.fills_int_mul F.slot_int_rmul repeat_tuple F.slot_int_index.lookup
      (call_meets F.slot_int_rmul (typeIs_int s k t) F.entry_int_rmul (F.args_int_rmul_2 _ _) (int_rmul_tuple k t l its.toArray n dd sl)
        ⟨ho, rfl, ⟨_, ho, rfl⟩, call_meets F.slot_tuple_mul ⟨_, ho, rfl⟩ F.entry_tuple_mul (F.args_tuple_mul_2 _ _) (mul_none l its.toArray n dd sl k t c0 c1 c2) ⟨ho, ?_⟩⟩)
    refine ⟨.ref s.heap.objs.size, _, I.laid (t' := s.toks) (o := .tup []) (fun b ob q => Heap.get?_push_of_some _ q) (Nat.le_refl _) ?_, rfl, q _ (I.hok.fresh (Nat.le_refl _))⟩
    exact ⟨Nat.zero_le _, [], .nil, IsTup.new _ _⟩
/-- tuple * int, any small int -/
def kMulT : D → D → Option D
  | .tuple xs, .int k => if k ≤ 1000 ∧ xs.length ≤ 1000 ∧ -1000 ≤ k then some (.tuple (List.replicate k.toNat xs).flatten) else none
  | _, _ => none
theorem flat_nil {α : Type} : ∀ n : Nat, (List.replicate n ([] : List α)).flatten = []
  | 0 => rfl
  | n + 1 => by rw [List.replicate_succ, List.flatten_cons, flat_nil n]; rfl
theorem o_mulT {X : Cx} : OpR X (binaryOp .Mult) (rD2 X.K kMulT) := by
  intro pins s σ H x y v u Q I rx ry ⟨O, σ', ρ, a, b, d, e, z, r, ea, eb, hd, he, hk, q⟩
  unfold kMulT at hk
  split at hk
  · rename_i xs k
    split at hk
    · rename_i hz
      cases hk
      obtain ⟨p1, vs, rfl, s1, a1⟩ := RelE.tup ea r hd
      cases RelE.int eb r he
      have l1 := DL.DpAll.length a1
      by_cases hx : xs = []
      · subst hx
        have hv : vs = [] := List.eq_nil_of_length_eq_zero l1
        rw [flat_nil] at q
        exact op_repO pins s σ H _ _ v u Q I rx ry ⟨p1, k, vs, rfl, rfl, SqT.mono Gv_sub s1, by omega, by omega, .inl ⟨.inl hv, q _ H (Same.refl _) (.tup s1 a1)⟩⟩
      have hvx : vs ≠ [] := fun z => hx (List.eq_nil_of_length_eq_zero (by rw [← l1, z]; rfl))
      by_cases h1 : k = 1
      · subst h1
        have e1 : (List.replicate (1 : Int).toNat xs).flatten = xs := by simp
        rw [e1] at q
        exact op_repO pins s σ H _ _ v u Q I rx ry ⟨p1, 1, vs, rfl, rfl, SqT.mono Gv_sub s1, by omega, by omega, .inl ⟨.inr rfl, q _ H (Same.refl _) (.tup s1 a1)⟩⟩
      by_cases h0 : k ≤ 0
      · have e1 : (List.replicate k.toNat xs).flatten = [] := by rw [Int.toNat_of_nonpos h0]; rfl
        rw [e1] at q
        refine op_repO pins s σ H _ _ v u Q I rx ry ⟨p1, k, vs, rfl, rfl, SqT.mono Gv_sub s1, by omega, by omega, .inr ⟨hvx, h0, fun p hp => ?_⟩⟩
        obtain ⟨m1, m2⟩ := dp_new r hp (.nil)
        exact q _ _ m1 m2
      · refine op_repT pins s σ H _ _ v u Q I rx ry ⟨p1, k, vs, rfl, rfl, SqT.mono Gv_sub s1, hvx, by omega, hz.1, by omega, fun p hp => ?_⟩
        obtain ⟨m1, m2⟩ := dp_new r hp (DpAll.rep a1 k.toNat)
        exact q _ _ m1 m2
    · cases hk
  · cases hk
/-- [..] * k: a new list -/
def xRepL (f : DEnv → Res Cell) (g : DX) : DEnv → Res Cell := fun ρ => bindR (f ρ) fun c ρ1 => bindR (g ρ1) fun b ρ2 => match c, deref ρ2 b with
  | .lst ds, some (.int k) => if -1000 ≤ k ∧ k ≤ 1000 ∧ ds.length ≤ 1000 then .ok (.lst (List.replicate k.toNat ds).flatten) ρ2 else .bad
  | _, _ => .bad
theorem dl_repL {X : Cx} {W : WX} {a b : Expr} {f : DEnv → Res Cell} {g : DX} {pos : Pos} (ha : DLs X W a f) (hb : DE X W b g) : DLs X W (.BinOp a .Mult b pos) (xRepL f g) := by
  refine ⟨pe_imp (pe_op op_rep ha.pe hb.pe) fun σ H Q ⟨O, ρ, r, s⟩ => ⟨O, ρ, r, ?_⟩⟩
  unfold xRepL at s
  cases q : f ρ with
  | err x ρ1 => rw [q] at s; exact s
  | bad => rw [q] at s; exact s
  | ok c ρ1 =>
    rw [q] at s
    intro p H1 st hp n
    refine ⟨_, ρ1, n.1, ?_⟩
    dsimp only [bindR] at s
    cases q2 : g ρ1 with
    | err x ρ2 => rw [q2] at s; exact fun cls d H2 st2 r2 ex => s cls d H2 (st.trans st2) r2.unhide ex
    | bad => rw [q2] at s; exact s
    | ok y ρ2 =>
      rw [q2] at s
      intro v H2 st2 r2 e2
      dsimp only at s
      split at s
      case h_2 => exact s.elim
      rename_i ds k hk
      split at s
      case isFalse => exact s.elim
      rename_i hz
      obtain ⟨_, _, no, vs, n3, n4⟩ := n
      cases RelE.int e2 r2 hk
      have l1 := DL.DpAll.length n4
      have a1 : DpAll X.K (Gv O σ ρ2 H2) vs ds := dpAll_mono (fun a o z => gv_hide a o (st2.gv a o z)) _ _ n4
      have hzz : vs.length * k.toNat ≤ sizeLine := by
        have a1 : vs.length * k.toNat ≤ 1000 * 1000 := Nat.mul_le_mul (by omega) (by omega)
        rw [sizeLine_eq]; omega
      refine ⟨p, k, vs, rfl, rfl, st2.ext _ _ n3 no, by omega, by omega, hzz, fun p' hp' => ?_⟩
      refine s p' _ ((st.trans st2).trans (.same (same_upd hp'))) ((st.trans st2).none p' hp') (.mk' r2.unhide hp' (DpAll.rep a1 k.toNat))
end DL

namespace DL
open L2 PySem PySem.Spec PyProof.Rows

/-! ### methods that only look -/
def xMr (m : List D → List D → Option D) (fo : DX) (g : DEnv → Res (List EV)) : DX := fun ρ => bindR (fo ρ) fun a ρ1 => match deref ρ1 a with
  | some (.list _) => bindR (g ρ1) fun vs ρ2 => match deref ρ2 a with
    | some (.list ds) => optR (derefs ρ2 vs) fun as => optR (m ds as) fun z => .ok (.val z) ρ2
    | _ => .bad
  | _ => .bad
def MrOk (X : Cx) (id : String) (m : List D → List D → Option D) : Prop :=
  ∃ r, MtR X id r ∧ ∀ (H : Hp) (u : V) (args : List V) (ds as : List D) (z : D) (Q : VK), Dp X.K H u (.list ds) → DpAll X.K H args as → m ds as = some z → (∀ u H', Same H H' → Dp X.K H' u z → Q u H') → r u args H Q
theorem derefs_dp {K : Frg} {O : Addr → Prop} {σ : L2.St} {ρ : DEnv} {H : Hp} (r : RelEnv K O σ H ρ) : ∀ {us : List V} {vs : List EV} {ds : List D}, RelEs K O σ ρ H us vs → derefs ρ vs = some ds → DpAll K H us ds
  | [], [], _, _, e => by cases e; exact .nil
  | u :: us, v :: vs, ds, h, e => by
    unfold derefs at e
    split at e
    · rename_i d hd
      split at e
      · rename_i ds' hds
        cases e
        exact .cons (RelE.dp h.1 r hd) (derefs_dp r h.2 hds)
      · cases e
    · cases e
  | [], _ :: _, _, h, _ => h.elim
  | _ :: _, [], _, h, _ => h.elim
section
variable {X : Cx} {W : WX} {e : Expr} {es : List Expr} {o : Expr} {apos cpos : Pos} {name : Str} {id : String} {m : List D → List D → Option D}
theorem de_mr {fo : DX} (ho : DE X W o fo) (slot : Slot "list" name id) (hty : typeOf (.builtin id) = pure (.type "method_descriptor")) (hm : MrOk X id m) (hfl : ∀ ds as z, m ds as = some z → ∃ v, flat z = some v) {g : DEnv → Res (List EV)} (ha : DA X W (e :: es) g)
    (hbase : attributeBase o name X.env (eval o X.env) = eval o X.env := by rfl)
    (hfew : ((backTo cpos (starEach (e :: es) X.env)).all (fun x => !x.1) && (backToKw cpos (keywordEach [] X.env)).all (fun x => x.1.isSome)
      && decide ((e :: es).length + ([] : List Keyword).length + (if ([] : List Keyword).isEmpty then 0 else 1) < 30)) = true := by rfl)
    (hline : (apos.endLine == cpos.line) = true := by rfl) (hs : starEach (e :: es) X.env = (false, eval e X.env) :: starEach es X.env := by rfl) (hplain : (backTo cpos (starEach es X.env)).any (·.1) = false := by rfl) :
    DE X W (.Call (.Attribute o name apos) (e :: es) [] cpos) (xMr m fo g) := by
  obtain ⟨r, h1, h2⟩ := hm
  refine ⟨pe_imp (pe_bm PySem.F.plainAttrs_list slot hty h1 ho.pe ha.pa hbase hfew hline hs hplain) fun σ H Q ⟨O, ρ, rr, s⟩ => ⟨O, ρ, rr, (Sat.bind s).imp fun u H1 ⟨a, ρ1, r1, e1, s1⟩ => ?_⟩⟩
  try dsimp only at s1
  split at s1
  case h_2 => exact s1.elim
  rename_i ds0 hd0
  obtain ⟨p, vs0, hu, sq, _⟩ := RelE.lst e1 r1 hd0
  subst hu
  refine ⟨.inl ⟨rfl, vs0, sq⟩, O, ρ1, r1, ?_⟩
  cases q : g ρ1 with
  | err x ρ2 => rw [q] at s1; exact s1
  | bad => rw [q] at s1; exact s1
  | ok vs ρ2 =>
    rw [q, bindR_ok] at s1
    intro us H2 st2 r2 e2
    have s2 := Sat.shift s1 st2
    split at s2
    case h_2 => exact s2.elim
    rename_i ds hd
    obtain ⟨as, has, s3⟩ := optR_sat s2
    obtain ⟨z, hz, s4⟩ := optR_sat s3
    refine h2 H2 _ us ds as z Q (RelE.dp (e1.mono st2) r2 hd) (derefs_dp r2 e2 has) hz fun u' H' sm hu' => ?_
    obtain ⟨w, hw⟩ := hfl _ _ _ hz
    exact s4 u' H' (.same sm) (r2.same sm) (dp_any hu' hw)
/-- l.count(x) -/
def mCount : List D → List D → Option D := fun ds as => match as with
  | [d] => if SeqAt.shaped (.list ds) = true ∧ SeqAt.shaped d = true ∧ PyData.plainAll ds = true ∧ d.plain = true then some (.int ((ds.countP fun y => PyData.eqv y d : Nat) : Int)) else none
  | _ => none
def mIndex : List D → List D → Option D := fun ds as => match as with
  | [d] => if SeqAt.shaped (.list ds) = true ∧ SeqAt.shaped d = true then (ds.findIdx? fun y => PyData.eqv y d).map fun j => .int (j : Nat) else none
  | _ => none
theorem m_index (hu : X.A.units + 65 < cLine) : MrOk X "list.index" mIndex := by
  refine ⟨_, mt_indexD hu, fun H u args ds as z Q hd ha hz q => ?_⟩
  unfold mIndex at hz
  split at hz
  case h_2 => cases hz
  rename_i d
  split at hz
  case isFalse => cases hz
  rename_i hs
  cases hj : ds.findIdx? fun y => PyData.eqv y d with
  | none => rw [hj] at hz; cases hz
  | some j =>
    rw [hj] at hz
    cases hz
    cases ha with
    | cons h1 h2 =>
      cases h2
      obtain ⟨hlt, hp, hno⟩ := List.findIdx?_eq_some_iff_getElem.mp hj
      cases hd with
      | lst s a =>
        refine ⟨_, _, d, ds, j, ds[j], rfl, rfl, .lst s a, h1, hs.1, hs.2, List.getElem?_eq_getElem hlt, hp, fun m z' hm hz' => ?_, q _ H (Same.refl _) (.int _)⟩
        obtain ⟨hml, rfl⟩ := List.getElem?_eq_some_iff.mp hz'
        simpa using hno m hm
theorem m_count (hu : X.A.units + 66 < cLine) : MrOk X "list.count" mCount := by
  refine ⟨fun u args H Q => ∃ (ds : List D) (d : D) (y : V), args = [y] ∧ Dp X.K H u (.list ds) ∧ Dp X.K H y d ∧ SeqAt.shaped (.list ds) = true ∧ SeqAt.shaped d = true ∧ PyData.plainAll ds = true ∧ d.plain = true ∧ Q (.int ((ds.countP fun y => PyData.eqv y d : Nat) : Int)) H, fun pins s σ H x xs v us Q I rx rxs h => ?_, fun H u args ds as z Q hd ha hz q => ?_⟩
  · obtain ⟨ds, d, y, rfl, hx, hy, h1, h2, h3, h4, q⟩ := h
    cases rxs with
    | cons ry rt =>
      cases rt
      cases hx with
      | lst sq a =>
        cases rx
        obtain ⟨its, rv, pl, _⟩ := I.list sq
        obtain ⟨as, r4⟩ := Dp.readsAll I ds _ its a rv
        obtain ⟨bs, r5⟩ := Dp.reads I d y _ hy ry
        exact SeqAt.count_list_data pl.isList (show ReadsAll s.heap its.toArray.toList ds as from r4) r5 h3 h4 (room_in_shaped h2 (by omega)) ⟨.int _, H, I.tok _, ⟨_, rfl⟩, q⟩
  · unfold mCount at hz
    split at hz
    case h_2 => cases hz
    rename_i d
    split at hz
    case isFalse => cases hz
    rename_i hs
    cases hz
    cases ha with
    | cons h1 h2 =>
      cases h2
      exact ⟨ds, d, _, rfl, hd, h1, hs.1, hs.2.1, hs.2.2.1, hs.2.2.2, q _ H (Same.refl _) (.int _)⟩
end

/-! ### zip -/
section
variable {X : Cx} {W : WX} {K : Frg} {G0 : Hp}
def zipD : List D → List D → List D
  | a :: as, b :: bs => .tuple [a, b] :: zipD as bs
  | _, _ => []
theorem zipD_len : ∀ as bs : List D, (zipD as bs).length = min as.length bs.length
  | [], _ => by simp [zipD]
  | _ :: _, [] => by simp [zipD]
  | a :: as, b :: bs => by simp [zipD, zipD_len as bs] <;> omega
theorem zipD_at : ∀ {as bs : List D} {i : Nat} {x y : D}, as[i]? = some x → bs[i]? = some y → (zipD as bs)[i]? = some (.tuple [x, y])
  | [], _, _, _, _, h, _ => by simp at h
  | _ :: _, [], _, _, _, _, h => by simp at h
  | a :: as, b :: bs, 0, x, y, h1, h2 => by simp at h1 h2; subst h1 h2; rfl
  | a :: as, b :: bs, i + 1, x, y, h1, h2 => by simpa [zipD] using zipD_at (i := i) (by simpa using h1) (by simpa using h2)
theorem src_pair {J : It} {n : Nat} {G : Hp → Prop} {f g : Nat → Option V} {ds : List D} (w : Walk J n G (YPair f g)) (hn : ds.length = n) (hG : ∀ H, (∀ a o, G0 a = some o → H a = some o) → G H)
    (h : ∀ i x y, f i = some x → g i = some y → ∃ d e, ds[i]? = some (.tuple [d, e]) ∧ Dp K G0 x d ∧ Dp K G0 y e) : Src K G0 J ds := by
  unfold Src
  rw [hn]
  refine w.mono hG fun i H v H' hi hg y => ?_
  obtain ⟨T, x, y, rfl, hT, rfl, hx, hy⟩ := y
  obtain ⟨d, e, h1, h2, h3⟩ := h i x y hx hy
  refine ⟨_, h1, same_upd hT, fun O σ ρ r g => ?_⟩
  obtain ⟨n1, n2⟩ := r.fresh hT
  have mo : ∀ a o, G0 a = some o → Gv O σ ρ (upd H T (.tup [x, y])) a = some o := fun a o q => (EStp.same (same_upd hT)).gv a o (g a o q)
  exact L2.Dp.tup (SqT.of (Gv_of n1 n2 upd_same)) (.cons (dp_mono mo _ _ h2) (.cons (dp_mono mo _ _ h3) .nil))
theorem src_zip {a b : Addr} {vs ws : List V} {ds es : List D} (s1 : SqL K G0 a vs) (s2 : SqL K G0 b ws) (h1 : DpAll K G0 vs ds) (h2 : DpAll K G0 ws es) : Src K G0 (Itz K a b) (zipD ds es) := by
  refine src_pair (walk_zip (xs := vs) (ys := ws) (n := (zipD ds es).length) (by rw [zipD_len, DL.DpAll.length h1, DL.DpAll.length h2])) rfl (fun H g => ⟨SqL.mono g s1, SqL.mono g s2⟩) fun i x y hx hy => ?_
  obtain ⟨d, k1, k2⟩ := DL.DpAll.atV h1 hx
  obtain ⟨e, k3, k4⟩ := DL.DpAll.atV h2 hy
  exact ⟨d, e, zipD_at k1 k3, k2, k4⟩
theorem walk_zipT {a b : Addr} {xs ys : List V} {n : Nat} (hn : n = min xs.length ys.length) : Walk (RZ.ItzT K a b) n (fun H => SqT K H a xs ∧ SqT K H b ys) (YPair (fun i => xs[i]?) (fun i => ys[i]?)) := by
  refine ⟨fun i _ hi q => ?_, fun _ q => ?_, fun i H v H' _ q y => ?_⟩
  · have l1 : i < xs.length := by omega
    have l2 : i < ys.length := by omega
    exact ⟨xs, ys, xs[i], ys[i], q.1, q.2, List.getElem?_eq_getElem l1, List.getElem?_eq_getElem l2⟩
  · exact ⟨xs, ys, q.1, q.2, by omega⟩
  · obtain ⟨T, x, z, e1, e2, e3, e4, e5⟩ := y
    exact ⟨T, x, z, e1, e2, e3, e4 xs q.1, e5 ys q.2⟩
theorem src_zipT {a b : Addr} {vs ws : List V} {ds es : List D} (s1 : SqT K G0 a vs) (s2 : SqT K G0 b ws) (h1 : DpAll K G0 vs ds) (h2 : DpAll K G0 ws es) : Src K G0 (RZ.ItzT K a b) (zipD ds es) := by
  refine src_pair (walk_zipT (xs := vs) (ys := ws) (n := (zipD ds es).length) (by rw [zipD_len, DL.DpAll.length h1, DL.DpAll.length h2])) rfl (fun H g => ⟨SqT.mono g s1, SqT.mono g s2⟩) fun i x y hx hy => ?_
  obtain ⟨d, k1, k2⟩ := DL.DpAll.atV h1 hx
  obtain ⟨e, k3, k4⟩ := DL.DpAll.atV h2 hy
  exact ⟨d, e, zipD_at k1 k3, k2, k4⟩
def iZip (g : DEnv → Res (List EV)) : DEnv → Res (List D) := fun ρ => bindR (g ρ) fun vs ρ1 => optR (keeps vs ρ1) fun p => match p.1 with
  | [.list ds, .list es] => .ok (zipD ds es) p.2
  | [.tuple ds, .tuple es] => .ok (zipD ds es) p.2
  | _ => .bad
theorem di_zip {e e2 : Expr} {g : DEnv → Res (List EV)} {p pos tpos : Pos} {elts : List Expr} {kk : Nat} (hm : X.mg "zip" = none) (ha : DA X W [e, e2] g) (hg : Gl X "zip" := by rfl)
    (hs : starEach [e, e2] X.env = (false, eval e X.env) :: starEach [e2] X.env := by rfl) (hpl : (backTo pos (starEach [e2] X.env)).any (·.1) = false := by rfl) :
    DI X W (.Tuple elts kk tpos) (.Call (.Name "zip" p) [e, e2] [] pos) (iZip g) := by
  refine ⟨pi_imp (RZ.pi_zipA hg hm ha.pa hs hpl) fun σ H R ⟨O, ρ, r, s⟩ => ⟨O, ρ, r, (sat_bindI s).imp fun us H1 ⟨vs, ρ1, r1, e1, st, s1⟩ => ?_⟩⟩
  obtain ⟨⟨ds, ρ2⟩, hk, s2⟩ := optR_satI s1
  obtain ⟨r2, st2, a⟩ := keeps_ok r1 e1 hk
  try dsimp only at s2
  split at s2
  · cases a with
    | cons a1 a2 => cases a2 with
      | cons a2 a3 =>
        cases a3
        cases a1 with
        | lst s1 b1 => cases a2 with
          | lst s2' b2 => exact ⟨_, _, _, _, rfl, .inl ⟨SqL.mono Gv_sub s1, SqL.mono Gv_sub s2', s2 _ H1 st2 r2 (src_zip s1 s2' b1 b2)⟩⟩
  · cases a with
    | cons a1 a2 => cases a2 with
      | cons a2 a3 =>
        cases a3
        cases a1 with
        | tup s1 b1 => cases a2 with
          | tup s2' b2 => exact ⟨_, _, _, _, rfl, .inr ⟨SqT.mono Gv_sub s1, SqT.mono Gv_sub s2', s2 _ H1 st2 r2 (src_zipT s1 s2' b1 b2)⟩⟩
  · exact s2.elim
end

/-! ### a, b = x, y; target = x; return of an own thing -/
def gPar (i j : Nat) (g : DEnv → Res (List EV)) : DSt := fun ρ => bindF (g ρ) fun vs ρ1 => optF (keeps vs ρ1) fun p => match p.1 with
  | [d, e] => if (isIo p.2[i]? || isIo (p.2.set i (some (.val d)))[j]?) = true then .bad else .nx ((p.2.set i (some (.val d))).set j (some (.val e)))
  | _ => .bad
section
variable {X : Cx} {W : WX}
theorem ds_par {i j : Nat} {x y : Str} {a b : Expr} {g : DEnv → Res (List EV)} {px py pt pos : Pos} {kt k2 pt2} (hc : X.calm = true) (hN : X.N.Nodup) (ha : DA X W [a, b] g) (hij : i ≠ j := by decide) (hi : X.N[i]? = some x := by rfl) (hj : X.N[j]? = some y := by rfl)
    (hx : X.env.scope.names.lookup x = some .local := by rfl) (hy : X.env.scope.names.lookup y = some .local := by rfl)
    (hw : swappedStores [.Tuple [.Name x px, .Name y py] kt pt] (.Tuple [a, b] k2 pt2) X.env = pure (some [x, y]) := by rfl)
    (hs : swapsWithSole [.Tuple [.Name x px, .Name y py] kt pt] (.Tuple [a, b] k2 pt2) pos.line X.env = pure false := by rfl) :
    DS X W (.Assign [.Tuple [.Name x px, .Name y py] kt pt] (.Tuple [a, b] k2 pt2) pos) (gPar i j g) := by
  refine ⟨ps_imp (ps_par hc hN hi hj hij hx hy ha.pa hw hs) fun E σ H ⟨O, ρ, r, s⟩ => ⟨O, ρ, r, (SatS.bind s).imp fun us H1 ⟨vs, ρ1, r1, e1, st1, s1⟩ => ?_⟩⟩
  obtain ⟨⟨ds, ρ2⟩, hk, s2⟩ := optF_sat s1
  obtain ⟨r2, st2, a⟩ := keeps_ok r1 e1 hk
  try dsimp only at s2
  split at s2
  case h_2 => exact s2.elim
  rename_i d e
  split at s2
  · exact s2.elim
  rename_i hio
  have h12 : isIo ρ2[i]? = false ∧ isIo (ρ2.set i (some (.val d)))[j]? = false := by simpa using hio
  cases a with
  | cons a1 a2 => cases a2 with
    | cons a2 a3 =>
      cases a3
      obtain ⟨r3, st3⟩ := set_val r2 h12.1 a1
      obtain ⟨r4, st4⟩ := set_val r3 h12.2 (dp_mono st3.gv _ _ a2)
      exact ⟨_, _, rfl, s2 _ H1 ((st2.s.trans st3).trans st4) r4⟩
def gAsg (f : DX) (bind : D → DEnv → Option DEnv) : DSt := fun ρ => bindF (f ρ) fun v ρ1 => optF (keep v ρ1) fun p => optF (bind p.1 p.2) fun ρ3 => .nx ρ3
theorem ds_asg {tg e : Expr} {f : DX} {sl : List Nat} {bind : D → DEnv → Option DEnv} {pos : Pos} (he : DE X W e f) (hg : DG X tg sl bind) (hs : swapsWithSole [tg] e pos.line X.env = pure false := by rfl) (hw : swappedStores [tg] e X.env = pure none := by rfl)
    (h1 : (assignEach [tg] X.env).map (·.2) = [assign tg X.env] := by rfl) : DS X W (.Assign [tg] e pos) (gAsg f bind) := by
  refine ⟨ps_imp (ps_asg he.pe hg.pg hs hw h1) fun E σ H ⟨O, ρ, r, s⟩ => ⟨O, ρ, r, (SatS.bind s).imp fun u H1 ⟨v, ρ1, r1, e1, st1, s1⟩ => ?_⟩⟩
  obtain ⟨⟨d, ρ2⟩, hk, s2⟩ := optF_sat s1
  obtain ⟨r2, st2, a⟩ := keep_ok r1 e1 hk
  obtain ⟨ρ3, h3, s3⟩ := optF_sat s2
  exact ⟨O, ρ2, d, ρ3, r2, a, h3, fun σ1 st r3 _ _ => s3 σ1 H1 (st2.s.trans st) r3⟩
theorem ds_retOwn {i : Nat} {e : Expr} {pos : Pos} (he : PE X e (tVar i)) : DS X W (.Return (some e) pos) (gRetOwn i) := by
  refine ⟨ps_imp (ps_ret he) fun E σ H ⟨O, ρ, r, s⟩ => ?_⟩
  unfold gRetOwn at s
  split at s
  case h_2 => exact s.elim
  rename_i c hi
  obtain ⟨a, h1, h2, h3⟩ := r.own i _ _ hi
  have hil : i < ρ.length := (List.getElem?_eq_some_iff.mp hi).1
  have hio : isIo ρ[i]? = false := by rw [hi]; rfl
  -- given up: the name holds nothing
  have st : SStp σ ρ H σ (ρ.set i none) H := ⟨fun _ _ h _ => h, fun _ h => h, fun b ⟨j, io, c', e1, e2⟩ => .inl (by
    by_cases hj : i = j
    · subst hj; rw [List.getElem?_set_self hil] at e1; cases e1
    · rw [List.getElem?_set_ne hj] at e1; exact ⟨j, io, c', e1, e2⟩), fun j c' h => by
    have hj : i ≠ j := by rintro rfl; rw [h] at hio; cases hio
    rw [List.getElem?_set_ne hj]; exact ⟨rfl, c', h⟩⟩
  have nt : ∀ {j : Nat} {y : SV}, (ρ.set i none)[j]? = some (some y) → i ≠ j ∧ ρ[j]? = some (some y) := fun {j y} e1 => by
    by_cases hj : i = j
    · subst hj; rw [List.getElem?_set_self hil] at e1; cases e1
    · rw [List.getElem?_set_ne hj] at e1; exact ⟨hj, e1⟩
  have no : ¬ Ow σ (ρ.set i none) a := fun ⟨j, io, c', e1, e2⟩ => by
    obtain ⟨hj, e1⟩ := nt e1
    exact hj (r.inj i j a _ _ _ _ hi e1 h1 e2)
  have gv : ∀ x o, Gv O σ ρ H x = some o → Gv (fun b => O b ∨ b = a) σ (ρ.set i none) H x = some o := fun x o q => by
    obtain ⟨q1, q2, q3⟩ := of_Gv (st.gv (O := O) x o q)
    exact Gv_of (fun z => z.elim q1 fun z => (of_Gv q).2.1 ⟨i, false, c, hi, by rw [z]; exact h1⟩) q2 q3
  refine ⟨_, h1, s _ σ H st ⟨a, rfl, ⟨⟨by rw [List.length_set]; exact r.len, fun x q => ?_, fun j d q => ?_, fun j b c' q => ?_, fun j k x b c' b' c'' e1 e2 e3 e4 => ?_, fun j x q => r.raw j x (nt q).2⟩, h2, no, h3.mono gv fun _ q => q⟩, .inl ⟨i, false, c, hi, h1⟩⟩⟩
  · rcases q with q | q
    · exact r.oa x q
    · obtain ⟨o, ho⟩ := h3.some
      rw [q, ho]; exact fun z => nomatch z
  · obtain ⟨v, k1, k2⟩ := r.val j d (nt q).2
    exact ⟨v, k1, dp_mono gv _ _ k2⟩
  · obtain ⟨a2, k1, k2, k3⟩ := r.own j b c' (nt q).2
    refine ⟨a2, k1, fun z => z.elim k2 fun z => (nt q).1 (r.inj i j a _ _ _ _ hi (nt q).2 h1 (by rw [← z]; exact k1)), k3.mono gv fun _ q => q⟩
  · exact r.inj j k x _ _ _ _ (nt e1).2 (nt e2).2 e3 e4
end
end DL

namespace DL
open L2 PySem PySem.Spec PyProof.Rows

/-! ### [f, g, h][i](e, ..) -/
theorem FOk.mono {P : Program} {w : World} {K : Frg} {mg : Mg} {base : Heap} {x : Str} {j k : Nat} {ps : List Str} {sp : Sp} (h : FOk P w K mg base x j ps sp) (hj : j ≤ k) : FOk P w K mg base x k ps sp :=
  let ⟨f, fd, a, b, c, d⟩ := h
  ⟨f, fd, a.mono hj, b, c, d⟩
inductive Sel (X : Cx) (k n : Nat) : List Expr → List Addr → List Fn → Prop
  | nil : Sel X k n [] [] []
  | cons {x : Str} {p : Pos} {es : List Expr} {f : Addr} {fs : List Addr} {F : Fn} {Fs : List Fn} (hg : Gl X x) (hd : (x == ("__debug__" : Str)) = false) (hm : X.mg x = some (.ref f))
      (h : ∃ fd ps, FnOk X.prog X.w X.K X.mg X.base (L2N.CX X.prog X.w) k f fd ps (spP X.K X.mg n F) ∧ PySem.W.keepIn X.K (.ref f) = true ∧ Binds X.K fd ps []) (r : Sel X k n es fs Fs) : Sel X k n (.Name x p :: es) (f :: fs) (F :: Fs)
theorem Sel.one {X : Cx} {k j n : Nat} {x : Str} {p : Pos} {ps : List Str} {es : List Expr} {Fs : List Fn} {F : Fn} (C : FOk X.prog X.w X.K X.mg X.base x j ps (spP X.K X.mg n F)) (hj : j ≤ k) (r : ∃ fs, Sel X k n es fs Fs) (hg : Gl X x := by rfl) (hd : (x == ("__debug__" : Str)) = false := by decide) :
    ∃ fs, Sel X k n (.Name x p :: es) fs (F :: Fs) := by
  obtain ⟨f, fd, a, b, c, d⟩ := C.mono hj
  obtain ⟨fs, r⟩ := r
  exact ⟨f :: fs, .cons hg hd b ⟨fd, ps, a, c, d⟩ r⟩
theorem Sel.pa {X : Cx} {k n : Nat} {es : List Expr} {fs : List Addr} {Fs : List Fn} (h : Sel X k n es fs Fs) : PA X es (fun σ H Q => Q (fs.map V.ref) H) := by
  induction h with
  | nil => exact pa_imp pa_nil fun σ H Q q => q
  | @cons x p es f fs F Fs hg hd hm h r ih => exact pa_imp (pa_cons (pe_glob (u := .ref f) hg hm (show RelV (V.ref f) (Value.ref f) from rfl) hd) ih rfl) fun σ H Q q => q
theorem Sel.at {X : Cx} {k n : Nat} {es : List Expr} {fs : List Addr} {Fs : List Fn} (h : Sel X k n es fs Fs) : fs.length = Fs.length ∧ ∀ (i : Nat) (F : Fn), Fs[i]? = some F →
    ∃ f fd ps, fs[i]? = some f ∧ FnOk X.prog X.w X.K X.mg X.base (L2N.CX X.prog X.w) k f fd ps (spP X.K X.mg n F) ∧ PySem.W.keepIn X.K (.ref f) = true ∧ Binds X.K fd ps [] := by
  induction h with
  | nil => exact ⟨rfl, fun i F e => by simp at e⟩
  | @cons x p es f fs F0 Fs hg hd hm h r ih =>
    refine ⟨by simp [ih.1], fun i F e => ?_⟩
    cases i with
    | zero =>
      simp at e; subst e
      obtain ⟨fd, ps, a, b, c⟩ := h
      exact ⟨f, fd, ps, rfl, a, b, c⟩
    | succ i => simpa using ih.2 i F (by simpa using e)
/-- what a call asks of its arguments -/
theorem callD {K : Frg} {mg : Mg} {O : Addr → Prop} {σ : L2.St} {ρ : DEnv} {H : Hp} {W : WX} {n : Nat} {F : Fn} {g : DEnv → Res (List EV)} {Q : VK} (r : RelEnv K O σ H ρ) (hlen : ∀ ρ vs ρ', g ρ = .ok vs ρ' → vs.length = n)
    (s : Sat K mg O σ ρ H W (fun ρ' H' u a => RelE K O σ ρ' H' u a) Q (xCall F g ρ)) : tDA K mg W g σ H (fun us H1 => spP K mg n F us H1 Q (WE W σ)) := by
  refine ⟨O, ρ, r, ?_⟩
  unfold xCall at s
  cases q : g ρ with
  | ok vs ρ1 =>
    rw [q, bindR_ok] at s
    intro us H1 st r1 e1
    obtain ⟨ds, hd, s2⟩ := optR_sat (Sat.shift s st)
    exact call_core (k := 0) r1 e1 hd ((RelEs.len e1).trans (hlen _ _ _ q)) s2
  | err x ρ1 => rw [q] at s; exact s
  | bad => rw [q] at s; exact s
def xSel (Fs : List Fn) (fi : DX) (g : DEnv → Res (List EV)) : DX := fun ρ => bindR (fi ρ) fun j ρ1 => match deref ρ1 j with
  | some (.int i) => match atI Fs i with
    | some F => xCall F g ρ1
    | none => .bad
  | _ => .bad
section
variable {X : Cx} {W : WX} {k n : Nat} {fes : List Expr} {Fs : List Fn} {fi : DX} {g : DEnv → Res (List EV)} {ix e : Expr} {es : List Expr} {lp sp_ pos : Pos}
theorem de_sel (C : ∃ fs, Sel X k n fes fs Fs) (hz : Fs.length ≤ 1000) (hr : Room k X.A) (hx : ∀ σ, PassesAt (L2N.CX X.prog X.w) X σ (WE W σ)) (hi : DE X W ix fi) (ha : DA X W (e :: es) g) (hpi : PlainIx ix := by exact fun _ _ => rfl)
    (ht : eval (.Call (.Subscript (.List fes lp) ix sp_) (e :: es) [] pos) X.env = (do callWith pos (← eval (.Subscript (.List fes lp) ix sp_) X.env) [] (backTo pos (starEach (e :: es) X.env)) (backToKw pos (keywordEach [] X.env))) := by rfl)
    (he : starEach (e :: es) X.env = (false, eval e X.env) :: starEach es X.env := by rfl) (hpl : (backTo pos (starEach es X.env)).any (·.1) = false := by rfl) (hlen : ∀ ρ vs ρ', g ρ = .ok vs ρ' → vs.length = n) :
    DE X W (.Call (.Subscript (.List fes lp) ix sp_) (e :: es) [] pos) (xSel Fs fi g) := by
  obtain ⟨fs, S⟩ := C
  obtain ⟨hl, hat⟩ := S.at
  refine ⟨⟨fun pins s σ H Q I ⟨O, ρ, r, st⟩ => ?_⟩⟩
  have pf := pe_ix (pos := sp_) ix_list (pe_lst (pos := lp) S.pa) hi.pe hpi
  refine Call_ (thn (pf.run pins s σ H (fun v H1 => ∃ f F fd ps O' ρ1, v = .ref f ∧ FnOk X.prog X.w X.K X.mg X.base (L2N.CX X.prog X.w) k f fd ps (spP X.K X.mg n F) ∧ PySem.W.keepIn X.K (.ref f) = true ∧ Binds X.K fd ps [] ∧ RelEnv X.K O' σ H1 ρ1 ∧
    Sat X.K X.mg O' σ ρ1 H1 W (fun ρ' H' u a => RelE X.K O' σ ρ' H' u a) Q (xCall F g ρ1)) I ?_) fun u s1 ⟨v, H1, I1, rv, f, F, fd, ps, O', ρ1, ev, Fo, hk, hb, r1, s2⟩ => ?_) ht
  · refine ⟨by rw [List.length_map, hl]; exact Nat.le_trans hz (by rw [sizeLine_eq]; omega), fun p hp => ⟨_, ρ, r.hidden hp, ?_⟩⟩
    unfold xSel at st
    cases q : fi ρ with
    | err x ρ1 => rw [q] at st; exact fun cls d H2 st2 r2 ex => st cls d H2 ((EStp.same (same_upd hp)).trans st2) r2.unhide ex
    | bad => rw [q] at st; exact st
    | ok j ρ1 =>
      rw [q, bindR_ok] at st
      intro y H2 st2 r2 e2
      split at st
      case h_2 => exact st.elim
      rename_i i hd
      split at st
      case h_2 => exact st.elim
      rename_i F hF
      cases RelE.int e2 r2 hd
      have hF' := hF
      unfold atI at hF'
      cases qn : ixN Fs.length i with
      | none => rw [qn] at hF'; cases hF'
      | some m =>
        rw [qn] at hF'
        obtain ⟨f, fd, ps, hf, Fo, hk, hb⟩ := hat m F hF'
        have np := (r.fresh hp).2
        refine ⟨p, fs.map V.ref, i, .ref f, rfl, rfl, SqL.of (st2.ext _ _ upd_same np), ?_, f, F, fd, ps, O, ρ1, rfl, Fo, hk, hb, r2.unhide, Sat.shift st ((EStp.same (same_upd hp)).trans st2)⟩
        unfold atI
        rw [List.length_map, hl, qn]
        show (fs.map V.ref)[m]? = _
        rw [List.getElem?_map, hf]; rfl
  · subst ev
    obtain rfl : u = Value.ref f := rv
    refine PySem.W.callWith_K (h₀ := X.base) I1.ok.mod.kin hk (thn (ha.pa.run pos pins s1 σ H1 _ I1 (callD r1 hlen s2)) fun us s3 ⟨vs, H3, I3, r3, q3⟩ => ⟨I3.kIn, run_fnS Fo hr hb (hx σ) I3 r3 q3⟩) he hpl
end
end DL

namespace DL
open L2 PySem PySem.Spec PyProof.Rows

/-! ### the law's own def, run from the claim's caller alone (its guards are known) -/
def LawRun (P : Program) (w : World) (K : Frg) (mg : Mg) (base : Heap) (f : Addr) (fd : FuncData) (ps : List Str) (sp : Sp) : Prop :=
  ∀ (s : Shared) (H : Hp) (args : Args) (us : List Value) (vs : List V) (Q : VK), Env0 P w K mg base callerA [] s H → BindsTo s fd args (ps.zip us) → Vals vs us → sp vs H Q (fun _ _ _ => False) →
    codeAny (model P w) callerA (.call (.ref f) args) (CR (L2N.CX P w) [] P w H s Q (fun _ _ _ => False)) s
section
variable {P : Program} {w : World} {K : Frg} {mg : Mg} {base : Heap}
theorem law_run {x qual : Str} {st : Stmt} {f : Addr} {fd : FuncData} {N ps : List Str} {k : Nat} {body : DSt} (F : Fun K x qual st f fd) (S : FnScope N ps (defScope st)) (hroom : Room (k + 1) callerA)
    (hbody : ∀ (cdv : Value) (s : Shared) (H : Hp), Room k (callerA.deeper (envOfC qual (defScope st) s.heap.objs.size f cdv)) →
      L2N.Takes (cxN P w K mg base N qual st f cdv callerA [] s H (fun _ _ _ => False)) (fun _ _ _ _ => False) → PassesOwn (model P w) (cxN P w K mg base N qual st f cdv callerA [] s H (fun _ _ _ => False)).A (cxN P w K mg base N qual st f cdv callerA [] s H (fun _ _ _ => False)).env (cxN P w K mg base N qual st f cdv callerA [] s H (fun _ _ _ => False)).xe →
      DSs (cxN P w K mg base N qual st f cdv callerA [] s H (fun _ _ _ => False)) (fun _ _ _ _ => False) (defBody st) body) :
    LawRun P w K mg base f fd ps (spP K mg ps.length (runF N.length body)) := by
  obtain ⟨oc, od, kV, doc, pm, an, cdv, ct, osl, rfl, lk, hcd⟩ := F.ex
  intro s H args us vs Q e0 hb rv ⟨hl, O, ds, ho, ha, h⟩
  have KX : K.In s.heap := e0.mod.kin.keeps fun b o e => (e0.bs b o e).1
  have kinds : ∀ y ∈ ps.zip us, (defScope st).names.lookup y.1 = some .local ∨ ((defScope st).names.lookup y.1 = some .cell ∧ ((cellsFrom (s.heap.objs.size + 1) (defScope st).names []).lookup y.1).isSome = true) := by
    rintro ⟨n, v⟩ hy
    exact (S.par n (List.of_mem_zip hy).1).imp (fun q => q) fun q => ⟨q, PySem.W.cellsFrom_some _ _ _ (.inl q)⟩
  refine codeAny_call_function (show callerA.depth < recursionLimit from by have := hroom.dp; omega) (KX _ _ lk) rfl S.co S.gen rfl (PySem.W.codeRec_of KX hcd) (hb _ _ _ _ (wpAny_newFunctionEnv_cells S.kind kinds fun env he s1 x => ?_))
  cases he
  refine ⟨(e0.mod.nolimit.keeps fun b o e => (e0.bs b o e).1).keeps x.toInCall.keep, codeAny_func ?_⟩
  have I := L2.inv_start (CX := L2N.CX P w) (E := fun _ _ _ => False) S hroom.hd e0 hl rv x
  have B := hbody cdv s H (hroom.deeper _) (L2N.takes_of rfl rfl rfl rfl) (passes_of rfl)
  have now : ∀ a, ¬ Ow (L2.start N vs) (startD N.length ds) a := fun a ⟨i, b, c, e, _⟩ => startD_own e
  have same : ∀ {σ' : L2.St} {ρ' : DEnv} {H' : Hp}, SStp (L2.start N vs) (startD N.length ds) H σ' ρ' H' → Same H H' := fun st b o e => st.ext b o e (now b)
  have gvs : ∀ {σ' : L2.St} {ρ' : DEnv} {H' : Hp}, ∀ a o, Gv O σ' ρ' H' a = some o → Vis0 O H' a = some o := fun a o q => vis0.mpr ⟨(of_Gv q).1, (of_Gv q).2.2⟩
  have R : SatS K mg O (L2.start N vs) (startD N.length ds) H (fun _ _ _ _ => False) { nx := fun _ H' => Q .non H', rt := Q } (body (startD N.length ds)) := by
    change SatF K mg O H Q _ (match body (startD N.length ds) with
      | .nx _ => .ok (.val .none)
      | .rt v _ => .ok v
      | .err x _ => .err x
      | _ => .bad) at h
    cases q : body (startD N.length ds) with
    | nx ρ' => rw [q] at h; exact fun σ' H' st r => h .non H' (same st) .non
    | rt v ρ' =>
      rw [q] at h
      intro u σ' H' st r
      cases v with
      | val d => exact h u H' (same st) (dp_mono gvs _ _ r.2)
      | own c =>
        obtain ⟨p, rfl, ⟨r1, r2, r3, r4⟩, r5⟩ := r
        exact h p H' (same st) (r5.elim (fun z => absurd z (now p)) fun z => z) (r4.mono (fun a o z => vis0.mpr ⟨(of_Gv z).1, (of_Gv z).2.2⟩) fun _ z => z)
    | bk ρ' => rw [q] at h; exact h.elim
    | ct ρ' => rw [q] at h; exact h.elim
    | err x ρ' => rw [q] at h; exact fun cls d σ' H' st r ex => h cls d H' (same st) ex
    | bad => rw [q] at h; exact h.elim
  refine wpAny_mono (B.pss.run [] s1 (L2.start N vs) H { nx := fun _ H' => Q .non H', rt := Q } I ⟨O, startD N.length ds, start_rel ho ha, R⟩) (fun fl s' hs => ?_) fun e s' hs => hs
  cases fl with
  | ret u => exact let ⟨v, σ', H', J, rv', q⟩ := hs; ⟨v, H', J.os, J.bare, J.base, J.hok, rv', q⟩
  | next => exact let ⟨σ', H', J, q⟩ := hs; ⟨.non, H', J.os, J.bare, J.base, J.hok, (rfl : Value.none = Value.none), q⟩
  | brk => exact let ⟨_, _, _, q⟩ := hs; q.elim
  | cont => exact let ⟨_, _, _, q⟩ := hs; q.elim

/-- the heap as the law finds it: the script may be known, nothing else is -/
def Sees (K : Frg) (s : Shared) (a : Addr) (vs : List Value) (ns : List Int) (H : Hp) : Prop :=
  (∀ b u, H b = some u → b = a ∧ u = .frz { cls := .type "list", data := .seq vs.toArray } (.lst (ns.map V.int)) ∧ K.lookup a = none) ∧ SqL K H a (ns.map V.int) ∧ HOk P w H s.heap
theorem sees_env0 {s : Shared} {a : Addr} {vs : List Value} {ns : List Int} {H : Hp} {mb : Mg} (S : Sees (P := P) (w := w) K s a vs ns H) (ha : s.heap.get? a = some { cls := .type "list", data := .seq vs.toArray }) (KX : K.In s.heap) (hns : s.heap.Ns mainGlobals mg)
    (hb : s.heap.Ns builtinsNs mb) (hbb : ∀ x : Str, x ≠ "__name__" → mb x = bootBuiltins x) (hlim : s.heap.NoLimit) (hg : s.gens = #[]) :
    K.In (hidT s.heap H) ∧ (hidT s.heap H).Ns mainGlobals mg ∧ Env0 P w K mg (hidT s.heap H) callerA [] s H := by
  obtain ⟨only, _, hok⟩ := S
  have dicts : ∀ {b : Addr} {m : Mg}, s.heap.Ns b m → (hidT s.heap H).Ns b m := fun {b m} ⟨o, es, ep, e, d, r⟩ => by
    refine ⟨o, es, ep, hidT_get e ?_, d, r⟩
    cases q : H b with
    | none => rfl
    | some u =>
      obtain ⟨z, _, _⟩ := only b u q
      rw [z, ha] at e
      cases e
      have d' : Data.seq vs.toArray _ = Data.dict es ep := d
      cases d'
  have kin : K.In (hidT s.heap H) := fun b o e => hidT_get (KX b o e) (by
    cases q : H b with
    | none => rfl
    | some u =>
      obtain ⟨z, _, z2⟩ := only b u q
      rw [z, z2] at e; cases e)
  obtain ⟨mc, c1, c2⟩ := hlim
  exact ⟨kin, dicts hns, ⟨rfl, ⟨kin, dicts hns, ⟨mb, dicts hb, hbb⟩, ⟨mc, dicts c1, c2⟩⟩, fun b o e => of_hidT e, Nat.le_of_eq (hidT_size _ _), trivial, (fun b hb => nomatch (show b ∈ ([] : List Addr) from hb)), hok, .of_eq hg⟩⟩
theorem head_call {mb : Mg} {fa a : Addr} {fd : FuncData} {x : Str} {sp : Sp} {s₁ : Shared} {vs : List Value} {ns : List Int}
    (KX : K.In s₁.heap) (hns : s₁.heap.Ns mainGlobals mg) (hb : s₁.heap.Ns builtinsNs mb) (hbb : ∀ x : Str, x ≠ "__name__" → mb x = bootBuiltins x) (hlim : s₁.heap.NoLimit) (hg : s₁.gens = #[])
    (ha : s₁.heap.get? a = some { cls := .type "list", data := .seq vs.toArray }) (hi : IntsAre vs ns) (hl : ns.length ≤ sizeLine)
    (F : ∀ base : Heap, K.In base → base.Ns mainGlobals mg → LawRun P w K mg base fa fd [x] sp) (hbind : ∀ (s : Shared) (u : Value), BindsTo s fd ⟨[u], []⟩ [(x, u)])
    (hsp : ∀ H : Hp, SqL K H a (ns.map V.int) → sp [.ref a] H (fun v _ => v = .bl true) fun _ _ _ => False) :
    codeAny (model P w) callerA (.call (.ref fa) ⟨[.ref a], []⟩) (fun r s' => r = .ok (.ret (.bool true)) ∧ OldK s₁.heap s'.heap ∧ s'.os = s₁.os ∧ AllBare s'.gens) s₁ := by
  have rv := vals_ints hi
  have some_H : ∃ H, Sees (P := P) (w := w) K s₁ a vs ns H := by
    cases hk : K.lookup a with
    | some o =>
      have e := KX a o hk
      rw [ha] at e
      cases e
      exact ⟨fun _ => none, (fun b u z => nomatch (show (none : Option HO) = some u from z)), .inr ⟨_, vs.toArray, _, hk, rfl, rfl, rfl, by rw [List.size_toArray, hi.length]; exact hl, by simpa using rv⟩, (fun b u z => nomatch (show (none : Option HO) = some u from z))⟩
    | none =>
      have key : ∀ b u, (if b = a then some (HO.frz { cls := .type "list", data := .seq vs.toArray } (.lst (ns.map V.int))) else none) = some u → b = a ∧ u = .frz { cls := .type "list", data := .seq vs.toArray } (.lst (ns.map V.int)) := fun b u z => by
        split at z
        · rename_i hba; cases z; exact ⟨hba, rfl⟩
        · cases z
      refine ⟨fun b => if b = a then some (.frz { cls := .type "list", data := .seq vs.toArray } (.lst (ns.map V.int))) else none, fun b u z => ⟨(key b u z).1, (key b u z).2, hk⟩, .inl (.inr ⟨_, if_pos rfl⟩), fun b u z => ?_⟩
      obtain ⟨rfl, rfl⟩ := key b u z
      exact ⟨ha, by rw [List.length_map]; exact hl, vs, _, rv, ha⟩
  obtain ⟨H, S⟩ := some_H
  obtain ⟨k1, k2, e0⟩ := sees_env0 S ha KX hns hb hbb hlim hg
  refine codeAny_mono (F _ k1 k2 s₁ H ⟨[.ref a], []⟩ [.ref a] [.ref a] _ e0 (hbind s₁ (.ref a)) (.cons rfl .nil) (hsp H S.2.1)) fun r s' h => ?_
  cases r with
  | error e => obtain ⟨_, _, _, _, _, _, _, _, _, _, _, _, z⟩ := h; exact z.elim
  | ok fl =>
    cases fl with
    | next => exact False.elim h
    | brk => exact False.elim h
    | cont => exact False.elim h
    | ret u =>
      obtain ⟨v, H', os, bare, un, hok', r', q⟩ := h
      cases (show v = .bl true from q)
      cases (show u = Value.bool true from r')
      refine ⟨rfl, OldK.of_keep fun b o e => ?_, os, bare⟩
      cases z : H b with
      | none => exact un.keep b o e z (fun q => nomatch (show b ∈ ([] : List Addr) from q)) (fun q => nomatch (show b ∈ ([] : List Addr) from q))
      | some u =>
        obtain ⟨_, zu, _⟩ := S.1 b u z
        subst zu
        have t1 := (S.2.2 b _ z).1
        rw [e] at t1
        cases t1
        exact (hok' b _ (un.frzs b _ _ z)).1
theorem walk_D {l : PySem.W.OpenLaw} {n : Nat} {q : Program} {loose : List Str} {XP : (Str → Option Value) → Heap → Prop} {YP : World → Heap → Prop} {d : DefRec} {K : Params → Frg} {x : Str}
    (hn : l.most = some n) (hn2 : n ≤ sizeLine) (hdf : d.params.defaults = []) (hY : ∀ (w : World) (h : Heap), YP w h → (K w.params).In h)
    (F : ∀ (w : World) (mg : Mg) (fa : Addr) (h : Heap), (K w.params).In h → h.Ns mainGlobals mg → mg d.name = some (.ref fa) →
      ∃ (fd : FuncData) (Fl : Fn), (∀ (s : Shared) (u : Value), BindsTo s fd ⟨[u], []⟩ [(x, u)]) ∧ (∀ ns : List Int, ns.length ≤ n → (∀ z ∈ ns, Builtin.Int.intBits z ≤ 1048576) → Fl [.list (ns.map PyData.int)] = .ok (.val (.bool true))) ∧
        ∀ base : Heap, (K w.params).In base → base.Ns mainGlobals mg → LawRun l.prog w (K w.params) mg base fa fd [x] (spP (K w.params) mg 1 Fl)) :
    PySem.W.WalkO q loose XP YP l.row.toRowW d [] (fun f vs => PySem.call f vs) := by
  refine Att.attach_callB hn hdf fun w s₀ s₁ mg mb fa o pm cd doc a vs ns G Y ho hd hcd hmg hobj hints hlen hbits hg => ?_
  obtain ⟨fd, Fl, hb, hF, hrun⟩ := F w mg fa _ (hY w _ Y) G.T.g hmg
  refine head_call (hY w _ Y) G.T.g G.T.b G.T.builtins G.T.nolimit hg hobj hints (Nat.le_trans hlen hn2) hrun hb fun H hS => ⟨rfl, fun _ => False, [.list (ns.map PyData.int)], fun _ z => z.elim, ?_, ?_⟩
  · exact .cons (.lst (SqL.mono (fun b o e => vis0.mpr ⟨fun z => z, e⟩) hS) (DpAll.of_ints ns)) .nil
  · rw [hF ns hlen hbits]
    exact fun u H' _ hu => by cases hu; rfl
end
end DL

namespace DL
open L2 PySem PySem.Spec PyProof.Rows

/-! ### what the top has written -/
def Cst (mg : Mg) (x : Str) (n : Int) : Prop := ∃ t, mg x = some (.int n t)
theorem de_cint {X : Cx} {W : WX} {x : Str} {n : Int} {pos : Pos} (c : Cst X.mg x n) (hg : Gl X x := by rfl) (hd : (x == ("__debug__" : Str)) = false := by decide) : DE X W (.Name x pos) (xC (.int n)) := by
  obtain ⟨t, h⟩ := c
  exact de_glob (v := V.int n) h ⟨t, rfl⟩ (fun _ => L2.Dp.int n) hg hd
def Def (K : Frg) (mg : Mg) (x : Str) (st : Stmt) : Prop := ∃ f fd, Fun K x x st f fd ∧ mg x = some (.ref f)
def BindOk (x : Str) (st : Stmt) (ps : List Str) : Prop :=
  ∀ (kV doc pm : Value) (an : Option Addr) (cdv ct : Value) (us : List Value), us.length = ps.length → bindArgs (PySem.W.fnOf x x (defArgs st) (defBody st) (defScope st) .none kV doc pm an cdv ct) ⟨us, []⟩ = pure (ps.zip us)
theorem room_u {k : Nat} {A : Around} (r : Room k A) : A.units + 200 < cLine := by have := r.un; omega
section
variable {P : Program} {w : World} {K : Frg} {mg : Mg} {base : Heap}
theorem fok_data {x : Str} {st : Stmt} {N ps : List Str} {k : Nat} {body : DSt} (D : Def K mg x st) (S : FnScope N ps (defScope st)) (hb : BindOk x st ps)
    (hbody : ∀ (f : Addr) (cdv : Value) (A : Around) (outer : List Env) (s : Shared) (H : Hp) (E : XK), Room k (A.deeper (envOfC x (defScope st) s.heap.objs.size f cdv)) →
      L2N.Takes (cxN P w K mg base N x st f cdv A outer s H E) (fun cls d _ H => E cls d H) → PassesOwn (model P w) (cxN P w K mg base N x st f cdv A outer s H E).A (cxN P w K mg base N x st f cdv A outer s H E).env (cxN P w K mg base N x st f cdv A outer s H E).xe →
      DSs (cxN P w K mg base N x st f cdv A outer s H E) (fun cls d _ H => E cls d H) (defBody st) body) :
    FOk P w K mg base x (k + 1) ps (spP K mg ps.length (runF N.length body)) := by
  obtain ⟨f, fd, F, hm⟩ := D
  exact ⟨f, fd, fn_data F S (hbody f), hm, F.kp, F.binds hb⟩
theorem fok_io {x : Str} {st : Stmt} {N ps : List Str} {k : Nat} {body : DSt} (D : Def K mg x st) (S : FnScope N ps (defScope st)) (hN : 0 < N.length) (hb : BindOk x st ps)
    (hbody : ∀ (f : Addr) (cdv : Value) (A : Around) (outer : List Env) (s : Shared) (H : Hp) (E : XK), Room k (A.deeper (envOfC x (defScope st) s.heap.objs.size f cdv)) →
      L2N.Takes (cxN P w K mg base N x st f cdv A outer s H E) (fun cls d _ H => E cls d H) → PassesOwn (model P w) (cxN P w K mg base N x st f cdv A outer s H E).A (cxN P w K mg base N x st f cdv A outer s H E).env (cxN P w K mg base N x st f cdv A outer s H E).xe →
      DSs (cxN P w K mg base N x st f cdv A outer s H E) (fun cls d _ H => E cls d H) (defBody st) body) :
    FOk P w K mg base x (k + 1) ps (spI K ps.length (runI N.length body)) := by
  obtain ⟨f, fd, F, hm⟩ := D
  exact ⟨f, fd, fn_io F S hN (hbody f), hm, F.kp, F.binds hb⟩
theorem mflat_count : ∀ ds as z, mCount ds as = some z → ∃ v, flat z = some v := fun ds as z h => by
  unfold mCount at h
  split at h
  · split at h
    · cases h; exact ⟨_, rfl⟩
    · cases h
  · cases h
theorem mflat_index : ∀ ds as z, mIndex ds as = some z → ∃ v, flat z = some v := fun ds as z h => by
  unfold mIndex at h
  split at h
  · split at h
    · cases q : ds.findIdx? fun y => PyData.eqv y _ with
      | none => rw [q] at h; cases h
      | some j => rw [q] at h; cases h; exact ⟨_, rfl⟩
    · cases h
  · cases h

/-! ### a def that tells the kind of a caught exception -/
def KOk (P : Program) (w : World) (K : Frg) (mg : Mg) (base : Heap) (x : Str) (k : Nat) (c : Value) (hd : Exn → Option D) : Prop :=
  ∃ f fd ps, mg x = some (.ref f) ∧ PySem.W.keepIn K (.ref f) = true ∧ Binds K fd ps [] ∧ ∀ y d, hd y = some d → ∃ C, mg y.cls = some (.ref C) ∧ y.arg = none ∧ PySem.W.exmOne K (.ref C) c = some true ∧ (∃ v, flat d = some v) ∧ KFn P w K mg base k f fd ps C d
theorem suite_kind {X : Cx} {x n : Str} {k k' i : Nat} {c : Value} {hd : Exn → Option D} {q p pos : Pos} (Kk : KOk X.prog X.w X.K X.mg X.base x k c hd) (hr : Room k' X.A) (hk : k ≤ k') (hv : ∀ a pn, PE (X.suite a pn) (.Name n p) (tVar i)) (hg : Gl X x := by rfl) (hdb : (x == ("__debug__" : Str)) = false := by decide) :
    ∀ y d, hd y = some d → ∃ C, X.mg y.cls = some (.ref C) ∧ y.arg = none ∧ PySem.W.exmOne X.K (.ref C) c = some true ∧ ∀ (a : Addr) (oe : Obj) (pn : List (Addr × Obj)), L2N.Zn (.ref C) none oe → (∃ vs, oe.data = .fields vs) →
      ∃ f, DE (X.suite a ((a, oe) :: pn)) W0 (.Call (.Name x q) [.Name n p] [] pos) f ∧ ∀ ρ, ρ[i]? = some (some (.raw a)) → f ρ = .ok (.val d) ρ := by
  obtain ⟨f, fd, ps, hm, hkp, hb, h⟩ := Kk
  intro y d hy
  obtain ⟨C, h1, h2, h3, h4, F⟩ := h y d hy
  refine ⟨C, h1, h2, h3, fun a oe pn hz hfl => ?_⟩
  obtain ⟨vs, hvs⟩ := hfl
  have r := hr.mono hk
  refine ⟨xKind i a d, de_kind (X := X.suite a ((a, oe) :: pn)) (p := (a, oe)) ⟨rfl, vs, hvs, hz.2.2 vs hvs⟩ List.mem_cons_self hz F ⟨r.dp, r.un⟩ hm hkp hb (hv a _) h4 hg hdb, fun ρ e => ?_⟩
  unfold xKind
  rw [e]
  exact if_pos rfl
/-- a suite that hands back a constant -/
theorem suite_const {X : Cx} {x : Str} {i : Nat} {c : Value} {hd : Exn → Option D} {e : Expr} {d0 : D} (he : ∀ a pn, DE (X.suite a pn) W0 e (xC d0)) (h : ∀ y d, hd y = some d → d = d0 ∧ ∃ C, X.mg y.cls = some (.ref C) ∧ y.arg = none ∧ PySem.W.exmOne X.K (.ref C) c = some true) :
    ∀ y d, hd y = some d → ∃ C, X.mg y.cls = some (.ref C) ∧ y.arg = none ∧ PySem.W.exmOne X.K (.ref C) c = some true ∧ ∀ (a : Addr) (oe : Obj) (pn : List (Addr × Obj)), L2N.Zn (.ref C) none oe → (∃ vs, oe.data = .fields vs) →
      ∃ f, DE (X.suite a ((a, oe) :: pn)) W0 e f ∧ ∀ ρ, ρ[i]? = some (some (.raw a)) → f ρ = .ok (.val d) ρ := fun y d hy => by
  obtain ⟨rfl, C, h1, h2, h3⟩ := h y d hy
  exact ⟨C, h1, h2, h3, fun a oe pn _ _ => ⟨_, he a _, fun ρ _ => rfl⟩⟩
theorem kok_of {x : Str} {st : Stmt} {N ps : List Str} {k : Nat} {c : Value} {hd : Exn → Option D} (D : Def K mg x st) (S : FnScope N ps (defScope st)) (hb : BindOk x st ps) (h1 : ps.length = 1) (hN : 0 < N.length)
    (h : ∀ y d, hd y = some d → ∃ C, mg y.cls = some (.ref C) ∧ y.arg = none ∧ PySem.W.exmOne K (.ref C) c = some true ∧ (∃ v, flat d = some v) ∧ ∃ body : Addr → DSt, (∀ a, ∃ ρ', body a (startK N.length a) = .rt (.val d) ρ') ∧
      ∀ (f : Addr) (cdv : Value) (A : Around) (outer : List Env) (s : Shared) (H : Hp) (E : XK) (p : Addr × Obj), L2H.Hot1 A p → L2N.Zn (.ref C) none p.2 → L2H.RoomH k (A.deeper (envOfC x (defScope st) s.heap.objs.size f cdv)) →
        DSs (L2H.cxH (L2N.CX P w) P w K mg base N x (defScope st) f cdv A outer s H E p) W0 (defBody st) (body p.1)) : KOk P w K mg base x (k + 1) c hd := by
  obtain ⟨f, fd, F, hm⟩ := D
  refine ⟨f, fd, ps, hm, F.kp, F.binds hb, fun y d hy => ?_⟩
  obtain ⟨C, k1, k2, k3, k4, body, k5, k6⟩ := h y d hy
  exact ⟨C, k1, k2, k3, k4, kfn_of F S h1 hN (k6 f) k5⟩
end
theorem de_isT {X : Cx} {W : WX} {i : Nat} {a C : Addr} {oe : Obj} {b : Bool} {x y : Str} {p px py pos : Pos} (c : ExcC X.K C) (hp : (a, oe) ∈ X.pn) (hz : Zc (.ref C) none oe) (hf : ∃ vs, oe.data = .fields vs) (hm : X.mg "isinstance" = none) (hb : bootBuiltins "isinstance" = some (.builtin "isinstance")) (hv : PE X (.Name x px) (tVar i))
    (hk : ∃ G, X.mg y = some (.ref G) ∧ PySem.W.kitOne X.K (.ref C) (.ref G) = some b) (hg : Gl X "isinstance" := by rfl) (hgy : Gl X y := by rfl) (hdy : (y == ("__debug__" : Str)) = false := by decide)
    (hs : starEach [.Name x px, .Name y py] X.env = (false, eval (.Name x px) X.env) :: starEach [.Name y py] X.env := by rfl) (hs2 : starEach [.Name y py] X.env = (false, eval (.Name y py) X.env) :: starEach [] X.env := by rfl) (hpl : (backTo pos (starEach [.Name y py] X.env)).any (·.1) = false := by rfl) :
    DE X W (.Call (.Name "isinstance" p) [.Name x px, .Name y py] [] pos) (xIs i a b) := by
  obtain ⟨G, h1, h2⟩ := hk
  exact de_isE hp c hz hf hm hb hv h1 h2 hg hgy hdy hs hs2 hpl
theorem kit_of {K : Frg} {C E : Addr} {b : Bool} (h2 : PySem.W.hasDictIn K E = true) (h3 : PySem.W.typeIn K (.ref E) = some (.type "type")) (h4 : PySem.W.subIn K (.ref C) (.ref E) = some b) (h5 : PySem.W.subIn K (.ref E) (.ref E) = some true) : PySem.W.kitOne K (.ref C) (.ref E) = some b := by
  obtain ⟨cd, hc, _⟩ := PySem.W.any_some h2
  have e2 : ((PySem.W.clsIn K E).isSome && PySem.W.typeIn K (.ref E) == some (.type "type")) = true := by rw [hc, h3] <;> rfl
  unfold PySem.W.kitOne
  by_cases q : (Value.ref C == Value.ref E) = true
  · rw [if_pos q]
    cases beq_iff_eq.mp q
    rw [h5] at h4
    exact h4
  · rw [if_neg q]
    show (if ((PySem.W.clsIn K E).isSome && PySem.W.typeIn K (.ref E) == some (.type "type")) = true then PySem.W.subIn K (.ref C) (.ref E) else none) = some b
    rw [if_pos e2]
    exact h4
theorem u_count {n : Nat} (h : n + 200 < cLine) : n + 66 < cLine := by omega
theorem u_index {n : Nat} (h : n + 200 < cLine) : n + 65 < cLine := by omega
/-- what a table of kinds tells -/
def kindD (tab : List (Str × Str)) : Exn → Option D := fun y => if y.arg.isSome = true then none else (tab.lookup y.cls).map PyData.str
theorem kindD_mem {tab : List (Str × Str)} {y : Exn} {d : D} (h : kindD tab y = some d) : ∃ x z, (x, z) ∈ tab ∧ y = ⟨x, none⟩ ∧ d = .str z := by
  obtain ⟨cls, arg⟩ := y
  unfold kindD at h
  cases arg with
  | some _ => cases h
  | none =>
    change (tab.lookup cls).map PyData.str = some d at h
    cases q : tab.lookup cls with
    | none => rw [q] at h; cases h
    | some z => rw [q] at h; cases h; exact ⟨cls, z, PySem.mem_of_lookup q, rfl, rfl⟩
end DL

namespace DL
open L2 PySem PySem.Spec PyProof.Rows

/-! ### the mirrors, stepped by simp -/
section
variable {α β γ : Type} {ρ : DEnv} {i j : Nat} {fa fb fc : DX} {ta tb : DEnv → Res Bool} {g h : DSt} {ga : DEnv → Res (List EV)} {fl : DEnv → Res Cell}
@[simp] theorem sl_eq : (sizeLine : Nat) = 16777216 := sizeLine_eq
@[simp] theorem xVar_ap : xVar i ρ = match ρ[i]? with
  | some (some (.val d)) => .ok (.val d) ρ
  | some (some (.own _ _)) => .ok (.bor i) ρ
  | _ => .bad := (Eq.refl _).trans (Eq.refl _)
@[simp] theorem xC_ap {d : D} : xC d ρ = .ok (.val d) ρ := (Eq.refl _).trans (Eq.refl _)
@[simp] theorem deref_val {d : D} : deref ρ (.val d) = some d := (Eq.refl _).trans (Eq.refl _)
@[simp] theorem deref_bor : deref ρ (.bor i) = match ρ[i]? with
  | some (some (.own _ (.lst ds))) => some (.list ds)
  | some (some (.val d)) => some d
  | _ => none := (Eq.refl _).trans (Eq.refl _)
@[simp] theorem keep_val {d : D} : keep (.val d) ρ = some (d, ρ) := (Eq.refl _).trans (Eq.refl _)
@[simp] theorem keep_bor : keep (.bor i) ρ = match ρ[i]? with
  | some (some (.own false (.lst ds))) => some (.list ds, ρ.set i (some (.val (.list ds))))
  | some (some (.val d)) => some (d, ρ)
  | _ => none := (Eq.refl _).trans (Eq.refl _)
@[simp] theorem keeps_nil : keeps [] ρ = some ([], ρ) := (Eq.refl _).trans (Eq.refl _)
@[simp] theorem keeps_cons {v : EV} {vs : List EV} : keeps (v :: vs) ρ = match keep v ρ with
    | some (d, ρ1) => match keeps vs ρ1 with
      | some (ds, ρ2) => some (d :: ds, ρ2)
      | none => none
    | none => none := (Eq.refl _).trans (Eq.refl _)
@[simp] theorem derefs_nil : derefs ρ [] = some [] := (Eq.refl _).trans (Eq.refl _)
@[simp] theorem derefs_cons {v : EV} {vs : List EV} : derefs ρ (v :: vs) = match deref ρ v with
    | some d => match derefs ρ vs with
      | some ds => some (d :: ds)
      | none => none
    | none => none := (Eq.refl _).trans (Eq.refl _)
@[simp] theorem x2_ap {k : D → D → Option D} : x2 k fa fb ρ = bindR (fa ρ) fun a ρ1 => bindR (fb ρ1) fun b ρ2 => optR (deref ρ2 a) fun d => optR (deref ρ2 b) fun e => optR (k d e) fun z => .ok (.val z) ρ2 := (Eq.refl _).trans (Eq.refl _)
@[simp] theorem x2L_ap {k : D → D → Option (List D)} : x2L k fa fb ρ = bindR (fa ρ) fun a ρ1 => bindR (fb ρ1) fun b ρ2 => optR (deref ρ2 a) fun d => optR (deref ρ2 b) fun e => optR (k d e) fun z => .ok (.lst z) ρ2 := (Eq.refl _).trans (Eq.refl _)
@[simp] theorem x1_ap {k : D → Option D} : x1 k fa ρ = bindR (fa ρ) fun a ρ1 => optR (deref ρ1 a) fun d => optR (k d) fun z => .ok (.val z) ρ1 := (Eq.refl _).trans (Eq.refl _)
@[simp] theorem xt2_ap {k : D → D → Option Bool} : xt2 k fa fb ρ = bindR (fa ρ) fun a ρ1 => bindR (fb ρ1) fun b ρ2 => optR (deref ρ2 a) fun d => optR (deref ρ2 b) fun e => optR (k d e) fun z => .ok z ρ2 := (Eq.refl _).trans (Eq.refl _)
@[simp] theorem xTr_ap : xTr fa ρ = bindR (fa ρ) fun a ρ1 => optR (deref ρ1 a) fun d => optR (truthD d) fun k => .ok k ρ1 := (Eq.refl _).trans (Eq.refl _)
@[simp] theorem xChain_ap {k k' : D → D → Option Bool} : xChain k k' fa fb fc ρ = bindR (fa ρ) fun a ρ1 => bindR (fb ρ1) fun b ρ2 => optR (deref ρ2 a) fun d => optR (deref ρ2 b) fun e => optR (k d e) fun z =>
  if z = true then bindR (fc ρ2) fun c ρ3 => optR (deref ρ3 b) fun e' => optR (deref ρ3 c) fun f => optR (k' e' f) fun z' => .ok z' ρ3 else .ok false ρ2 := (Eq.refl _).trans (Eq.refl _)
@[simp] theorem xOfT_ap : xOfT ta ρ = bindR (ta ρ) fun k ρ1 => .ok (.val (.bool k)) ρ1 := (Eq.refl _).trans (Eq.refl _)
@[simp] theorem xtNot_ap : xtNot ta ρ = bindR (ta ρ) fun k ρ1 => .ok (!k) ρ1 := (Eq.refl _).trans (Eq.refl _)
@[simp] theorem xtAnd_ap : xtAnd ta tb ρ = bindR (ta ρ) fun k ρ1 => if k = true then tb ρ1 else .ok false ρ1 := (Eq.refl _).trans (Eq.refl _)
@[simp] theorem xtOr_ap : xtOr ta tb ρ = bindR (ta ρ) fun k ρ1 => if k = true then .ok true ρ1 else tb ρ1 := (Eq.refl _).trans (Eq.refl _)
@[simp] theorem xAnd_ap : xAnd fa fb ρ = bindR (fa ρ) fun a ρ1 => optR (deref ρ1 a) fun d => optR (truthD d) fun k => if k = true then fb ρ1 else .ok a ρ1 := (Eq.refl _).trans (Eq.refl _)
@[simp] theorem xOr_ap : xOr fa fb ρ = bindR (fa ρ) fun a ρ1 => optR (deref ρ1 a) fun d => optR (truthD d) fun k => if k = true then .ok a ρ1 else fb ρ1 := (Eq.refl _).trans (Eq.refl _)
@[simp] theorem xNot_ap : xNot fa ρ = bindR (fa ρ) fun a ρ1 => optR (deref ρ1 a) fun d => optR (truthD d) fun k => .ok (.val (.bool (!k))) ρ1 := (Eq.refl _).trans (Eq.refl _)
@[simp] theorem xIf_ap : xIf ta fa fb ρ = bindR (ta ρ) fun k ρ1 => if k = true then fa ρ1 else fb ρ1 := (Eq.refl _).trans (Eq.refl _)
@[simp] theorem aNil_ap : aNil ρ = .ok [] ρ := (Eq.refl _).trans (Eq.refl _)
@[simp] theorem aCons_ap : aCons fa ga ρ = bindR (fa ρ) fun v ρ1 => bindR (ga ρ1) fun vs ρ2 => .ok (v :: vs) ρ2 := (Eq.refl _).trans (Eq.refl _)
@[simp] theorem xTup_ap : xTup ga ρ = bindR (ga ρ) fun vs ρ1 => optR (keeps vs ρ1) fun p => if p.1.length ≤ sizeLine then .ok (.val (.tuple p.1)) p.2 else .bad := (Eq.refl _).trans (Eq.refl _)
@[simp] theorem xLst_ap : xLst ga ρ = bindR (ga ρ) fun vs ρ1 => optR (keeps vs ρ1) fun p => if p.1.length ≤ sizeLine then .ok (.lst p.1) p.2 else .bad := (Eq.refl _).trans (Eq.refl _)
def cellR (c : Cell) (ρ' : DEnv) : Res EV := match c with
  | .lst ds => .ok (.val (.list ds)) ρ'
  | _ => .bad
@[simp] theorem cellR_lst {ds : List D} : cellR (.lst ds) ρ = .ok (.val (.list ds)) ρ := (Eq.refl _).trans (Eq.refl _)
@[simp] theorem ofL_ap : ofL fl ρ = bindR (fl ρ) cellR := (Eq.refl _).trans (Eq.refl _)
@[simp] theorem xCB_ap {k : List D → Option D} : xCB k ga ρ = bindR (ga ρ) fun vs ρ1 => optR (derefs ρ1 vs) fun ds => optR (k ds) fun z => .ok (.val z) ρ1 := (Eq.refl _).trans (Eq.refl _)
@[simp] theorem xCBL_ap {k : List D → Option (List D)} : xCBL k ga ρ = bindR (ga ρ) fun vs ρ1 => optR (derefs ρ1 vs) fun ds => optR (k ds) fun z => .ok (.lst z) ρ1 := (Eq.refl _).trans (Eq.refl _)
@[simp] theorem optR_ite {c : Prop} [Decidable c] {a b : Option α} {k : α → Res β} : optR (if c then a else b) k = if c then optR a k else optR b k := by split <;> rfl
@[simp] theorem optF_ite {c : Prop} [Decidable c] {a b : Option α} {k : α → Fl} : optF (if c then a else b) k = if c then optF a k else optF b k := by split <;> rfl
@[simp] theorem bindR_ite {c : Prop} [Decidable c] {a b : Res α} {k : α → DEnv → Res β} : bindR (if c then a else b) k = if c then bindR a k else bindR b k := by split <;> rfl
@[simp] theorem bindF_ite {c : Prop} [Decidable c] {a b : Res α} {k : α → DEnv → Fl} : bindF (if c then a else b) k = if c then bindF a k else bindF b k := by split <;> rfl
@[simp] theorem seqF_ite {c : Prop} [Decidable c] {a b : Fl} : seqF (if c then a else b) g = if c then seqF a g else seqF b g := by split <;> rfl
@[simp] theorem gNext_ap : gNext ρ = .nx ρ := (Eq.refl _).trans (Eq.refl _)
@[simp] theorem gSeq_ap : gSeq g h ρ = seqF (g ρ) h := (Eq.refl _).trans (Eq.refl _)
@[simp] theorem gBreak_ap : gBreak ρ = .bk ρ := (Eq.refl _).trans (Eq.refl _)
@[simp] theorem gCont_ap : gCont ρ = .ct ρ := (Eq.refl _).trans (Eq.refl _)
@[simp] theorem gIf_ap : gIf ta g h ρ = bindF (ta ρ) fun k ρ1 => if k = true then g ρ1 else h ρ1 := (Eq.refl _).trans (Eq.refl _)
@[simp] theorem gExpr_ap : gExpr fa ρ = bindF (fa ρ) fun _ ρ1 => .nx ρ1 := (Eq.refl _).trans (Eq.refl _)
@[simp] theorem gRet_ap : gRet fa ρ = bindF (fa ρ) fun v ρ1 => optF (keep v ρ1) fun p => .rt (.val p.1) p.2 := (Eq.refl _).trans (Eq.refl _)
@[simp] theorem gRetL_ap : gRetL fl ρ = bindF (fl ρ) fun c ρ1 => .rt (.own c) ρ1 := (Eq.refl _).trans (Eq.refl _)
@[simp] theorem gRetN_ap : gRetN ρ = .rt (.val .none) ρ := (Eq.refl _).trans (Eq.refl _)
@[simp] theorem gRetOwn_ap : gRetOwn i ρ = match ρ[i]? with
  | some (some (.own false c)) => .rt (.own c) (ρ.set i none)
  | _ => .bad := (Eq.refl _).trans (Eq.refl _)
@[simp] theorem isIo_none : isIo none = false := (Eq.refl _).trans (Eq.refl _)
@[simp] theorem isIo_some {x : Option SV} : isIo (some x) = match x with
  | some (.own true _) => true
  | _ => false := by
  cases x with
  | none => rfl
  | some v => cases v <;> first | rfl | (rename_i b _; cases b <;> rfl)
@[simp] theorem isOwn_none : isOwn none = false := (Eq.refl _).trans (Eq.refl _)
@[simp] theorem isOwn_some {x : Option SV} : isOwn (some x) = match x with
  | some (.own _ _) => true
  | _ => false := by
  cases x with
  | none => rfl
  | some v => cases v <;> rfl
@[simp] theorem gSet_ap : gSet i fa ρ = bindF (fa ρ) fun v ρ1 => optF (keep v ρ1) fun p => if isIo p.2[i]? = true then .bad else .nx (p.2.set i (some (.val p.1))) := (Eq.refl _).trans (Eq.refl _)
@[simp] theorem gSetL_ap : gSetL i fl ρ = bindF (fl ρ) fun c ρ1 => if isIo ρ1[i]? = true then .bad else .nx (ρ1.set i (some (.own false c))) := (Eq.refl _).trans (Eq.refl _)
@[simp] theorem gPar_ap : gPar i j ga ρ = bindF (ga ρ) fun vs ρ1 => optF (keeps vs ρ1) fun p => match p.1 with
  | [d, e] => if (isIo p.2[i]? || isIo (p.2.set i (some (.val d)))[j]?) = true then .bad else .nx ((p.2.set i (some (.val d))).set j (some (.val e)))
  | _ => .bad := (Eq.refl _).trans (Eq.refl _)
@[simp] theorem gAsg_ap {bind : D → DEnv → Option DEnv} : gAsg fa bind ρ = bindF (fa ρ) fun v ρ1 => optF (keep v ρ1) fun p => optF (bind p.1 p.2) fun ρ3 => .nx ρ3 := (Eq.refl _).trans (Eq.refl _)
@[simp] theorem gRaise_ap {x : Str} : gRaise x ρ = .err ⟨x, none⟩ ρ := (Eq.refl _).trans (Eq.refl _)
@[simp] theorem gTry_ap {hd : Exn → Option D} : gTry i g hd ρ = match g ρ with
  | .err x ρ1 => if (ρ1[i]?.isNone || isIo ρ1[i]?) = true then .bad else match hd x with
    | some d => .rt (.val d) (ρ1.set i none)
    | none => .bad
  | z => z := (Eq.refl _).trans (Eq.refl _)
@[simp] theorem truthD_none : truthD .none = some false := (Eq.refl _).trans (Eq.refl _)
@[simp] theorem truthD_bool {b : Bool} : truthD (.bool b) = some b := (Eq.refl _).trans (Eq.refl _)
@[simp] theorem truthD_int {n : Int} : truthD (.int n) = some (n != 0) := (Eq.refl _).trans (Eq.refl _)
@[simp] theorem truthD_list {ds : List D} : truthD (.list ds) = some (!ds.isEmpty) := (Eq.refl _).trans (Eq.refl _)
@[simp] theorem truthD_tuple {ds : List D} : truthD (.tuple ds) = some (!ds.isEmpty) := (Eq.refl _).trans (Eq.refl _)
@[simp] theorem kB_ap {k : D → D → Option Bool} {d e : D} : kB k d e = (k d e).map .bool := (Eq.refl _).trans (Eq.refl _)
@[simp] theorem optR_map {f : α → γ} {o : Option α} {k : γ → Res β} : optR (o.map f) k = optR o fun a => k (f a) := by cases o <;> rfl
@[simp] theorem kAdd_int {a b : Int} : kAdd (.int a) (.int b) = some (.int (a + b)) := (Eq.refl _).trans (Eq.refl _)
@[simp] theorem kAdd_tup {a b : List D} : kAdd (.tuple a) (.tuple b) = if a.length + b.length ≤ sizeLine then some (.tuple (a ++ b)) else none := (Eq.refl _).trans (Eq.refl _)
@[simp] theorem kSub_int {a b : Int} : kSub (.int a) (.int b) = some (.int (a - b)) := (Eq.refl _).trans (Eq.refl _)
@[simp] theorem kNeg_int {a : Int} : kNeg (.int a) = some (.int (-a)) := (Eq.refl _).trans (Eq.refl _)
@[simp] theorem kMul_int {a b : Int} : kMul (.int a) (.int b) = if mulOk a b = true then some (.int (a * b)) else none := (Eq.refl _).trans (Eq.refl _)
@[simp] theorem kMulT_ap {a : List D} {b : Int} : kMulT (.tuple a) (.int b) = if b ≤ 1000 ∧ a.length ≤ 1000 ∧ -1000 ≤ b then some (.tuple (List.replicate b.toNat a).flatten) else none := (Eq.refl _).trans (Eq.refl _)
@[simp] theorem kDiv_int {a b : Int} : kDiv (.int a) (.int b) = if divOk b = true then some (.int (a.fdiv b)) else none := (Eq.refl _).trans (Eq.refl _)
@[simp] theorem kMod_int {a b : Int} : kMod (.int a) (.int b) = if b ≠ 0 then some (.int (a.fmod b)) else none := (Eq.refl _).trans (Eq.refl _)
@[simp] theorem kAddL_ap {a b : List D} : kAddL (.list a) (.list b) = if a.length + b.length ≤ sizeLine then some (a ++ b) else none := (Eq.refl _).trans (Eq.refl _)
@[simp] theorem kLt_int {a b : Int} : kLt (.int a) (.int b) = some (decide (a < b)) := (Eq.refl _).trans (Eq.refl _)
@[simp] theorem kGt_int {a b : Int} : kGt (.int a) (.int b) = some (decide (b < a)) := (Eq.refl _).trans (Eq.refl _)
@[simp] theorem kLe_int {a b : Int} : kLe (.int a) (.int b) = some (decide (a ≤ b)) := (Eq.refl _).trans (Eq.refl _)
@[simp] theorem kGe_int {a b : Int} : kGe (.int a) (.int b) = some (decide (b ≤ a)) := (Eq.refl _).trans (Eq.refl _)
@[simp] theorem kEq_int {a b : Int} : kEq (.int a) (.int b) = some (decide (a = b)) := by
  simp [kEq, SeqAt.shaped, PyData.canLay0, PyData.depth, PyData.eqv]; rfl
@[simp] theorem kNe_int {a b : Int} : kNe (.int a) (.int b) = some (!decide (a = b)) := by
  simp [kNe, SeqAt.shaped, PyData.canLay0, PyData.depth, PyData.eqv]; rfl
@[simp] theorem kNe_str {a b : Str} : kNe (.str a) (.str b) = some (!decide (a = b)) := (Eq.refl _).trans (Eq.refl _)
@[simp] theorem kEq_str {a b : Str} : kEq (.str a) (.str b) = some (decide (a = b)) := (Eq.refl _).trans (Eq.refl _)
@[simp] theorem kIs_none {d : D} : kIs d .none = some (match d with
  | .none => true
  | _ => false) := by cases d <;> rfl
@[simp] theorem kIsNot_bool {a b : Bool} : kIsNot (.bool a) (.bool b) = some (!(a == b)) := (Eq.refl _).trans (Eq.refl _)
@[simp] theorem kLen_list {ds : List D} : kLen [.list ds] = some (.int ds.length) := (Eq.refl _).trans (Eq.refl _)
@[simp] theorem kLen_tup {ds : List D} : kLen [.tuple ds] = some (.int ds.length) := (Eq.refl _).trans (Eq.refl _)
@[simp] theorem kInt_int {n : Int} : kInt [.int n] = some (.int n) := (Eq.refl _).trans (Eq.refl _)
@[simp] theorem kTuple_list {ds : List D} : kTuple [.list ds] = some (.tuple ds) := (Eq.refl _).trans (Eq.refl _)
@[simp] theorem kTuple_tup {ds : List D} : kTuple [.tuple ds] = some (.tuple ds) := (Eq.refl _).trans (Eq.refl _)
@[simp] theorem kIx_list {ds : List D} {n : Int} : kIx (.list ds) (.int n) = atI ds n := (Eq.refl _).trans (Eq.refl _)
@[simp] theorem kIx_tup {ds : List D} {n : Int} : kIx (.tuple ds) (.int n) = atI ds n := (Eq.refl _).trans (Eq.refl _)
@[simp] theorem atI_zero {d : α} {ds : List α} : atI (d :: ds) 0 = some d := by simp [atI, ixN]
theorem atI_nat {ds : List α} {n : Nat} {d : α} (h : ds[n]? = some d) : atI ds n = some d := by
  have hl : n < ds.length := (List.getElem?_eq_some_iff.mp h).1
  unfold atI ixN
  have e : (0 : Int) ≤ (n : Int) := Int.natCast_nonneg n
  have e2 : (n : Int) < (ds.length : Int) := by omega
  simp [e, e2, h]
@[simp] theorem bName_ap {d : D} : bName i d ρ = if isIo ρ[i]? = true then none else some (ρ.set i (some (.val d))) := (Eq.refl _).trans (Eq.refl _)
@[simp] theorem bTup_ap {r : List D → DEnv → Option DEnv} {ds : List D} : bTup r (.tuple ds) ρ = r ds ρ := (Eq.refl _).trans (Eq.refl _)
@[simp] theorem bNil_ap : bNil [] ρ = some ρ := (Eq.refl _).trans (Eq.refl _)
@[simp] theorem iSeq_ap : iSeq fa ρ = bindR (fa ρ) fun v ρ1 => optR (keep v ρ1) fun p => optR (itemsD p.1) fun ds => .ok ds p.2 := (Eq.refl _).trans (Eq.refl _)
@[simp] theorem itemsD_list {ds : List D} : itemsD (.list ds) = some ds := (Eq.refl _).trans (Eq.refl _)
@[simp] theorem itemsD_tup {ds : List D} : itemsD (.tuple ds) = some ds := (Eq.refl _).trans (Eq.refl _)
@[simp] theorem gFor_ap {it : DEnv → Res (List D)} {bind : D → DEnv → Option DEnv} : gFor it bind g ρ = bindF (it ρ) fun ds ρ1 => forD bind g ds ρ1 := (Eq.refl _).trans (Eq.refl _)
@[simp] theorem wipeD_nil : wipeD ρ [] = ρ := (Eq.refl _).trans (Eq.refl _)
@[simp] theorem wipeD_cons {v : Nat} {vs : List Nat} : wipeD ρ (v :: vs) = (wipeD ρ vs).set v none := (Eq.refl _).trans (Eq.refl _)
@[simp] theorem backD_nil {ρ' : DEnv} : backD ρ ρ' [] = ρ' := (Eq.refl _).trans (Eq.refl _)
@[simp] theorem backD_cons {ρ' : DEnv} {v : Nat} {vs : List Nat} : backD ρ ρ' (v :: vs) = (backD ρ ρ' vs).set v (ρ[v]?.join) := (Eq.refl _).trans (Eq.refl _)
@[simp] theorem pNo_ap : pNo ρ = .ok none ρ := (Eq.refl _).trans (Eq.refl _)
@[simp] theorem tTrue_ap : tTrue ρ = .ok true ρ := (Eq.refl _).trans (Eq.refl _)
@[simp] theorem flat_int {n : Int} : flat (.int n) = some (.int n) := (Eq.refl _).trans (Eq.refl _)
@[simp] theorem flat_bool {b : Bool} : flat (.bool b) = some (.bl b) := (Eq.refl _).trans (Eq.refl _)
@[simp] theorem flat_none : flat .none = some .non := (Eq.refl _).trans (Eq.refl _)
@[simp] theorem flat_str {x : Str} : flat (.str x) = some (.str x) := (Eq.refl _).trans (Eq.refl _)
@[simp] theorem flat_tup {ds : List D} : flat (.tuple ds) = none := (Eq.refl _).trans (Eq.refl _)
@[simp] theorem flat_list {ds : List D} : flat (.list ds) = none := (Eq.refl _).trans (Eq.refl _)
@[simp] theorem xIs_ap {a : Addr} {b : Bool} : xIs i a b ρ = match ρ[i]? with
  | some (some (.raw x)) => if x = a then .ok (.val (.bool b)) ρ else .bad
  | _ => .bad := (Eq.refl _).trans (Eq.refl _)
@[simp] theorem xMr_ap {m : List D → List D → Option D} : xMr m fa ga ρ = bindR (fa ρ) fun a ρ1 => match deref ρ1 a with
  | some (.list _) => bindR (ga ρ1) fun vs ρ2 => match deref ρ2 a with
    | some (.list ds) => optR (derefs ρ2 vs) fun as => optR (m ds as) fun z => .ok (.val z) ρ2
    | _ => .bad
  | _ => .bad := (Eq.refl _).trans (Eq.refl _)
end

/-! ### what a def answers -/
section
variable {m : Nat} {b : DSt} {ds : List D}
theorem runF_rt {v : RV} {ρ : DEnv} (h : b (startD m ds) = .rt v ρ) : runF m b ds = .ok v := by
  unfold runF
  unfold startD at h
  rw [h]
theorem runF_nx {ρ : DEnv} (h : b (startD m ds) = .nx ρ) : runF m b ds = .ok (.val .none) := by
  unfold runF
  unfold startD at h
  rw [h]
theorem runF_err {x : Exn} {ρ : DEnv} (h : b (startD m ds) = .err x ρ) : runF m b ds = .err x := by
  unfold runF
  unfold startD at h
  rw [h]
/-- the value alone -/
def outF : Fl → RF
  | .nx _ => .ok (.val .none)
  | .rt v _ => .ok v
  | .err x _ => .err x
  | _ => .bad
theorem runF_out : runF m b ds = outF (b (startD m ds)) := by
  unfold runF outF
  change (match b (startD m ds) with
    | .nx _ => RF.ok (.val .none)
    | .rt v _ => .ok v
    | .err x _ => .err x
    | _ => .bad) = _
  cases b (startD m ds) <;> rfl
@[simp] theorem outF_nx {ρ : DEnv} : outF (.nx ρ) = .ok (.val .none) := (Eq.refl _).trans (Eq.refl _)
@[simp] theorem outF_rt {v : RV} {ρ : DEnv} : outF (.rt v ρ) = .ok v := (Eq.refl _).trans (Eq.refl _)
@[simp] theorem outF_err {x : Exn} {ρ : DEnv} : outF (.err x ρ) = .err x := (Eq.refl _).trans (Eq.refl _)
@[simp] theorem outF_ite {c : Prop} [Decidable c] {a b : Fl} : outF (if c then a else b) = if c then outF a else outF b := by split <;> rfl
theorem ret_of {fl : Fl} {d : D} (h : outF fl = .ok (.val d)) (h2 : ∀ ρ, fl ≠ .nx ρ) : ∃ ρ, fl = .rt (.val d) ρ := by
  cases fl with
  | nx ρ => exact absurd rfl (h2 ρ)
  | rt v ρ => cases h; exact ⟨ρ, rfl⟩
  | bk ρ => cases h
  | ct ρ => cases h
  | err x ρ => cases h
  | bad => cases h
end

/-! ### comprehensions -/
def cs1 {β : Type} (o : Option DEnv) (k : DEnv → Option β) : Option β := match o with
  | some ρ => k ρ
  | none => none
def csT {β : Type} (r : Res Bool) (kt kf : DEnv → Option β) : Option β := match r with
  | .ok true ρ => kt ρ
  | .ok false ρ => kf ρ
  | _ => none
def csE {β : Type} (r : Res EV) (k : EV → DEnv → Option β) : Option β := match r with
  | .ok v ρ => k v ρ
  | _ => none
def csK {β : Type} (o : Option (D × DEnv)) (k : D → DEnv → Option β) : Option β := match o with
  | some p => k p.1 p.2
  | none => none
section
variable {β : Type} {ρ : DEnv}
@[simp] theorem cs1_some {k : DEnv → Option β} : cs1 (some ρ) k = k ρ := (Eq.refl _).trans (Eq.refl _)
@[simp] theorem cs1_ite {c : Prop} [Decidable c] {a b : Option DEnv} {k : DEnv → Option β} : cs1 (if c then a else b) k = if c then cs1 a k else cs1 b k := by split <;> rfl
@[simp] theorem csT_ok {z : Bool} {kt kf : DEnv → Option β} : csT (.ok z ρ) kt kf = if z = true then kt ρ else kf ρ := by cases z <;> rfl
@[simp] theorem csT_ite {c : Prop} [Decidable c] {a b : Res Bool} {kt kf : DEnv → Option β} : csT (if c then a else b) kt kf = if c then csT a kt kf else csT b kt kf := by split <;> rfl
@[simp] theorem csE_ok {v : EV} {k : EV → DEnv → Option β} : csE (.ok v ρ) k = k v ρ := (Eq.refl _).trans (Eq.refl _)
@[simp] theorem csE_ite {c : Prop} [Decidable c] {a b : Res EV} {k : EV → DEnv → Option β} : csE (if c then a else b) k = if c then csE a k else csE b k := by split <;> rfl
@[simp] theorem csK_some {d : D} {k : D → DEnv → Option β} : csK (some (d, ρ)) k = k d ρ := (Eq.refl _).trans (Eq.refl _)
end
/-- one turn: nothing, or what is taken (if anything) and the names behind it -/
def cstep (ow : List Nat) (bind : D → DEnv → Option DEnv) (test : DEnv → Res Bool) (elt : DX) (d : D) (ρ : DEnv) : Option (Option D × DEnv) :=
  cs1 (bind d (wipeD ρ ow)) fun ρ1 => csT (test ρ1) (fun ρ2 => csE (elt ρ2) fun v ρ3 => csK (keep v ρ3) fun z ρ4 => if (ow.all fun i => !isOwn ρ4[i]?) = true then some (some z, backD ρ ρ4 ow) else none)
    fun ρ2 => if (ow.all fun i => !isOwn ρ2[i]?) = true then some (none, backD ρ ρ2 ow) else none
@[simp] theorem cstep_ap {ow : List Nat} {bind : D → DEnv → Option DEnv} {test : DEnv → Res Bool} {elt : DX} {d : D} {ρ : DEnv} : cstep ow bind test elt d ρ =
  cs1 (bind d (wipeD ρ ow)) fun ρ1 => csT (test ρ1) (fun ρ2 => csE (elt ρ2) fun v ρ3 => csK (keep v ρ3) fun z ρ4 => if (ow.all fun i => !isOwn ρ4[i]?) = true then some (some z, backD ρ ρ4 ow) else none)
    fun ρ2 => if (ow.all fun i => !isOwn ρ2[i]?) = true then some (none, backD ρ ρ2 ow) else none := (Eq.refl _).trans (Eq.refl _)
section
variable {ow : List Nat} {bind : D → DEnv → Option DEnv} {test : DEnv → Res Bool} {elt : DX} {it : DEnv → Res (List D)}
theorem compD_step {d : D} {ds acc : List D} {ρ ρ' : DEnv} {z : Option D} (h : cstep ow bind test elt d ρ = some (z, ρ')) (hl : acc.length < sizeLine) : compD ow bind test elt (d :: ds) ρ acc = compD ow bind test elt ds ρ' (acc ++ z.toList) := by
  unfold cstep at h
  rw [compD]
  cases hb : bind d (wipeD ρ ow) with
  | none => rw [hb] at h; cases h
  | some ρ1 =>
    rw [hb] at h
    dsimp only [optR, cs1] at h ⊢
    cases ht : test ρ1 with
    | err x ρ2 => rw [ht] at h; cases h
    | bad => rw [ht] at h; cases h
    | ok k ρ2 =>
      rw [ht] at h
      cases k with
      | true =>
        dsimp only [csT] at h ⊢
        cases he : elt ρ2 with
        | err x ρ3 => rw [he] at h; cases h
        | bad => rw [he] at h; cases h
        | ok v ρ3 =>
          rw [he] at h
          dsimp only [csE] at h ⊢
          cases hk : keep v ρ3 with
          | none => rw [hk] at h; cases h
          | some p =>
            rw [hk] at h
            dsimp only [csK] at h ⊢
            split at h
            · rename_i ha
              cases h
              rw [if_pos ⟨hl, ha⟩]; rfl
            · cases h
      | false =>
        dsimp only [csT] at h ⊢
        split at h
        · rename_i ha
          cases h
          rw [if_pos ha]; simp
        · cases h
theorem compD_map {g : D → D} {ρ : DEnv} : ∀ {ds acc : List D}, acc.length + ds.length ≤ sizeLine → (∀ d ∈ ds, cstep ow bind test elt d ρ = some (some (g d), ρ)) → compD ow bind test elt ds ρ acc = .ok (.lst (acc ++ ds.map g)) ρ
  | [], acc, _, _ => by rw [compD]; simp
  | d :: ds, acc, hl, h => by
    rw [compD_step (h d List.mem_cons_self) (by simp at hl ⊢; omega), compD_map (by simp at hl ⊢; omega) fun e he => h e (List.mem_cons_of_mem _ he)]
    simp
theorem compD_filter {g : D → Option D} {ρ : DEnv} : ∀ {ds acc : List D}, acc.length + ds.length ≤ sizeLine → (∀ d ∈ ds, cstep ow bind test elt d ρ = some (g d, ρ)) → compD ow bind test elt ds ρ acc = .ok (.lst (acc ++ ds.filterMap g)) ρ
  | [], acc, _, _ => by rw [compD]; simp
  | d :: ds, acc, hl, h => by
    have hz : (g d).toList.length ≤ 1 := by cases g d <;> simp
    rw [compD_step (h d List.mem_cons_self) (by simp at hl ⊢; omega), compD_filter (by simp at hl ⊢; omega) fun e he => h e (List.mem_cons_of_mem _ he), List.filterMap_cons]
    cases g d <;> simp
inductive All2 (R : D → D → Prop) : List D → List D → Prop
  | nil : All2 R [] []
  | cons {a b : D} {as bs : List D} (h : R a b) (t : All2 R as bs) : All2 R (a :: as) (b :: bs)
theorem All2.len {R : D → D → Prop} {as bs : List D} (h : All2 R as bs) : as.length = bs.length := by
  induction h with
  | nil => rfl
  | cons _ _ ih => simp [ih]
theorem All2.right {R : D → D → Prop} {Q : D → Prop} {as bs : List D} (h : All2 R as bs) (q : ∀ a b, R a b → Q b) : ∀ b ∈ bs, Q b := by
  induction h with
  | nil => intro b hb; simp at hb
  | cons h _ ih =>
    intro b hb
    rcases List.mem_cons.mp hb with hb | hb
    · subst hb; exact q _ _ h
    · exact ih b hb
/-- a comprehension whose turns change the names, by an invariant -/
theorem compD_inv (I : DEnv → Prop) (R : D → D → Prop) : ∀ {ds acc : List D} {ρ : DEnv}, acc.length + ds.length ≤ sizeLine → I ρ → (∀ d ∈ ds, ∀ ρ, I ρ → ∃ z ρ', cstep ow bind test elt d ρ = some (some z, ρ') ∧ I ρ' ∧ R d z) →
    ∃ zs ρ', compD ow bind test elt ds ρ acc = .ok (.lst (acc ++ zs)) ρ' ∧ I ρ' ∧ All2 R ds zs
  | [], acc, ρ, _, hi, _ => ⟨[], ρ, by rw [compD]; simp, hi, .nil⟩
  | d :: ds, acc, ρ, hl, hi, h => by
    obtain ⟨z, ρ1, h1, h2, h3⟩ := h d List.mem_cons_self ρ hi
    obtain ⟨zs, ρ', h4, h5, h6⟩ := compD_inv I R (ds := ds) (acc := acc ++ [z]) (ρ := ρ1) (by simp at hl ⊢; omega) h2 fun e he => h e (List.mem_cons_of_mem _ he)
    refine ⟨z :: zs, ρ', ?_, h5, .cons h3 h6⟩
    rw [compD_step h1 (by simp at hl ⊢; omega)]
    simpa using h4
theorem xComp_of {ρ ρ1 : DEnv} {ds : List D} (hi : it ρ = .ok ds ρ1) (ho : (ow.all fun i => !isOwn ρ1[i]?) = true) : xComp it ow bind test elt ρ = compD ow bind test elt ds ρ1 [] := by
  unfold xComp
  rw [hi]
  exact if_pos ho
theorem xComp_map {g : D → D} {ρ : DEnv} {ds : List D} (hi : it ρ = .ok ds ρ) (ho : (ow.all fun i => !isOwn ρ[i]?) = true) (hl : ds.length ≤ sizeLine) (h : ∀ d ∈ ds, cstep ow bind test elt d ρ = some (some (g d), ρ)) : xComp it ow bind test elt ρ = .ok (.lst (ds.map g)) ρ := by
  rw [xComp_of hi ho, compD_map (by simpa using hl) h]; simp
theorem xComp_filter {g : D → Option D} {ρ : DEnv} {ds : List D} (hi : it ρ = .ok ds ρ) (ho : (ow.all fun i => !isOwn ρ[i]?) = true) (hl : ds.length ≤ sizeLine) (h : ∀ d ∈ ds, cstep ow bind test elt d ρ = some (g d, ρ)) : xComp it ow bind test elt ρ = .ok (.lst (ds.filterMap g)) ρ := by
  rw [xComp_of hi ho, compD_filter (by simpa using hl) h]; simp
theorem xComp_inv (I : DEnv → Prop) (R : D → D → Prop) {ρ : DEnv} {ds : List D} (hi : it ρ = .ok ds ρ) (ho : (ow.all fun i => !isOwn ρ[i]?) = true) (hl : ds.length ≤ sizeLine) (hI : I ρ) (h : ∀ d ∈ ds, ∀ ρ, I ρ → ∃ z ρ', cstep ow bind test elt d ρ = some (some z, ρ') ∧ I ρ' ∧ R d z) :
    ∃ zs ρ', xComp it ow bind test elt ρ = .ok (.lst zs) ρ' ∧ I ρ' ∧ All2 R ds zs := by
  obtain ⟨zs, ρ', h1, h2, h3⟩ := compD_inv I R (acc := []) (by simpa using hl) hI h
  exact ⟨zs, ρ', by rw [xComp_of hi ho, h1]; simp, h2, h3⟩
end

/-! ### for -/
theorem forD_inv {bind : D → DEnv → Option DEnv} {body : DSt} (I : Nat → DEnv → Prop) : ∀ {ds : List D} {n : Nat} {ρ : DEnv}, I n ρ → (∀ k d ρ, ds[k]? = some d → I (n + k) ρ → ∃ ρ1 ρ2, bind d ρ = some ρ1 ∧ body ρ1 = .nx ρ2 ∧ I (n + k + 1) ρ2) → ∃ ρ', forD bind body ds ρ = .nx ρ' ∧ I (n + ds.length) ρ'
  | [], n, ρ, hi, _ => ⟨ρ, rfl, hi⟩
  | d :: ds, n, ρ, hi, h => by
    obtain ⟨ρ1, ρ2, h1, h2, h3⟩ := h 0 d ρ rfl hi
    obtain ⟨ρ', h4, h5⟩ := forD_inv I (ds := ds) (n := n + 1) h3 fun k e ρ he hk => by
      have := h (k + 1) e ρ (by simpa using he) (by rw [show n + (k + 1) = n + 1 + k by omega]; exact hk)
      rw [show n + (k + 1) + 1 = n + 1 + k + 1 by omega] at this
      exact this
    refine ⟨ρ', ?_, by rw [List.length_cons, show n + (ds.length + 1) = n + 1 + ds.length by omega]; exact h5⟩
    rw [forD, h1]
    show (match body ρ1 with
      | .nx ρ2 => forD bind body ds ρ2
      | .ct ρ2 => forD bind body ds ρ2
      | .bk ρ2 => .nx ρ2
      | .rt v ρ2 => .rt v ρ2
      | .err x ρ2 => .err x ρ2
      | .bad => .bad) = _
    rw [h2]
    exact h4

/-! ### repr -/
mutual
def nice : D → Bool
  | .none => true
  | .bool _ => true
  | .int i => decide (i.natAbs.log2 < 1920)
  | .list xs => niceAll xs
  | .tuple xs => niceAll xs
  | _ => false
def niceAll : List D → Bool
  | [] => true
  | x :: xs => nice x && niceAll xs
end
mutual
theorem nice_show : ∀ d : D, nice d = true → d.showable = true ∧ d.hasDict = false ∧ d.leavesShort 1921 = true
  | .none, _ => ⟨rfl, rfl, rfl⟩
  | .bool _, _ => ⟨rfl, rfl, rfl⟩
  | .int i, h => by
    have h' : i.natAbs.log2 < 1920 := by simpa [nice] using h
    refine ⟨by simpa [PyData.showable] using h', rfl, ?_⟩
    simp only [PyData.leavesShort, decide_eq_true_eq]
    exact int_text_len_1921 h'
  | .str _, h => by simp [nice] at h
  | .dict _, h => by simp [nice] at h
  | .list xs, h => by
    obtain ⟨a, b, c⟩ := niceAll_show xs (by simpa [nice] using h)
    exact ⟨by simpa [PyData.showable] using a, by simpa [PyData.hasDict] using b, by simpa [PyData.leavesShort] using c⟩
  | .tuple xs, h => by
    obtain ⟨a, b, c⟩ := niceAll_show xs (by simpa [nice] using h)
    exact ⟨by simpa [PyData.showable] using a, by simpa [PyData.hasDict] using b, by simpa [PyData.leavesShort] using c⟩
theorem niceAll_show : ∀ xs : List D, niceAll xs = true → PyData.showableAll xs = true ∧ PyData.hasDictAll xs = false ∧ PyData.leavesShortAll 1921 xs = true
  | [], _ => ⟨rfl, rfl, rfl⟩
  | x :: xs, h => by
    simp only [niceAll, Bool.and_eq_true] at h
    obtain ⟨a, b, c⟩ := nice_show x h.1
    obtain ⟨a2, b2, c2⟩ := niceAll_show xs h.2
    exact ⟨by simp [PyData.showableAll, a, a2], by simp [PyData.hasDictAll, b, b2], by simp [PyData.leavesShortAll, c, c2]⟩
end
theorem kRepr_nice {d : D} (h : nice d = true) (hd : d.depth ≤ 64) (hw : d.weight ≤ 8000) : kRepr [d] = some (.str d.shown) := by
  obtain ⟨a, b, c⟩ := nice_show d h
  have l := PyData.shown_le 1921 (by omega) d c
  have l2 : (1921 + 2) * d.weight ≤ 1923 * 8000 := Nat.mul_le_mul (by omega) hw
  exact if_pos ⟨a, b, hd, by rw [sizeLine_eq]; omega⟩
end DL

theorem DL.lt62 (n : Nat) (h : n ≤ 1000000) : (n : Int) < 2 ^ 62 := by omega
theorem DL.ge62 (n : Nat) (h : n ≤ 1000000) : -(2 ^ 62) ≤ (n : Int) := by omega
namespace DL
open L2 PySem PySem.Spec PyProof.Rows

/-! ### tuples of ints, matrices -/
abbrev vec (r : List Int) : D := .tuple (r.map PyData.int)
abbrev mtx (M : List (List Int)) : D := .tuple (M.map vec)
section
variable {α : Type} {ow : List Nat} {bind : D → DEnv → Option DEnv} {test : DEnv → Res Bool} {elt : DX} {it : DEnv → Res (List D)}
theorem xComp_of_map {e g : α → D} {xs : List α} {ρ : DEnv} (hi : it ρ = .ok (xs.map e) ρ) (ho : (ow.all fun i => !isOwn ρ[i]?) = true) (hl : xs.length ≤ 1000000) (h : ∀ x ∈ xs, cstep ow bind test elt (e x) ρ = some (some (g x), ρ)) : xComp it ow bind test elt ρ = .ok (.lst (xs.map g)) ρ := by
  have key : ∀ {xs : List α} {acc : List D}, acc.length + xs.length ≤ sizeLine → (∀ x ∈ xs, cstep ow bind test elt (e x) ρ = some (some (g x), ρ)) → compD ow bind test elt (xs.map e) ρ acc = .ok (.lst (acc ++ xs.map g)) ρ := by
    intro xs
    induction xs with
    | nil => intro acc _ _; simp [compD]
    | cons x xs ih =>
      intro acc hl h
      rw [List.map_cons, compD_step (h x List.mem_cons_self) (by simp at hl ⊢; omega), ih (by simp at hl ⊢; omega) fun y hy => h y (List.mem_cons_of_mem _ hy)]
      simp
  rw [xComp_of hi ho, key (by rw [sizeLine_eq]; simp; omega) h]; simp
theorem xComp_of_filter {e : α → D} {g : α → Option D} {xs : List α} {ρ : DEnv} (hi : it ρ = .ok (xs.map e) ρ) (ho : (ow.all fun i => !isOwn ρ[i]?) = true) (hl : xs.length ≤ 1000000) (h : ∀ x ∈ xs, cstep ow bind test elt (e x) ρ = some (g x, ρ)) : xComp it ow bind test elt ρ = .ok (.lst (xs.filterMap g)) ρ := by
  have key : ∀ {xs : List α} {acc : List D}, acc.length + xs.length ≤ sizeLine → (∀ x ∈ xs, cstep ow bind test elt (e x) ρ = some (g x, ρ)) → compD ow bind test elt (xs.map e) ρ acc = .ok (.lst (acc ++ xs.filterMap g)) ρ := by
    intro xs
    induction xs with
    | nil => intro acc _ _; simp [compD]
    | cons x xs ih =>
      intro acc hl h
      have hz : (g x).toList.length ≤ 1 := by cases g x <;> simp
      rw [List.map_cons, compD_step (h x List.mem_cons_self) (by simp at hl ⊢; omega), ih (by simp at hl ⊢; omega) fun y hy => h y (List.mem_cons_of_mem _ hy), List.filterMap_cons]
      cases g x <;> simp
  rw [xComp_of hi ho, key (by rw [sizeLine_eq]; simp; omega) h]; simp
@[simp] theorem trusF_bools (f : α → Bool) : ∀ xs : List α, trusF (xs.map fun x => PyData.bool (f x)) = some (xs.map f)
  | [] => rfl
  | x :: xs => by
    show (match truF (.bool (f x)) with
      | some b => (trusF (xs.map fun x => PyData.bool (f x))).map (b :: ·)
      | none => none) = _
    rw [trusF_bools f xs]; rfl
@[simp] theorem kAll_bools {f : α → Bool} {xs : List α} : kAll [.list (xs.map fun x => PyData.bool (f x))] = some (.bool (xs.all f)) := by
  show (trusF (xs.map fun x => PyData.bool (f x))).map (fun bs => PyData.bool (bs.all id)) = _
  rw [trusF_bools]; simp
@[simp] theorem kAny_bools {f : α → Bool} {xs : List α} : kAny [.list (xs.map fun x => PyData.bool (f x))] = some (.bool (xs.any f)) := by
  show (trusF (xs.map fun x => PyData.bool (f x))).map (fun bs => PyData.bool (bs.any id)) = _
  rw [trusF_bools]; simp
theorem intsOf_mapI {f : α → Int} {xs : List α} : intsOf (xs.map fun x => PyData.int (f x)) = some (xs.map f) := by
  have := intsOf_map (xs.map f)
  rwa [List.map_map] at this
@[simp] theorem kSum_ints {f : α → Int} {xs : List α} : kSum [.list (xs.map fun x => PyData.int (f x))] = some (.int (xs.map f).sum) := by
  show (match intsOf (xs.map fun x => PyData.int (f x)) with
    | some ns => some (PyData.int ns.sum)
    | none => none) = _
  rw [intsOf_mapI]
theorem rangeD_eq (lo : Int) (n : Nat) : rangeD lo n = (List.range n).map fun (i : Nat) => PyData.int (lo + i) := rfl
theorem rangeD_nat {n : Nat} : rangeD 0 (n : Int).toNat = (List.range n).map fun (k : Nat) => PyData.int (k : Int) := by
  unfold rangeD
  simp
theorem iRange1_if {g : DEnv → Res (List EV)} {ρ ρ1 : DEnv} {j : Int} (h : g ρ = .ok [.val (.int j)] ρ1) : DL.iRange1 g ρ = if -(2 ^ 62) ≤ j ∧ j < 2 ^ 62 then .ok (rangeD 0 j.toNat) ρ1 else .bad := by
  unfold DL.iRange1
  rw [h]
  rfl
theorem iRange1_nat {g : DEnv → Res (List EV)} {ρ ρ1 : DEnv} {n : Nat} (h : g ρ = .ok [.val (.int (n : Int))] ρ1) (hn : n ≤ 1000000) : DL.iRange1 g ρ = .ok ((List.range n).map fun (k : Nat) => PyData.int (k : Int)) ρ1 := by
  rw [iRange1_if h, if_pos ⟨ge62 n hn, lt62 n hn⟩, rangeD_nat]
end
section
variable {F : Fn} {g : DEnv → Res (List EV)} {ρ : DEnv}
def callR (r : RF) (vs : List EV) (ρ1 : DEnv) : Res EV := match r with
  | .ok (.val d) => if (flat d).isSome = true then .ok (.val d) ρ1 else optR (keeps vs ρ1) fun p => .ok (.val d) p.2
  | .ok (.own (.lst l)) => optR (keeps vs ρ1) fun p => .ok (.val (.list l)) p.2
  | .ok (.own _) => .bad
  | .err x => .err x ρ1
  | .bad => .bad
@[simp] theorem xCall_ap : xCall F g ρ = bindR (g ρ) fun vs ρ1 => optR (derefs ρ1 vs) fun ds => callR (F ds) vs ρ1 := (Eq.refl _).trans (Eq.refl _)
@[simp] theorem callR_val {d : D} {vs : List EV} : callR (.ok (.val d)) vs ρ = if (flat d).isSome = true then .ok (.val d) ρ else optR (keeps vs ρ) fun p => .ok (.val d) p.2 := (Eq.refl _).trans (Eq.refl _)
@[simp] theorem callR_own {l : List D} {vs : List EV} : callR (.ok (.own (.lst l))) vs ρ = optR (keeps vs ρ) fun p => .ok (.val (.list l)) p.2 := (Eq.refl _).trans (Eq.refl _)
@[simp] theorem callR_err {x : Exn} {vs : List EV} : callR (.err x) vs ρ = .err x ρ := (Eq.refl _).trans (Eq.refl _)
def callL (r : RF) (vs : List EV) (ρ1 : DEnv) : Res Cell := match r with
  | .ok (.own c) => optR (keeps vs ρ1) fun p => .ok c p.2
  | .ok (.val _) => .bad
  | .err x => .err x ρ1
  | .bad => .bad
@[simp] theorem xCallL_ap : xCallL F g ρ = bindR (g ρ) fun vs ρ1 => optR (derefs ρ1 vs) fun ds => callL (F ds) vs ρ1 := (Eq.refl _).trans (Eq.refl _)
@[simp] theorem callL_own {c : Cell} {vs : List EV} : callL (.ok (.own c)) vs ρ = optR (keeps vs ρ) fun p => .ok c p.2 := (Eq.refl _).trans (Eq.refl _)
@[simp] theorem callL_err {x : Exn} {vs : List EV} : callL (.err x) vs ρ = .err x ρ := (Eq.refl _).trans (Eq.refl _)
def selR (Fs : List Fn) (g : DEnv → Res (List EV)) (j : EV) (ρ1 : DEnv) : Res EV := match deref ρ1 j with
  | some (.int i) => match atI Fs i with
    | some F => xCall F g ρ1
    | none => .bad
  | _ => .bad
@[simp] theorem xSel_ap {Fs : List Fn} {fi : DX} : xSel Fs fi g ρ = bindR (fi ρ) fun j ρ1 => selR Fs g j ρ1 := (Eq.refl _).trans (Eq.refl _)
@[simp] theorem selR_val {Fs : List Fn} {i : Int} : selR Fs g (.val (.int i)) ρ = match atI Fs i with
    | some F => xCall F g ρ
    | none => .bad := (Eq.refl _).trans (Eq.refl _)
end
end DL

namespace DL
open L2 PySem PySem.Spec PyProof.Rows

/-! ### own lists, stepped by simp -/
section
variable {α : Type} {ρ : DEnv} {i : Nat} {g : DEnv → Res (List EV)} {m : List D → List D → Option (D × List D)}
def xmA (o : Option (Option SV)) (k : Res α) : Res α := match o with
  | some (some (.own _ (.lst _))) => k
  | _ => .bad
def xmB (o : Option (Option SV)) (k : Bool → List D → Res α) : Res α := match o with
  | some (some (.own b (.lst ds))) => k b ds
  | _ => .bad
@[simp] theorem xmA_own {b : Bool} {ds : List D} {k : Res α} : xmA (some (some (.own b (.lst ds)))) k = k := (Eq.refl _).trans (Eq.refl _)
@[simp] theorem xmB_own {b : Bool} {ds : List D} {k : Bool → List D → Res α} : xmB (some (some (.own b (.lst ds)))) k = k b ds := (Eq.refl _).trans (Eq.refl _)
@[simp] theorem xM_ap : xM i m g ρ = xmA ρ[i]? (bindR (g ρ) fun vs ρ1 => optR (keeps vs ρ1) fun p => xmB p.2[i]? fun b ds => optR (m ds p.1) fun q => .ok (.val q.1) (p.2.set i (some (.own b (.lst q.2))))) := by
  unfold xM xmA xmB
  rfl
@[simp] theorem mAppend_ap {ds : List D} {d : D} : mAppend ds [d] = if ds.length < sizeLine then some (.none, ds ++ [d]) else none := (Eq.refl _).trans (Eq.refl _)
@[simp] theorem mReverse_ap {ds : List D} : mReverse ds [] = some (.none, ds.reverse) := (Eq.refl _).trans (Eq.refl _)
@[simp] theorem mPop_ap {ds : List D} {d : D} : mPop (ds ++ [d]) [] = some (d, ds) := by simp [mPop]
def exF (o : Option (Option SV)) (k : Fl) : Fl := match o with
  | some (some (.own _ (.lst _))) => k
  | _ => .bad
def exG (c : Cell) (o : Option (Option SV)) (k : Bool → List D → List D → Fl) : Fl := match c, o with
  | .lst es, some (some (.own b (.lst ds))) => k b ds es
  | _, _ => .bad
@[simp] theorem exF_own {b : Bool} {ds : List D} {k : Fl} : exF (some (some (.own b (.lst ds)))) k = k := (Eq.refl _).trans (Eq.refl _)
@[simp] theorem exG_own {b : Bool} {ds es : List D} {k : Bool → List D → List D → Fl} : exG (.lst es) (some (some (.own b (.lst ds)))) k = k b ds es := (Eq.refl _).trans (Eq.refl _)
@[simp] theorem gExtend_ap {f : DEnv → Res Cell} : gExtend i f ρ = exF ρ[i]? (bindF (f ρ) fun c ρ1 => exG c ρ1[i]? fun b ds es => if ds.length + es.length ≤ sizeLine then .nx (ρ1.set i (some (.own b (.lst (ds ++ es))))) else .bad) := by
  unfold gExtend exF exG
  rfl
def ciA (vs : List EV) (k : Nat → List EV → Res α) : Res α := match vs with
  | .bor i :: ws => k i ws
  | _ => .bad
@[simp] theorem ciA_bor {ws : List EV} {k : Nat → List EV → Res α} : ciA (.bor i :: ws) k = k i ws := (Eq.refl _).trans (Eq.refl _)
@[simp] theorem valsOf_nil : valsOf [] = some [] := (Eq.refl _).trans (Eq.refl _)
@[simp] theorem valsOf_val {d : D} {vs : List EV} : valsOf (.val d :: vs) = (valsOf vs).map (d :: ·) := by
  show (match valsOf vs with
    | some ds => some (d :: ds)
    | none => none) = _
  cases valsOf vs <;> rfl
def ciR (r : Option (RV × List D)) (kv : D → List D → Res EV) : Res EV := match r with
  | some (.val d, ds') => kv d ds'
  | some (.own (.lst l), ds') => kv (.list l) ds'
  | _ => .bad
@[simp] theorem ciR_val {d : D} {ds : List D} {kv : D → List D → Res EV} : ciR (some (.val d, ds)) kv = kv d ds := (Eq.refl _).trans (Eq.refl _)
def ciL (r : Option (RV × List D)) (kv : Cell → List D → Res Cell) : Res Cell := match r with
  | some (.own c, ds') => kv c ds'
  | _ => .bad
@[simp] theorem ciL_own {c : Cell} {ds : List D} {kv : Cell → List D → Res Cell} : ciL (some (.own c, ds)) kv = kv c ds := (Eq.refl _).trans (Eq.refl _)
@[simp] theorem xCallI_ap {F : IFn} : xCallI F g ρ = bindR (g ρ) fun vs ρ1 => ciA vs fun i ws => optR (valsOf ws) fun es => xmB ρ1[i]? fun b ds => ciR (F ds es) fun d ds' => .ok (.val d) (ρ1.set i (some (.own b (.lst ds')))) := by
  unfold xCallI
  cases g ρ with
  | err x ρ1 => rfl
  | bad => rfl
  | ok vs ρ1 =>
    simp only [bindR_ok]
    cases vs with
    | nil => rfl
    | cons v ws =>
      cases v with
      | val d => rfl
      | bor j =>
        rw [ciA_bor]
        refine congrArg (optR (valsOf ws)) (funext fun es => ?_)
        generalize ρ1[j]? = o
        rcases o with _ | _ | _ | ⟨b, _ | _ | _⟩ | _ <;> rfl
@[simp] theorem xCallIL_ap {F : IFn} : xCallIL F g ρ = bindR (g ρ) fun vs ρ1 => ciA vs fun i ws => optR (valsOf ws) fun es => xmB ρ1[i]? fun b ds => ciL (F ds es) fun c ds' => .ok c (ρ1.set i (some (.own b (.lst ds')))) := by
  unfold xCallIL
  cases g ρ with
  | err x ρ1 => rfl
  | bad => rfl
  | ok vs ρ1 =>
    simp only [bindR_ok]
    cases vs with
    | nil => rfl
    | cons v ws =>
      cases v with
      | val d => rfl
      | bor j =>
        rw [ciA_bor]
        refine congrArg (optR (valsOf ws)) (funext fun es => ?_)
        generalize ρ1[j]? = o
        rcases o with _ | _ | _ | ⟨b, _ | _ | _⟩ | _ <;> rfl
end
/-- what such a def answers -/
def outI : Fl → Option (RV × List D)
  | .nx ρ => (cellAt0 ρ).map fun l => (.val .none, l)
  | .rt v ρ => (cellAt0 ρ).map fun l => (v, l)
  | _ => none
theorem runI_out {m : Nat} {b : DSt} {ds es : List D} : runI m b ds es = outI (b (startI m ds es)) := by
  unfold runI outI
  cases b (startI m ds es) <;> rfl
@[simp] theorem outI_rt {v : RV} {b : Bool} {l : List D} {ρ : DEnv} : outI (.rt v (some (.own b (.lst l)) :: ρ)) = some (v, l) := (Eq.refl _).trans (Eq.refl _)
@[simp] theorem outI_nx {b : Bool} {l : List D} {ρ : DEnv} : outI (.nx (some (.own b (.lst l)) :: ρ)) = some (.val .none, l) := (Eq.refl _).trans (Eq.refl _)
/-- a name that holds nothing or data -/
def VS (x : Option SV) : Prop := x = none ∨ ∃ d, x = some (.val d)
theorem VS.val {d : D} : VS (some (.val d)) := .inr ⟨d, rfl⟩
theorem VS.io {x : Option SV} (h : VS x) : isIo (some x) = false := by rcases h with rfl | ⟨d, rfl⟩ <;> simp
theorem VS.own {x : Option SV} (h : VS x) : isOwn (some x) = false := by rcases h with rfl | ⟨d, rfl⟩ <;> simp
/-- a for that may break -/
theorem forD_brk {bind : D → DEnv → Option DEnv} {body : DSt} (I : Nat → DEnv → Prop) : ∀ {ds : List D} {n : Nat} {ρ : DEnv}, I n ρ → (∀ k d ρ, ds[k]? = some d → I (n + k) ρ → ∃ ρ1 ρ2, bind d ρ = some ρ1 ∧ (body ρ1 = .nx ρ2 ∨ body ρ1 = .bk ρ2) ∧ I (n + k + 1) ρ2) → ∃ ρ' n', forD bind body ds ρ = .nx ρ' ∧ I n' ρ' ∧ n' ≤ n + ds.length
  | [], n, ρ, hi, _ => ⟨ρ, n, rfl, hi, by simp⟩
  | d :: ds, n, ρ, hi, h => by
    obtain ⟨ρ1, ρ2, h1, h2, h3⟩ := h 0 d ρ rfl hi
    have step : forD bind body (d :: ds) ρ = (match body ρ1 with
      | .nx ρ2 => forD bind body ds ρ2
      | .ct ρ2 => forD bind body ds ρ2
      | .bk ρ2 => .nx ρ2
      | .rt v ρ2 => .rt v ρ2
      | .err x ρ2 => .err x ρ2
      | .bad => .bad) := by rw [forD, h1]; rfl
    rcases h2 with h2 | h2
    · obtain ⟨ρ', n', h4, h5, h6⟩ := forD_brk I (ds := ds) (n := n + 1) h3 fun k e ρ he hk => by
        have := h (k + 1) e ρ (by simpa using he) (by rw [show n + (k + 1) = n + 1 + k by omega]; exact hk)
        rw [show n + (k + 1) + 1 = n + 1 + k + 1 by omega] at this
        exact this
      refine ⟨ρ', n', ?_, h5, by simp; omega⟩
      rw [step, h2]; exact h4
    · refine ⟨ρ2, n + 1, ?_, h3, by simp⟩
      rw [step, h2]

/-! ### draws: ints from 0 to 999 -/
def Dr (xs : List Int) : Prop := ∀ x ∈ xs, 0 ≤ x ∧ x < 1000
theorem Dr.nil : Dr [] := fun x h => by simp at h
theorem Dr.app {xs ys : List Int} (h : Dr xs) (k : Dr ys) : Dr (xs ++ ys) := fun x hx => (List.mem_append.mp hx).elim (h x) (k x)
theorem Dr.rev {xs : List Int} (h : Dr xs) : Dr xs.reverse := fun x hx => h x (List.mem_reverse.mp hx)
theorem fmod_pos {a b : Int} (hb : 0 < b) : 0 ≤ a.fmod b ∧ a.fmod b < b := by
  rw [Int.fmod_eq_emod_of_nonneg a (Int.le_of_lt hb)]
  exact ⟨Int.emod_nonneg a (by omega), Int.emod_lt_of_pos a hb⟩
theorem Dr.one (a : Int) : Dr [a.fmod 1000] := fun x h => by
  rw [List.mem_singleton.mp h]; exact fmod_pos (by decide)
theorem fdiv_nonneg {a b : Int} (ha : 0 ≤ a) (hb : 0 < b) : 0 ≤ a.fdiv b := by
  rw [Int.fdiv_eq_ediv_of_nonneg a (Int.le_of_lt hb)]
  exact Int.ediv_nonneg ha (Int.le_of_lt hb)
theorem fdiv_le {a b : Int} (ha : 0 ≤ a) (hb : 0 < b) : a.fdiv b ≤ a := by
  rw [Int.fdiv_eq_ediv_of_nonneg a (Int.le_of_lt hb)]
  exact Int.ediv_le_self b ha
end DL

namespace K00
open L2 PySem PySem.Spec PyProof.Rows DL
/-! ### the text by places -/
def top (i : Nat) : Stmt := PySem.Challenge.pw_tallyhull_k00_matrices_sides_and_prices.main.body.getD i (.Pass ⟨0, 0, 0, 0⟩)
abbrev s_is_matrix : Stmt := top 16
abbrev s_check_matrix : Stmt := top 17
abbrev s_has_entries : Stmt := top 18
abbrev s_is_side : Stmt := top 19
abbrev s_is_vector : Stmt := top 20
abbrev s_is_cost : Stmt := top 21
abbrev s_check_side : Stmt := top 22
abbrev s_check_vector : Stmt := top 23
abbrev s_check_cost : Stmt := top 24
abbrev s_dot : Stmt := top 25
abbrev s_image_of : Stmt := top 26
abbrev s_columns_of : Stmt := top 27
abbrev s_columns : Stmt := top 28
abbrev s_image : Stmt := top 29
abbrev s_solves : Stmt := top 30
abbrev s_is_solution : Stmt := top 31
abbrev s_price : Stmt := top 32
abbrev s_key_of : Stmt := top 33
abbrev s_comes_before : Stmt := top 34
abbrev s_u_law_number : Stmt := top 36
abbrev s_u_law_draws : Stmt := top 37
abbrev s_u_law_next : Stmt := top 38
abbrev s_u_law_more : Stmt := top 39
abbrev s_u_law_any : Stmt := top 40
abbrev s_u_law_dot : Stmt := top 41
abbrev s_u_law_image : Stmt := top 42
abbrev s_u_law_columns : Stmt := top 43
abbrev s_u_law_vector : Stmt := top 44
abbrev s_u_law_key : Stmt := top 45
abbrev s_u_law_kind : Stmt := top 46
abbrev s_u_law_told : Stmt := top 47
abbrev s_u_law_before : Stmt := top 48
abbrev s_law : Stmt := top 49
abbrev N_is_matrix : List Str := ["matrix", "row", "n"]
abbrev N_check_matrix : List Str := ["matrix"]
abbrev N_has_entries : List Str := ["entries", "many", "most", "n"]
abbrev N_is_side : List Str := ["matrix", "side"]
abbrev N_is_vector : List Str := ["matrix", "vector"]
abbrev N_is_cost : List Str := ["matrix", "cost"]
abbrev N_check_side : List Str := ["matrix", "side"]
abbrev N_check_vector : List Str := ["matrix", "vector"]
abbrev N_check_cost : List Str := ["matrix", "cost"]
abbrev N_dot : List Str := ["one", "other", "first", "second"]
abbrev N_image_of : List Str := ["matrix", "vector", "row"]
abbrev N_columns_of : List Str := ["matrix", "at", "row"]
abbrev N_columns : List Str := ["matrix"]
abbrev N_image : List Str := ["matrix", "vector"]
abbrev N_solves : List Str := ["matrix", "side", "vector"]
abbrev N_is_solution : List Str := ["matrix", "side", "vector"]
abbrev N_price : List Str := ["matrix", "cost", "vector"]
abbrev N_key_of : List Str := ["cost", "vector"]
abbrev N_comes_before : List Str := ["matrix", "cost", "one", "other"]
abbrev N_u_law_number : List Str := ["cell"]
abbrev N_u_law_draws : List Str := ["script", "draws", "cell", "rest", "k", "once", "twice"]
abbrev N_u_law_next : List Str := ["draws"]
abbrev N_u_law_more : List Str := ["draws", "many", "seed", "grown", "k"]
abbrev N_u_law_any : List Str := ["draws", "many", "wide", "k", "j"]
abbrev N_u_law_dot : List Str := ["one", "other", "k"]
abbrev N_u_law_image : List Str := ["matrix", "vector", "row"]
abbrev N_u_law_columns : List Str := ["matrix", "k", "row"]
abbrev N_u_law_vector : List Str := ["draws", "many", "low", "high", "k"]
abbrev N_u_law_key : List Str := ["cost", "vector"]
abbrev N_u_law_kind : List Str := ["error", "kinds"]
abbrev N_u_law_told : List Str := ["which", "matrix", "one", "other", "error"]
abbrev N_u_law_before : List Str := ["matrix", "cost", "one", "other", "error"]
abbrev N_law : List Str := ["script", "draws", "matrix", "rows", "many", "row", "wrong", "one", "side", "cost", "other", "far", "first", "second", "told", "which", "some"]
/-! ### what the defs compute -/
def b_is_matrix : DSt := gSeq (gIf (xtOr (xtNot (xChain kLe kLe (xC (.int 1)) (xCB kLen (aCons (xVar 0) (aNil))) (xC (.int 3)))) (xtNot (xChain kLe kLe (xC (.int 1)) (xCB kLen (aCons (x2 kIx (xVar 0) (xC (.int 0))) (aNil))) (xC (.int 6))))) (gRet (xC (.bool false))) (gNext)) (gRet (xCB kAll (aCons (ofL (xComp (iSeq (xVar 0)) [1] (bName 1) (tTrue) (xAnd (x2 (kB kEq) (xCB kLen (aCons (xVar 1) (aNil))) (xCB kLen (aCons (x2 kIx (xVar 0) (xC (.int 0))) (aNil)))) (xCB kAll (aCons (ofL (xComp (iSeq (xVar 1)) [2] (bName 2) (tTrue) (xOfT (xChain kLe kLe (x1 kNeg (xC (.int 9))) (xVar 2) (xC (.int 9)))))) (aNil)))))) (aNil))))
def f_is_matrix : Fn := runF N_is_matrix.length b_is_matrix
def b_check_matrix : DSt := gIf (xtNot (xTr (xCall f_is_matrix (aCons (xVar 0) (aNil))))) (gRaise "NotMatrix") (gNext)
def f_check_matrix : Fn := runF N_check_matrix.length b_check_matrix
def b_has_entries : DSt := gRet (xAnd (x2 (kB kEq) (xCB kLen (aCons (xVar 0) (aNil))) (xVar 1)) (xOr (x2 (kB kIs) (xVar 2) (xC .none)) (xCB kAll (aCons (ofL (xComp (iSeq (xVar 0)) [3] (bName 3) (tTrue) (xOfT (xChain kLe kLe (x1 kNeg (xVar 2)) (xVar 3) (xVar 2))))) (aNil)))))
def f_has_entries : Fn := runF N_has_entries.length b_has_entries
def b_is_side : DSt := gSeq (gExpr (xCall f_check_matrix (aCons (xVar 0) (aNil)))) (gRet (xCall f_has_entries (aCons (xVar 1) (aCons (xCB kLen (aCons (xVar 0) (aNil))) (aCons (xC (.int 1000000)) (aNil))))))
def f_is_side : Fn := runF N_is_side.length b_is_side
def b_is_vector : DSt := gSeq (gExpr (xCall f_check_matrix (aCons (xVar 0) (aNil)))) (gRet (xCall f_has_entries (aCons (xVar 1) (aCons (xCB kLen (aCons (x2 kIx (xVar 0) (xC (.int 0))) (aNil))) (aCons (xC .none) (aNil))))))
def f_is_vector : Fn := runF N_is_vector.length b_is_vector
def b_is_cost : DSt := gSeq (gExpr (xCall f_check_matrix (aCons (xVar 0) (aNil)))) (gRet (xCall f_has_entries (aCons (xVar 1) (aCons (xCB kLen (aCons (x2 kIx (xVar 0) (xC (.int 0))) (aNil))) (aCons (xC (.int 50)) (aNil))))))
def f_is_cost : Fn := runF N_is_cost.length b_is_cost
def b_check_side : DSt := gIf (xtNot (xTr (xCall f_is_side (aCons (xVar 0) (aCons (xVar 1) (aNil)))))) (gRaise "NotSide") (gNext)
def f_check_side : Fn := runF N_check_side.length b_check_side
def b_check_vector : DSt := gIf (xtNot (xTr (xCall f_is_vector (aCons (xVar 0) (aCons (xVar 1) (aNil)))))) (gRaise "NotVector") (gNext)
def f_check_vector : Fn := runF N_check_vector.length b_check_vector
def b_check_cost : DSt := gIf (xtNot (xTr (xCall f_is_cost (aCons (xVar 0) (aCons (xVar 1) (aNil)))))) (gRaise "NotCost") (gNext)
def f_check_cost : Fn := runF N_check_cost.length b_check_cost
def b_dot : DSt := gRet (xCB kSum (aCons (ofL (xComp (iZip (aCons (xVar 0) (aCons (xVar 1) (aNil)))) [2, 3] (bTup (bCons (bName 2) (bCons (bName 3) (bNil)))) (tTrue) (x2 kMul (xVar 2) (xVar 3)))) (aNil)))
def f_dot : Fn := runF N_dot.length b_dot
def b_image_of : DSt := gRet (xCB kTuple (aCons (ofL (xComp (iSeq (xVar 0)) [2] (bName 2) (tTrue) (xCall f_dot (aCons (xVar 2) (aCons (xVar 1) (aNil)))))) (aNil)))
def f_image_of : Fn := runF N_image_of.length b_image_of
def b_columns_of : DSt := gRetL (xComp (iRange1 (aCons (xCB kLen (aCons (x2 kIx (xVar 0) (xC (.int 0))) (aNil))) (aNil))) [1] (bName 1) (tTrue) (xCB kTuple (aCons (ofL (xComp (iSeq (xVar 0)) [2] (bName 2) (tTrue) (x2 kIx (xVar 2) (xVar 1)))) (aNil))))
def f_columns_of : Fn := runF N_columns_of.length b_columns_of
def b_columns : DSt := gSeq (gExpr (xCall f_check_matrix (aCons (xVar 0) (aNil)))) (gRetL (xCallL f_columns_of (aCons (xVar 0) (aNil))))
def f_columns : Fn := runF N_columns.length b_columns
def b_image : DSt := gSeq (gExpr (xCall f_check_vector (aCons (xVar 0) (aCons (xVar 1) (aNil))))) (gRet (xCall f_image_of (aCons (xVar 0) (aCons (xVar 1) (aNil)))))
def f_image : Fn := runF N_image.length b_image
def b_solves : DSt := gRet (xAnd (x2 (kB kGe) (xCB kMin (aCons (xVar 2) (aNil))) (xC (.int 0))) (x2 (kB kEq) (xCall f_image_of (aCons (xVar 0) (aCons (xVar 2) (aNil)))) (xVar 1)))
def f_solves : Fn := runF N_solves.length b_solves
def b_is_solution : DSt := gSeq (gExpr (xCall f_check_side (aCons (xVar 0) (aCons (xVar 1) (aNil))))) (gSeq (gExpr (xCall f_check_vector (aCons (xVar 0) (aCons (xVar 2) (aNil))))) (gRet (xCall f_solves (aCons (xVar 0) (aCons (xVar 1) (aCons (xVar 2) (aNil)))))))
def f_is_solution : Fn := runF N_is_solution.length b_is_solution
def b_price : DSt := gSeq (gExpr (xCall f_check_cost (aCons (xVar 0) (aCons (xVar 1) (aNil))))) (gSeq (gExpr (xCall f_check_vector (aCons (xVar 0) (aCons (xVar 2) (aNil))))) (gRet (xCall f_dot (aCons (xVar 1) (aCons (xVar 2) (aNil))))))
def f_price : Fn := runF N_price.length b_price
def b_key_of : DSt := gRet (xTup (aCons (xCall f_dot (aCons (xVar 0) (aCons (xVar 1) (aNil)))) (aCons (xVar 1) (aNil))))
def f_key_of : Fn := runF N_key_of.length b_key_of
def b_comes_before : DSt := gSeq (gExpr (xCall f_check_cost (aCons (xVar 0) (aCons (xVar 1) (aNil))))) (gSeq (gExpr (xCall f_check_vector (aCons (xVar 0) (aCons (xVar 2) (aNil))))) (gSeq (gExpr (xCall f_check_vector (aCons (xVar 0) (aCons (xVar 3) (aNil))))) (gRet (x2 (kB kLt) (xCall f_key_of (aCons (xVar 1) (aCons (xVar 2) (aNil)))) (xCall f_key_of (aCons (xVar 1) (aCons (xVar 3) (aNil))))))))
def f_comes_before : Fn := runF N_comes_before.length b_comes_before
def b_u_law_number : DSt := gSeq (gIf (xt2 kLt (xVar 0) (xC (.int 0))) (gRet (x2 kSub (xC (.int 0)) (xVar 0))) (gNext)) (gRet (xVar 0))
def f_u_law_number : Fn := runF N_u_law_number.length b_u_law_number
def b_u_law_draws : DSt := gSeq (gSetL 1 (xLst (aNil))) (gSeq (gFor (iSeq (xVar 0)) (bName 2) (gSeq (gSet 3 (xCall f_u_law_number (aCons (xVar 2) (aNil)))) (gIf (xt2 kGe (xVar 3) (xC (.int 1000000000000000000))) (gFor (iRange1 (aCons (xC (.int 60)) (aNil))) (bName 4) (gSeq (gIf (xt2 kEq (xVar 3) (xC (.int 0))) (gBreak) (gNext)) (gSeq (gExpr (xM 1 mAppend (aCons (x2 kMod (xCB kInt (aCons (xVar 3) (aNil))) (xC (.int 1000))) (aNil)))) (gSet 3 (x2 kDiv (xVar 3) (xC (.int 1000))))))) (gSeq (gSet 5 (x2 kMod (xCB kInt (aCons (x2 kAdd (x2 kMul (xVar 3) (xC (.int 48271))) (xC (.int 11))) (aNil))) (xC (.int 2147483647)))) (gSeq (gSet 6 (x2 kMod (xCB kInt (aCons (x2 kAdd (x2 kMul (xVar 5) (xC (.int 69621))) (xVar 3)) (aNil))) (xC (.int 2147483629)))) (gExtend 1 (xLst (aCons (x2 kMod (xCB kInt (aCons (xVar 3) (aNil))) (xC (.int 1000))) (aCons (x2 kMod (xCB kInt (aCons (xVar 5) (aNil))) (xC (.int 1000))) (aCons (x2 kMod (xCB kInt (aCons (xVar 6) (aNil))) (xC (.int 1000))) (aNil))))))))))) (gSeq (gExpr (xM 1 mReverse aNil)) (gRetOwn 1)))
def f_u_law_draws : Fn := runF N_u_law_draws.length b_u_law_draws
def b_u_law_next : DSt := gSeq (gIf (xTr (xVar 0)) (gRet (xM 0 mPop aNil)) (gNext)) (gRet (xC (.int 0)))
def f_u_law_next : IFn := runI N_u_law_next.length b_u_law_next
def b_u_law_more : DSt := gSeq (gSet 2 (x2 kAdd (x2 kAdd (x2 kMul (xC (.int 1000)) (xCallI f_u_law_next (aCons (xVar 0) (aNil)))) (xCallI f_u_law_next (aCons (xVar 0) (aNil)))) (xC (.int 1)))) (gSeq (gSetL 3 (xLst (aNil))) (gSeq (gFor (iRange1 (aCons (xVar 1) (aNil))) (bName 4) (gSeq (gSet 2 (x2 kMod (xCB kInt (aCons (x2 kAdd (x2 kMul (xVar 2) (xC (.int 48271))) (xC (.int 12345))) (aNil))) (xC (.int 2147483647)))) (gExpr (xM 3 mAppend (aCons (x2 kMod (xCB kInt (aCons (x2 kDiv (xVar 2) (xC (.int 7))) (aNil))) (xC (.int 1000))) (aNil)))))) (gRetL (x2L kAddL (xVar 3) (xVar 0)))))
def f_u_law_more : IFn := runI N_u_law_more.length b_u_law_more
def b_u_law_any : DSt := gSeq (gSet 1 (x2 kAdd (xC (.int 1)) (x2 kMod (xCB kInt (aCons (xCallI f_u_law_next (aCons (xVar 0) (aNil))) (aNil))) (xC (.int 6))))) (gSeq (gSet 2 (x2 kIx (ofL (xLst (aCons (xC (.int 2)) (aCons (xC (.int 5)) (aCons (xC (.int 19)) (aNil)))))) (x2 kMod (xCB kInt (aCons (xCallI f_u_law_next (aCons (xVar 0) (aNil))) (aNil))) (xC (.int 3))))) (gRet (xCB kTuple (aCons (ofL (xComp (iRange1 (aCons (x2 kAdd (xC (.int 1)) (x2 kMod (xCB kInt (aCons (xCallI f_u_law_next (aCons (xVar 0) (aNil))) (aNil))) (xC (.int 3)))) (aNil))) [3] (bName 3) (tTrue) (xCB kTuple (aCons (ofL (xComp (iRange1 (aCons (xVar 1) (aNil))) [4] (bName 4) (tTrue) (x2 kSub (x2 kMod (xCB kInt (aCons (xCallI f_u_law_next (aCons (xVar 0) (aNil))) (aNil))) (xVar 2)) (x2 kDiv (xVar 2) (xC (.int 2)))))) (aNil))))) (aNil)))))
def f_u_law_any : IFn := runI N_u_law_any.length b_u_law_any
def b_u_law_dot : DSt := gRet (xCB kSum (aCons (ofL (xComp (iRange1 (aCons (xCB kLen (aCons (xVar 0) (aNil))) (aNil))) [2] (bName 2) (tTrue) (x2 kMul (x2 kIx (xVar 0) (xVar 2)) (x2 kIx (xVar 1) (xVar 2))))) (aNil)))
def f_u_law_dot : Fn := runF N_u_law_dot.length b_u_law_dot
def b_u_law_image : DSt := gRet (xCB kTuple (aCons (ofL (xComp (iSeq (xVar 0)) [2] (bName 2) (tTrue) (xCall f_u_law_dot (aCons (xVar 2) (aCons (xVar 1) (aNil)))))) (aNil)))
def f_u_law_image : Fn := runF N_u_law_image.length b_u_law_image
def b_u_law_columns : DSt := gRetL (xComp (iRange1 (aCons (xCB kLen (aCons (x2 kIx (xVar 0) (xC (.int 0))) (aNil))) (aNil))) [1] (bName 1) (tTrue) (xCB kTuple (aCons (ofL (xComp (iSeq (xVar 0)) [2] (bName 2) (tTrue) (x2 kIx (xVar 2) (xVar 1)))) (aNil))))
def f_u_law_columns : Fn := runF N_u_law_columns.length b_u_law_columns
def b_u_law_vector : DSt := gRet (xCB kTuple (aCons (ofL (xComp (iRange1 (aCons (xVar 1) (aNil))) [4] (bName 4) (tTrue) (x2 kAdd (xVar 2) (x2 kMod (xCB kInt (aCons (xCallI f_u_law_next (aCons (xVar 0) (aNil))) (aNil))) (x2 kAdd (x2 kSub (xVar 3) (xVar 2)) (xC (.int 1))))))) (aNil)))
def f_u_law_vector : IFn := runI N_u_law_vector.length b_u_law_vector
def b_u_law_key : DSt := gRet (xTup (aCons (xCall f_u_law_dot (aCons (xVar 0) (aCons (xVar 1) (aNil)))) (aCons (xVar 1) (aNil))))
def f_u_law_key : Fn := runF N_u_law_key.length b_u_law_key
def b_u_law_kind (z_NotMatrix z_NotPointed z_NotSide z_NotVector z_NotCost z_BadNumber z_NoAnswer z_TooLarge : Bool) (a : Addr) : DSt := gSeq (gSet 1 (ofL (xLst (aCons (xIs 0 a z_NotMatrix) (aCons (xIs 0 a z_NotPointed) (aCons (xIs 0 a z_NotSide) (aCons (xIs 0 a z_NotVector) (aNil)))))))) (gSeq (gSet 1 (ofL (x2L kAddL (xVar 1) (ofL (xLst (aCons (xIs 0 a z_NotCost) (aCons (xIs 0 a z_BadNumber) (aCons (xIs 0 a z_NoAnswer) (aCons (xIs 0 a z_TooLarge) (aNil)))))))))) (gSeq (gIf (xt2 kNe (xMr mCount (xVar 1) (aCons (xC (.bool true)) (aNil))) (xC (.int 1))) (gRet (xC (.str "!other"))) (gNext)) (gRet (x2 kIx (ofL (xLst (aCons (xC (.str "!matrix")) (aCons (xC (.str "!pointed")) (aCons (xC (.str "!side")) (aCons (xC (.str "!vector")) (aCons (xC (.str "!cost")) (aCons (xC (.str "!number")) (aCons (xC (.str "!none")) (aCons (xC (.str "!large")) (aNil))))))))))) (xMr mIndex (xVar 1) (aCons (xC (.bool true)) (aNil)))))))
def t_u_law_kind : List (Str × Str) := [("NotMatrix", "!matrix"), ("NotSide", "!side"), ("NotVector", "!vector"), ("NotCost", "!cost")]
def h_u_law_kind : Exn → Option D := kindD t_u_law_kind
def b_u_law_told : DSt := gTry 4 (gSeq (gIf (xt2 kLt (xVar 0) (xC (.int 3))) (gRet (xSel [f_check_side, f_check_vector, f_check_cost] (xVar 0) (aCons (xVar 1) (aCons (xVar 2) (aNil))))) (gNext)) (gSeq (gIf (xt2 kLt (xVar 0) (xC (.int 5))) (gRet (xSel [f_check_matrix, f_columns] (x2 kSub (xVar 0) (xC (.int 3))) (aCons (xVar 1) (aNil)))) (gNext)) (gRet (xIf (xt2 kEq (xVar 0) (xC (.int 5))) (xCall f_image (aCons (xVar 1) (aCons (xVar 2) (aNil)))) (xSel [f_is_solution, f_price] (x2 kSub (xVar 0) (xC (.int 6))) (aCons (xVar 1) (aCons (xVar 2) (aCons (xVar 3) (aNil))))))))) h_u_law_kind
def f_u_law_told : Fn := runF N_u_law_told.length b_u_law_told
def b_u_law_before : DSt := gTry 4 (gRet (xCall f_comes_before (aCons (xVar 0) (aCons (xVar 1) (aCons (xVar 2) (aCons (xVar 3) (aNil))))))) h_u_law_kind
def f_u_law_before : Fn := runF N_u_law_before.length b_u_law_before
def b_law : DSt := gSeq (gSetL 1 (xCallL f_u_law_draws (aCons (xVar 0) (aNil)))) (gSeq (gExpr (xM 1 mReverse aNil)) (gSeq (gSetL 1 (xCallIL f_u_law_more (aCons (xVar 1) (aCons (xC (.int 120)) (aNil))))) (gSeq (gSet 2 (xCallI f_u_law_any (aCons (xVar 1) (aNil)))) (gSeq (gPar 3 4 (aCons (xCB kLen (aCons (xVar 2) (aNil))) (aCons (xCB kLen (aCons (x2 kIx (xVar 2) (xC (.int 0))) (aNil))) (aNil)))) (gSeq (gIf (xtOr (xt2 kIsNot (xCall f_is_matrix (aCons (xVar 2) (aNil))) (xC (.bool true))) (xt2 kNe (xCB kRepr (aCons (ofL (xLst (aCons (xCall f_u_law_told (aCons (xC (.int 3)) (aCons (xVar 2) (aCons (xTup (aNil)) (aCons (xTup (aNil)) (aNil)))))) (aCons (xCall f_u_law_told (aCons (xC (.int 4)) (aCons (xVar 2) (aCons (xTup (aNil)) (aCons (xTup (aNil)) (aNil)))))) (aNil))))) (aNil))) (xCB kRepr (aCons (ofL (xLst (aCons (xC .none) (aCons (xCall f_u_law_columns (aCons (xVar 2) (aNil))) (aNil))))) (aNil))))) (gRet (xC (.bool false))) (gNext)) (gSeq (gSet 5 (x2 kIx (xVar 2) (xC (.int 0)))) (gSeq (gSet 6 (ofL (xLst (aCons (xTup (aNil)) (aCons (x2 kAdd (xVar 2) (x2 kMulT (xTup (aCons (xVar 5) (aNil))) (xC (.int 3)))) (aCons (x2 kAdd (x2 kMulT (xTup (aCons (xCut (xVar 5) (pSome (xC (.int 1))) (pNo)) (aNil))) (xC (.int 3))) (xTup (aCons (xVar 5) (aNil)))) (aCons (x2 kAdd (xTup (aCons (x2 kAdd (xTup (aCons (xC (.int 10)) (aNil))) (xCut (xVar 5) (pSome (xC (.int 1))) (pNo))) (aNil))) (xCut (xVar 2) (pSome (xC (.int 1))) (pNo))) (aCons (xTup (aCons (x2 kAdd (xTup (aCons (x1 kNeg (xC (.int 10))) (aNil))) (xCut (xVar 5) (pSome (xC (.int 1))) (pNo))) (aNil))) (aCons (xTup (aCons (x2 kMulT (xTup (aCons (xC (.int 0)) (aNil))) (xC (.int 7))) (aNil))) (aCons (xTup (aCons (xTup (aNil)) (aNil))) (aCons (xTup (aCons (x2 kAdd (xVar 5) (x2 kMulT (xTup (aCons (xC (.int 0)) (aNil))) (xC (.int 6)))) (aNil))) (aNil)))))))))))) (gSeq (gFor (iSeq (xVar 6)) (bName 7) (gIf (xtOr (xt2 kIsNot (xCall f_is_matrix (aCons (xVar 7) (aNil))) (xC (.bool false))) (xtOr (xt2 kNe (ofL (xComp (iRange1 (aCons (xC (.int 8)) (aNil))) [15] (bName 15) (tTrue) (xCall f_u_law_told (aCons (xVar 15) (aCons (xVar 7) (aCons (xTup (aNil)) (aCons (xTup (aNil)) (aNil)))))))) (ofL (xRepL (xLst (aCons (xC (.str "!matrix")) (aNil))) (xC (.int 8))))) (xt2 kNe (xCall f_u_law_before (aCons (xVar 7) (aCons (xTup (aNil)) (aCons (xTup (aNil)) (aCons (xTup (aNil)) (aNil)))))) (xC (.str "!matrix"))))) (gRet (xC (.bool false))) (gNext))) (gSeq (gSet 8 (xCallI f_u_law_vector (aCons (xVar 1) (aCons (xVar 3) (aCons (x1 kNeg (xC (.int 30))) (aCons (xC (.int 30)) (aNil))))))) (gSeq (gSet 9 (xCallI f_u_law_vector (aCons (xVar 1) (aCons (xVar 4) (aCons (x1 kNeg (xC (.int 50))) (aCons (xC (.int 50)) (aNil))))))) (gSeq (gAsg (xTup (aCons (xCallI f_u_law_vector (aCons (xVar 1) (aCons (xVar 4) (aCons (x1 kNeg (xC (.int 2))) (aCons (xC (.int 6)) (aNil)))))) (aCons (xCallI f_u_law_vector (aCons (xVar 1) (aCons (xVar 4) (aCons (x1 kNeg (xC (.int 2))) (aCons (xC (.int 6)) (aNil)))))) (aNil)))) (bTup (bCons (bName 7) (bCons (bName 10) (bNil))))) (gSeq (gIf (xt2 kEq (x2 kMod (xCB kInt (aCons (xCallI f_u_law_next (aCons (xVar 1) (aNil))) (aNil))) (xC (.int 2))) (xC (.int 0))) (gSet 8 (xCall f_u_law_image (aCons (xVar 2) (aCons (xVar 7) (aNil))))) (gNext)) (gSeq (gIf (xt2 kNe (xCB kRepr (aCons (ofL (xLst (aCons (xCall f_is_side (aCons (xVar 2) (aCons (xVar 8) (aNil)))) (aCons (xCall f_is_vector (aCons (xVar 2) (aCons (xVar 7) (aNil)))) (aCons (xCall f_is_cost (aCons (xVar 2) (aCons (xVar 9) (aNil)))) (aNil)))))) (aNil))) (xCB kRepr (aCons (ofL (xRepL (xLst (aCons (xC (.bool true)) (aNil))) (xC (.int 3)))) (aNil)))) (gRet (xC (.bool false))) (gNext)) (gSeq (gSet 11 (ofL (xLst (aCons (x2 kMulT (xTup (aCons (xC (.int 1000000)) (aNil))) (xVar 3)) (aCons (x2 kMulT (xTup (aCons (x1 kNeg (xC (.int 1000000))) (aNil))) (xVar 3)) (aCons (x2 kAdd (xTup (aCons (xC (.int 1000001)) (aNil))) (xCut (xVar 8) (pSome (xC (.int 1))) (pNo))) (aCons (x2 kAdd (xVar 8) (xTup (aCons (xC (.int 0)) (aNil)))) (aCons (xCut (xVar 8) (pSome (xC (.int 1))) (pNo)) (aCons (x2 kAdd (xTup (aCons (x1 kNeg (xC (.int 1000001))) (aNil))) (xCut (xVar 8) (pSome (xC (.int 1))) (pNo))) (aNil)))))))))) (gSeq (gIf (xt2 kNe (ofL (xComp (iSeq (xVar 11)) [16] (bName 16) (tTrue) (xCall f_is_side (aCons (xVar 2) (aCons (xVar 16) (aNil)))))) (ofL (xLst (aCons (xC (.bool true)) (aCons (xC (.bool true)) (aCons (xC (.bool false)) (aCons (xC (.bool false)) (aCons (xC (.bool false)) (aCons (xC (.bool false)) (aNil)))))))))) (gRet (xC (.bool false))) (gNext)) (gSeq (gIf (xt2 kNe (ofL (xComp (iSeq (ofL (xLst (aCons (x2 kMulT (xTup (aCons (xC (.int 50)) (aNil))) (xVar 4)) (aCons (x2 kAdd (xTup (aCons (xC (.int 51)) (aNil))) (xCut (xVar 9) (pSome (xC (.int 1))) (pNo))) (aCons (x2 kAdd (xTup (aCons (x1 kNeg (xC (.int 51))) (aNil))) (xCut (xVar 9) (pSome (xC (.int 1))) (pNo))) (aCons (x2 kAdd (xVar 9) (xTup (aCons (xC (.int 0)) (aNil)))) (aNil)))))))) [16] (bName 16) (tTrue) (xCall f_is_cost (aCons (xVar 2) (aCons (xVar 16) (aNil)))))) (ofL (xLst (aCons (xC (.bool true)) (aCons (xC (.bool false)) (aCons (xC (.bool false)) (aCons (xC (.bool false)) (aNil)))))))) (gRet (xC (.bool false))) (gNext)) (gSeq (gIf (xt2 kNe (ofL (xComp (iSeq (ofL (xLst (aCons (x2 kMulT (xTup (aCons (x2 kPow (xC (.int 10)) (xC (.int 30))) (aNil))) (xVar 4)) (aCons (x2 kAdd (xVar 7) (xTup (aCons (xC (.int 0)) (aNil)))) (aCons (xCut (xVar 7) (pSome (xC (.int 1))) (pNo)) (aNil))))))) [16] (bName 16) (tTrue) (xCall f_is_vector (aCons (xVar 2) (aCons (xVar 16) (aNil)))))) (ofL (xLst (aCons (xC (.bool true)) (aCons (xC (.bool false)) (aCons (xC (.bool false)) (aNil))))))) (gRet (xC (.bool false))) (gNext)) (gSeq (gIf (xtOr (xt2 kNe (xCB kRepr (aCons (xCall f_u_law_told (aCons (xC (.int 5)) (aCons (xVar 2) (aCons (xVar 7) (aCons (xTup (aNil)) (aNil)))))) (aNil))) (xCB kRepr (aCons (xCall f_u_law_image (aCons (xVar 2) (aCons (xVar 7) (aNil)))) (aNil)))) (xt2 kNe (xCB kRepr (aCons (xCall f_u_law_told (aCons (xC (.int 7)) (aCons (xVar 2) (aCons (xVar 9) (aCons (xVar 7) (aNil)))))) (aNil))) (xCB kRepr (aCons (xCall f_u_law_dot (aCons (xVar 9) (aCons (xVar 7) (aNil)))) (aNil))))) (gRet (xC (.bool false))) (gNext)) (gSeq (gIf (xt2 kNe (xCB kRepr (aCons (xCall f_u_law_told (aCons (xC (.int 6)) (aCons (xVar 2) (aCons (xVar 8) (aCons (xVar 7) (aNil)))))) (aNil))) (xCB kRepr (aCons (xAnd (x2 (kB kGe) (xCB kMin (aCons (xVar 7) (aNil))) (xC (.int 0))) (x2 (kB kEq) (xCall f_u_law_image (aCons (xVar 2) (aCons (xVar 7) (aNil)))) (xVar 8))) (aNil)))) (gRet (xC (.bool false))) (gNext)) (gSeq (gFor (iSeq (ofL (xLst (aCons (xTup (aCons (xVar 7) (aCons (xVar 10) (aNil)))) (aCons (xTup (aCons (xVar 10) (aCons (xVar 7) (aNil)))) (aCons (xTup (aCons (xVar 7) (aCons (xVar 7) (aNil)))) (aNil))))))) (bTup (bCons (bName 12) (bCons (bName 13) (bNil)))) (gIf (xt2 kNe (xCB kRepr (aCons (xCall f_u_law_before (aCons (xVar 2) (aCons (xVar 9) (aCons (xVar 12) (aCons (xVar 13) (aNil)))))) (aNil))) (xCB kRepr (aCons (x2 (kB kLt) (xCall f_u_law_key (aCons (xVar 9) (aCons (xVar 12) (aNil)))) (xCall f_u_law_key (aCons (xVar 9) (aCons (xVar 13) (aNil))))) (aNil)))) (gRet (xC (.bool false))) (gNext))) (gSeq (gSet 14 (ofL (xLst (aCons (xCall f_u_law_told (aCons (xC (.int 0)) (aCons (xVar 2) (aCons (x2 kAdd (xVar 8) (xTup (aCons (xC (.int 0)) (aNil)))) (aCons (xTup (aNil)) (aNil)))))) (aCons (xCall f_u_law_told (aCons (xC (.int 1)) (aCons (xVar 2) (aCons (x2 kAdd (xVar 7) (xTup (aCons (xC (.int 0)) (aNil)))) (aCons (xTup (aNil)) (aNil)))))) (aCons (xCall f_u_law_told (aCons (xC (.int 2)) (aCons (xVar 2) (aCons (x2 kAdd (xVar 9) (xTup (aCons (xC (.int 0)) (aNil)))) (aCons (xTup (aNil)) (aNil)))))) (aCons (xCall f_u_law_told (aCons (xC (.int 5)) (aCons (xVar 2) (aCons (xTup (aNil)) (aCons (xTup (aNil)) (aNil)))))) (aNil)))))))) (gSeq (gSet 14 (ofL (x2L kAddL (xVar 14) (ofL (xLst (aCons (xCall f_u_law_told (aCons (xC (.int 6)) (aCons (xVar 2) (aCons (xTup (aNil)) (aCons (xTup (aNil)) (aNil)))))) (aCons (xCall f_u_law_told (aCons (xC (.int 6)) (aCons (xVar 2) (aCons (xVar 8) (aCons (xTup (aNil)) (aNil)))))) (aCons (xCall f_u_law_told (aCons (xC (.int 7)) (aCons (xVar 2) (aCons (xTup (aNil)) (aCons (xTup (aNil)) (aNil)))))) (aCons (xCall f_u_law_told (aCons (xC (.int 7)) (aCons (xVar 2) (aCons (xVar 9) (aCons (xTup (aNil)) (aNil)))))) (aNil)))))))))) (gSeq (gSet 14 (ofL (x2L kAddL (xVar 14) (ofL (xLst (aCons (xCall f_u_law_before (aCons (xVar 2) (aCons (xTup (aNil)) (aCons (xTup (aNil)) (aCons (xTup (aNil)) (aNil)))))) (aCons (xCall f_u_law_before (aCons (xVar 2) (aCons (xVar 9) (aCons (xTup (aNil)) (aCons (xTup (aNil)) (aNil)))))) (aCons (xCall f_u_law_before (aCons (xVar 2) (aCons (xVar 9) (aCons (xVar 7) (aCons (xTup (aNil)) (aNil)))))) (aNil))))))))) (gRet (x2 (kB kEq) (xVar 14) (ofL (xLst (aCons (xC (.str "!side")) (aCons (xC (.str "!vector")) (aCons (xC (.str "!cost")) (aCons (xC (.str "!vector")) (aCons (xC (.str "!side")) (aCons (xC (.str "!vector")) (aCons (xC (.str "!cost")) (aCons (xC (.str "!vector")) (aCons (xC (.str "!cost")) (aCons (xC (.str "!vector")) (aCons (xC (.str "!vector")) (aNil)))))))))))))))))))))))))))))))))))))))
def f_law : Fn := runF N_law.length b_law
/-! ### what the top has made -/
variable {P : Program} {w : World} {K : Frg} {mg : Mg} {base : Heap} {C_TallyError C_NotMatrix C_NotPointed C_NotSide C_NotVector C_NotCost C_BadNumber C_NoAnswer C_TooLarge : Addr}
structure Txt (K : Frg) (mg : Mg) (C_TallyError C_NotMatrix C_NotPointed C_NotSide C_NotVector C_NotCost C_BadNumber C_NoAnswer C_TooLarge : Addr) : Prop where
  b_all : mg "all" = none
  b_int : mg "int" = none
  b_isinstance : mg "isinstance" = none
  b_len : mg "len" = none
  b_min : mg "min" = none
  b_range : mg "range" = none
  b_repr : mg "repr" = none
  b_sum : mg "sum" = none
  b_tuple : mg "tuple" = none
  b_zip : mg "zip" = none
  c_MOST_COLUMNS : Cst mg "MOST_COLUMNS" 6
  c_MOST_COST : Cst mg "MOST_COST" 50
  c_MOST_ENTRY : Cst mg "MOST_ENTRY" 9
  c_MOST_ROWS : Cst mg "MOST_ROWS" 3
  c_MOST_SIDE : Cst mg "MOST_SIDE" 1000000
  g_TallyError : mg "TallyError" = some (.ref C_TallyError)
  g_NotMatrix : mg "NotMatrix" = some (.ref C_NotMatrix)
  g_NotPointed : mg "NotPointed" = some (.ref C_NotPointed)
  g_NotSide : mg "NotSide" = some (.ref C_NotSide)
  g_NotVector : mg "NotVector" = some (.ref C_NotVector)
  g_NotCost : mg "NotCost" = some (.ref C_NotCost)
  g_BadNumber : mg "BadNumber" = some (.ref C_BadNumber)
  g_NoAnswer : mg "NoAnswer" = some (.ref C_NoAnswer)
  g_TooLarge : mg "TooLarge" = some (.ref C_TooLarge)
  o_NotMatrix : Own K mg "NotMatrix" C_NotMatrix
  e_NotMatrix : ExcC K C_NotMatrix
  m_NotMatrix_TallyError : PySem.W.exmOne K (.ref C_NotMatrix) (.ref C_TallyError) = some true
  k_NotMatrix_NotMatrix : PySem.W.kitOne K (.ref C_NotMatrix) (.ref C_NotMatrix) = some true
  k_NotMatrix_NotPointed : PySem.W.kitOne K (.ref C_NotMatrix) (.ref C_NotPointed) = some false
  k_NotMatrix_NotSide : PySem.W.kitOne K (.ref C_NotMatrix) (.ref C_NotSide) = some false
  k_NotMatrix_NotVector : PySem.W.kitOne K (.ref C_NotMatrix) (.ref C_NotVector) = some false
  k_NotMatrix_NotCost : PySem.W.kitOne K (.ref C_NotMatrix) (.ref C_NotCost) = some false
  k_NotMatrix_BadNumber : PySem.W.kitOne K (.ref C_NotMatrix) (.ref C_BadNumber) = some false
  k_NotMatrix_NoAnswer : PySem.W.kitOne K (.ref C_NotMatrix) (.ref C_NoAnswer) = some false
  k_NotMatrix_TooLarge : PySem.W.kitOne K (.ref C_NotMatrix) (.ref C_TooLarge) = some false
  o_NotSide : Own K mg "NotSide" C_NotSide
  e_NotSide : ExcC K C_NotSide
  m_NotSide_TallyError : PySem.W.exmOne K (.ref C_NotSide) (.ref C_TallyError) = some true
  k_NotSide_NotMatrix : PySem.W.kitOne K (.ref C_NotSide) (.ref C_NotMatrix) = some false
  k_NotSide_NotPointed : PySem.W.kitOne K (.ref C_NotSide) (.ref C_NotPointed) = some false
  k_NotSide_NotSide : PySem.W.kitOne K (.ref C_NotSide) (.ref C_NotSide) = some true
  k_NotSide_NotVector : PySem.W.kitOne K (.ref C_NotSide) (.ref C_NotVector) = some false
  k_NotSide_NotCost : PySem.W.kitOne K (.ref C_NotSide) (.ref C_NotCost) = some false
  k_NotSide_BadNumber : PySem.W.kitOne K (.ref C_NotSide) (.ref C_BadNumber) = some false
  k_NotSide_NoAnswer : PySem.W.kitOne K (.ref C_NotSide) (.ref C_NoAnswer) = some false
  k_NotSide_TooLarge : PySem.W.kitOne K (.ref C_NotSide) (.ref C_TooLarge) = some false
  o_NotVector : Own K mg "NotVector" C_NotVector
  e_NotVector : ExcC K C_NotVector
  m_NotVector_TallyError : PySem.W.exmOne K (.ref C_NotVector) (.ref C_TallyError) = some true
  k_NotVector_NotMatrix : PySem.W.kitOne K (.ref C_NotVector) (.ref C_NotMatrix) = some false
  k_NotVector_NotPointed : PySem.W.kitOne K (.ref C_NotVector) (.ref C_NotPointed) = some false
  k_NotVector_NotSide : PySem.W.kitOne K (.ref C_NotVector) (.ref C_NotSide) = some false
  k_NotVector_NotVector : PySem.W.kitOne K (.ref C_NotVector) (.ref C_NotVector) = some true
  k_NotVector_NotCost : PySem.W.kitOne K (.ref C_NotVector) (.ref C_NotCost) = some false
  k_NotVector_BadNumber : PySem.W.kitOne K (.ref C_NotVector) (.ref C_BadNumber) = some false
  k_NotVector_NoAnswer : PySem.W.kitOne K (.ref C_NotVector) (.ref C_NoAnswer) = some false
  k_NotVector_TooLarge : PySem.W.kitOne K (.ref C_NotVector) (.ref C_TooLarge) = some false
  o_NotCost : Own K mg "NotCost" C_NotCost
  e_NotCost : ExcC K C_NotCost
  m_NotCost_TallyError : PySem.W.exmOne K (.ref C_NotCost) (.ref C_TallyError) = some true
  k_NotCost_NotMatrix : PySem.W.kitOne K (.ref C_NotCost) (.ref C_NotMatrix) = some false
  k_NotCost_NotPointed : PySem.W.kitOne K (.ref C_NotCost) (.ref C_NotPointed) = some false
  k_NotCost_NotSide : PySem.W.kitOne K (.ref C_NotCost) (.ref C_NotSide) = some false
  k_NotCost_NotVector : PySem.W.kitOne K (.ref C_NotCost) (.ref C_NotVector) = some false
  k_NotCost_NotCost : PySem.W.kitOne K (.ref C_NotCost) (.ref C_NotCost) = some true
  k_NotCost_BadNumber : PySem.W.kitOne K (.ref C_NotCost) (.ref C_BadNumber) = some false
  k_NotCost_NoAnswer : PySem.W.kitOne K (.ref C_NotCost) (.ref C_NoAnswer) = some false
  k_NotCost_TooLarge : PySem.W.kitOne K (.ref C_NotCost) (.ref C_TooLarge) = some false
theorem bt_all : bootBuiltins "all" = some (.builtin "all") := by decide +kernel
theorem bt_int : bootBuiltins "int" = some (.type "int") := by decide +kernel
theorem bt_isinstance : bootBuiltins "isinstance" = some (.builtin "isinstance") := by decide +kernel
theorem bt_len : bootBuiltins "len" = some (.builtin "len") := by decide +kernel
theorem bt_min : bootBuiltins "min" = some (.builtin "min") := by decide +kernel
theorem bt_range : bootBuiltins "range" = some (.type "range") := by decide +kernel
theorem bt_repr : bootBuiltins "repr" = some (.builtin "repr") := by decide +kernel
theorem bt_sum : bootBuiltins "sum" = some (.builtin "sum") := by decide +kernel
theorem bt_tuple : bootBuiltins "tuple" = some (.type "tuple") := by decide +kernel
theorem bt_zip : bootBuiltins "zip" = some (.type "zip") := by decide +kernel
/-! ### the derivations -/
theorem sc_is_matrix : FnScope N_is_matrix ["matrix"] (defScope s_is_matrix) := ⟨rfl, rfl, rfl, by decide +kernel, rfl, by decide +kernel, by decide +kernel⟩
theorem bi_is_matrix : BindOk "is_matrix" s_is_matrix ["matrix"] := fun _ _ _ _ _ _ us hl => match us, hl with | [_], _ => rfl
theorem ok_is_matrix (T : Txt K mg C_TallyError C_NotMatrix C_NotPointed C_NotSide C_NotVector C_NotCost C_BadNumber C_NoAnswer C_TooLarge) (D : Def K mg "is_matrix" s_is_matrix)  : FOk P w K mg base "is_matrix" 1 ["matrix"] (spP K mg 1 f_is_matrix) := by
  refine fok_data (k := 0) D sc_is_matrix bi_is_matrix fun f cdv A outer s H E hr tk po => ?_
  have hu := room_u hr
  have nd : N_is_matrix.Nodup := by decide +kernel
  exact dss_cons (ds_if (dt_w (dw_or (dt_not (dt_chain (o_le hu) (o_le hu) (de_int) (de_cb c_len T.b_len bt_len (da_cons (dv 0) (da_nil))) (de_cint T.c_MOST_ROWS))) (dw_or1 (dt_not (dt_chain (o_le hu) (o_le hu) (de_int) (de_cb c_len T.b_len bt_len (da_cons (de_ix i_ix (dv 0) (de_int)) (da_nil))) (de_cint T.c_MOST_COLUMNS)))))) (dss_one (ds_ret (de_bl))) (dss_nil)) (dss_one (ds_ret (de_cb (c_all rfl) T.b_all bt_all (da_cons (de_of (dl_comp (own := [("row", 1)]) rfl nd (di_seq (dv 0)) (blkOk_by (by first | decide +kernel | exact rfl)) (fun _ _ _ _ _ => dg_name nd) (fun _ _ _ _ _ => dts_nil) (fun _ _ _ _ _ => de_and (de_cmp (o_eq hu) (de_cb c_len T.b_len bt_len (da_cons (dv 1) (da_nil))) (de_cb c_len T.b_len bt_len (da_cons (de_ix i_ix (dv 0) (de_int)) (da_nil)))) (de_one (de_cb (c_all rfl) T.b_all bt_all (da_cons (de_of (dl_comp (own := [("n", 2)]) rfl nd (di_seq (dv 1)) (blkOk_by (by first | decide +kernel | exact rfl)) (fun _ _ _ _ _ => dg_name nd) (fun _ _ _ _ _ => dts_nil) (fun _ _ _ _ _ => de_chain (o_le hu) (o_le hu) (de_un o_neg (de_cint T.c_MOST_ENTRY)) (dv 2) (de_cint T.c_MOST_ENTRY)))) (da_nil))))))) (da_nil)))))
theorem sc_check_matrix : FnScope N_check_matrix ["matrix"] (defScope s_check_matrix) := ⟨rfl, rfl, rfl, by decide +kernel, rfl, by decide +kernel, by decide +kernel⟩
theorem bi_check_matrix : BindOk "check_matrix" s_check_matrix ["matrix"] := fun _ _ _ _ _ _ us hl => match us, hl with | [_], _ => rfl
theorem ok_check_matrix (T : Txt K mg C_TallyError C_NotMatrix C_NotPointed C_NotSide C_NotVector C_NotCost C_BadNumber C_NoAnswer C_TooLarge) (D : Def K mg "check_matrix" s_check_matrix) (C_is_matrix : FOk P w K mg base "is_matrix" 1 ["matrix"] (spP K mg 1 f_is_matrix)) : FOk P w K mg base "check_matrix" 2 ["matrix"] (spP K mg 1 f_check_matrix) := by
  refine fok_data (k := 1) D sc_check_matrix bi_check_matrix fun f cdv A outer s H E hr tk po => ?_
  have hu := room_u hr
  have nd : N_check_matrix.Nodup := by decide +kernel
  exact dss_one (ds_if (dt_not (dt_of (de_call C_is_matrix (hr.mono (by decide)) (fun _ => L2N.passAt tk _) (da_cons (dv 0) (da_nil)) (hlen := (aCons_len aNil_len))))) (dss_one (ds_raise T.o_NotMatrix rfl tk)) (dss_nil))
theorem sc_has_entries : FnScope N_has_entries ["entries", "many", "most"] (defScope s_has_entries) := ⟨rfl, rfl, rfl, by decide +kernel, rfl, by decide +kernel, by decide +kernel⟩
theorem bi_has_entries : BindOk "has_entries" s_has_entries ["entries", "many", "most"] := fun _ _ _ _ _ _ us hl => match us, hl with | [_, _, _], _ => rfl
theorem ok_has_entries (T : Txt K mg C_TallyError C_NotMatrix C_NotPointed C_NotSide C_NotVector C_NotCost C_BadNumber C_NoAnswer C_TooLarge) (D : Def K mg "has_entries" s_has_entries)  : FOk P w K mg base "has_entries" 1 ["entries", "many", "most"] (spP K mg 3 f_has_entries) := by
  refine fok_data (k := 0) D sc_has_entries bi_has_entries fun f cdv A outer s H E hr tk po => ?_
  have hu := room_u hr
  have nd : N_has_entries.Nodup := by decide +kernel
  exact dss_one (ds_ret (de_and (de_cmp (o_eq hu) (de_cb c_len T.b_len bt_len (da_cons (dv 0) (da_nil))) (dv 1)) (de_one (de_or (de_cmp o_is (dv 2) (de_non)) (de_one (de_cb (c_all rfl) T.b_all bt_all (da_cons (de_of (dl_comp (own := [("n", 3)]) rfl nd (di_seq (dv 0)) (blkOk_by (by first | decide +kernel | exact rfl)) (fun _ _ _ _ _ => dg_name nd) (fun _ _ _ _ _ => dts_nil) (fun _ _ _ _ _ => de_chain (o_le hu) (o_le hu) (de_un o_neg (dv 2)) (dv 3) (dv 2)))) (da_nil))))))))
theorem sc_is_side : FnScope N_is_side ["matrix", "side"] (defScope s_is_side) := ⟨rfl, rfl, rfl, by decide +kernel, rfl, by decide +kernel, by decide +kernel⟩
theorem bi_is_side : BindOk "is_side" s_is_side ["matrix", "side"] := fun _ _ _ _ _ _ us hl => match us, hl with | [_, _], _ => rfl
theorem ok_is_side (T : Txt K mg C_TallyError C_NotMatrix C_NotPointed C_NotSide C_NotVector C_NotCost C_BadNumber C_NoAnswer C_TooLarge) (D : Def K mg "is_side" s_is_side) (C_check_matrix : FOk P w K mg base "check_matrix" 2 ["matrix"] (spP K mg 1 f_check_matrix)) (C_has_entries : FOk P w K mg base "has_entries" 1 ["entries", "many", "most"] (spP K mg 3 f_has_entries)) : FOk P w K mg base "is_side" 3 ["matrix", "side"] (spP K mg 2 f_is_side) := by
  refine fok_data (k := 2) D sc_is_side bi_is_side fun f cdv A outer s H E hr tk po => ?_
  have hu := room_u hr
  have nd : N_is_side.Nodup := by decide +kernel
  exact dss_cons (ds_expr (de_call C_check_matrix (hr.mono (by decide)) (fun _ => L2N.passAt tk _) (da_cons (dv 0) (da_nil)) (hlen := (aCons_len aNil_len)))) (dss_one (ds_ret (de_call C_has_entries (hr.mono (by decide)) (fun _ => L2N.passAt tk _) (da_cons (dv 1) (da_cons (de_cb c_len T.b_len bt_len (da_cons (dv 0) (da_nil))) (da_cons (de_cint T.c_MOST_SIDE) (da_nil)))) (hlen := (aCons_len (aCons_len (aCons_len aNil_len)))))))
theorem sc_is_vector : FnScope N_is_vector ["matrix", "vector"] (defScope s_is_vector) := ⟨rfl, rfl, rfl, by decide +kernel, rfl, by decide +kernel, by decide +kernel⟩
theorem bi_is_vector : BindOk "is_vector" s_is_vector ["matrix", "vector"] := fun _ _ _ _ _ _ us hl => match us, hl with | [_, _], _ => rfl
theorem ok_is_vector (T : Txt K mg C_TallyError C_NotMatrix C_NotPointed C_NotSide C_NotVector C_NotCost C_BadNumber C_NoAnswer C_TooLarge) (D : Def K mg "is_vector" s_is_vector) (C_check_matrix : FOk P w K mg base "check_matrix" 2 ["matrix"] (spP K mg 1 f_check_matrix)) (C_has_entries : FOk P w K mg base "has_entries" 1 ["entries", "many", "most"] (spP K mg 3 f_has_entries)) : FOk P w K mg base "is_vector" 3 ["matrix", "vector"] (spP K mg 2 f_is_vector) := by
  refine fok_data (k := 2) D sc_is_vector bi_is_vector fun f cdv A outer s H E hr tk po => ?_
  have hu := room_u hr
  have nd : N_is_vector.Nodup := by decide +kernel
  exact dss_cons (ds_expr (de_call C_check_matrix (hr.mono (by decide)) (fun _ => L2N.passAt tk _) (da_cons (dv 0) (da_nil)) (hlen := (aCons_len aNil_len)))) (dss_one (ds_ret (de_call C_has_entries (hr.mono (by decide)) (fun _ => L2N.passAt tk _) (da_cons (dv 1) (da_cons (de_cb c_len T.b_len bt_len (da_cons (de_ix i_ix (dv 0) (de_int)) (da_nil))) (da_cons (de_non) (da_nil)))) (hlen := (aCons_len (aCons_len (aCons_len aNil_len)))))))
theorem sc_is_cost : FnScope N_is_cost ["matrix", "cost"] (defScope s_is_cost) := ⟨rfl, rfl, rfl, by decide +kernel, rfl, by decide +kernel, by decide +kernel⟩
theorem bi_is_cost : BindOk "is_cost" s_is_cost ["matrix", "cost"] := fun _ _ _ _ _ _ us hl => match us, hl with | [_, _], _ => rfl
theorem ok_is_cost (T : Txt K mg C_TallyError C_NotMatrix C_NotPointed C_NotSide C_NotVector C_NotCost C_BadNumber C_NoAnswer C_TooLarge) (D : Def K mg "is_cost" s_is_cost) (C_check_matrix : FOk P w K mg base "check_matrix" 2 ["matrix"] (spP K mg 1 f_check_matrix)) (C_has_entries : FOk P w K mg base "has_entries" 1 ["entries", "many", "most"] (spP K mg 3 f_has_entries)) : FOk P w K mg base "is_cost" 3 ["matrix", "cost"] (spP K mg 2 f_is_cost) := by
  refine fok_data (k := 2) D sc_is_cost bi_is_cost fun f cdv A outer s H E hr tk po => ?_
  have hu := room_u hr
  have nd : N_is_cost.Nodup := by decide +kernel
  exact dss_cons (ds_expr (de_call C_check_matrix (hr.mono (by decide)) (fun _ => L2N.passAt tk _) (da_cons (dv 0) (da_nil)) (hlen := (aCons_len aNil_len)))) (dss_one (ds_ret (de_call C_has_entries (hr.mono (by decide)) (fun _ => L2N.passAt tk _) (da_cons (dv 1) (da_cons (de_cb c_len T.b_len bt_len (da_cons (de_ix i_ix (dv 0) (de_int)) (da_nil))) (da_cons (de_cint T.c_MOST_COST) (da_nil)))) (hlen := (aCons_len (aCons_len (aCons_len aNil_len)))))))
theorem sc_check_side : FnScope N_check_side ["matrix", "side"] (defScope s_check_side) := ⟨rfl, rfl, rfl, by decide +kernel, rfl, by decide +kernel, by decide +kernel⟩
theorem bi_check_side : BindOk "check_side" s_check_side ["matrix", "side"] := fun _ _ _ _ _ _ us hl => match us, hl with | [_, _], _ => rfl
theorem ok_check_side (T : Txt K mg C_TallyError C_NotMatrix C_NotPointed C_NotSide C_NotVector C_NotCost C_BadNumber C_NoAnswer C_TooLarge) (D : Def K mg "check_side" s_check_side) (C_is_side : FOk P w K mg base "is_side" 3 ["matrix", "side"] (spP K mg 2 f_is_side)) : FOk P w K mg base "check_side" 4 ["matrix", "side"] (spP K mg 2 f_check_side) := by
  refine fok_data (k := 3) D sc_check_side bi_check_side fun f cdv A outer s H E hr tk po => ?_
  have hu := room_u hr
  have nd : N_check_side.Nodup := by decide +kernel
  exact dss_one (ds_if (dt_not (dt_of (de_call C_is_side (hr.mono (by decide)) (fun _ => L2N.passAt tk _) (da_cons (dv 0) (da_cons (dv 1) (da_nil))) (hlen := (aCons_len (aCons_len aNil_len)))))) (dss_one (ds_raise T.o_NotSide rfl tk)) (dss_nil))
theorem sc_check_vector : FnScope N_check_vector ["matrix", "vector"] (defScope s_check_vector) := ⟨rfl, rfl, rfl, by decide +kernel, rfl, by decide +kernel, by decide +kernel⟩
theorem bi_check_vector : BindOk "check_vector" s_check_vector ["matrix", "vector"] := fun _ _ _ _ _ _ us hl => match us, hl with | [_, _], _ => rfl
theorem ok_check_vector (T : Txt K mg C_TallyError C_NotMatrix C_NotPointed C_NotSide C_NotVector C_NotCost C_BadNumber C_NoAnswer C_TooLarge) (D : Def K mg "check_vector" s_check_vector) (C_is_vector : FOk P w K mg base "is_vector" 3 ["matrix", "vector"] (spP K mg 2 f_is_vector)) : FOk P w K mg base "check_vector" 4 ["matrix", "vector"] (spP K mg 2 f_check_vector) := by
  refine fok_data (k := 3) D sc_check_vector bi_check_vector fun f cdv A outer s H E hr tk po => ?_
  have hu := room_u hr
  have nd : N_check_vector.Nodup := by decide +kernel
  exact dss_one (ds_if (dt_not (dt_of (de_call C_is_vector (hr.mono (by decide)) (fun _ => L2N.passAt tk _) (da_cons (dv 0) (da_cons (dv 1) (da_nil))) (hlen := (aCons_len (aCons_len aNil_len)))))) (dss_one (ds_raise T.o_NotVector rfl tk)) (dss_nil))
theorem sc_check_cost : FnScope N_check_cost ["matrix", "cost"] (defScope s_check_cost) := ⟨rfl, rfl, rfl, by decide +kernel, rfl, by decide +kernel, by decide +kernel⟩
theorem bi_check_cost : BindOk "check_cost" s_check_cost ["matrix", "cost"] := fun _ _ _ _ _ _ us hl => match us, hl with | [_, _], _ => rfl
theorem ok_check_cost (T : Txt K mg C_TallyError C_NotMatrix C_NotPointed C_NotSide C_NotVector C_NotCost C_BadNumber C_NoAnswer C_TooLarge) (D : Def K mg "check_cost" s_check_cost) (C_is_cost : FOk P w K mg base "is_cost" 3 ["matrix", "cost"] (spP K mg 2 f_is_cost)) : FOk P w K mg base "check_cost" 4 ["matrix", "cost"] (spP K mg 2 f_check_cost) := by
  refine fok_data (k := 3) D sc_check_cost bi_check_cost fun f cdv A outer s H E hr tk po => ?_
  have hu := room_u hr
  have nd : N_check_cost.Nodup := by decide +kernel
  exact dss_one (ds_if (dt_not (dt_of (de_call C_is_cost (hr.mono (by decide)) (fun _ => L2N.passAt tk _) (da_cons (dv 0) (da_cons (dv 1) (da_nil))) (hlen := (aCons_len (aCons_len aNil_len)))))) (dss_one (ds_raise T.o_NotCost rfl tk)) (dss_nil))
theorem sc_dot : FnScope N_dot ["one", "other"] (defScope s_dot) := ⟨rfl, rfl, rfl, by decide +kernel, rfl, by decide +kernel, by decide +kernel⟩
theorem bi_dot : BindOk "dot" s_dot ["one", "other"] := fun _ _ _ _ _ _ us hl => match us, hl with | [_, _], _ => rfl
theorem ok_dot (T : Txt K mg C_TallyError C_NotMatrix C_NotPointed C_NotSide C_NotVector C_NotCost C_BadNumber C_NoAnswer C_TooLarge) (D : Def K mg "dot" s_dot)  : FOk P w K mg base "dot" 1 ["one", "other"] (spP K mg 2 f_dot) := by
  refine fok_data (k := 0) D sc_dot bi_dot fun f cdv A outer s H E hr tk po => ?_
  have hu := room_u hr
  have nd : N_dot.Nodup := by decide +kernel
  exact dss_one (ds_ret (de_cb (c_sum rfl) T.b_sum bt_sum (da_cons (de_of (dl_comp (own := [("first", 2), ("second", 3)]) rfl nd (di_zip T.b_zip (da_cons (dv 0) (da_cons (dv 1) (da_nil)))) (blkOk_by (by first | decide +kernel | exact rfl)) (fun _ _ _ _ _ => dg_tup rfl (dgs_cons (dg_name nd) (dgs_cons (dg_name nd) (dgs_nil))) (hlen := bLen2)) (fun _ _ _ _ _ => dts_nil) (fun _ _ _ _ _ => de_bin o_mul (dv 2) (dv 3)))) (da_nil))))
theorem sc_image_of : FnScope N_image_of ["matrix", "vector"] (defScope s_image_of) := ⟨rfl, rfl, rfl, by decide +kernel, rfl, by decide +kernel, by decide +kernel⟩
theorem bi_image_of : BindOk "image_of" s_image_of ["matrix", "vector"] := fun _ _ _ _ _ _ us hl => match us, hl with | [_, _], _ => rfl
theorem ok_image_of (T : Txt K mg C_TallyError C_NotMatrix C_NotPointed C_NotSide C_NotVector C_NotCost C_BadNumber C_NoAnswer C_TooLarge) (D : Def K mg "image_of" s_image_of) (C_dot : FOk P w K mg base "dot" 1 ["one", "other"] (spP K mg 2 f_dot)) : FOk P w K mg base "image_of" 2 ["matrix", "vector"] (spP K mg 2 f_image_of) := by
  refine fok_data (k := 1) D sc_image_of bi_image_of fun f cdv A outer s H E hr tk po => ?_
  have hu := room_u hr
  have nd : N_image_of.Nodup := by decide +kernel
  exact dss_one (ds_ret (de_ct c_tuple T.b_tuple bt_tuple (da_cons (de_of (dl_comp (own := [("row", 2)]) rfl nd (di_seq (dv 0)) (blkOk_by (by first | decide +kernel | exact rfl)) (fun _ _ _ _ _ => dg_name nd) (fun _ _ _ _ _ => dts_nil) (fun _ _ _ _ _ => de_call C_dot (hr.mono (by decide)) (passN) (da_cons (dv 2) (da_cons (dv 1) (da_nil))) (hlen := (aCons_len (aCons_len aNil_len)))))) (da_nil))))
theorem sc_columns_of : FnScope N_columns_of ["matrix"] (defScope s_columns_of) := ⟨rfl, rfl, rfl, by decide +kernel, rfl, by decide +kernel, by decide +kernel⟩
theorem bi_columns_of : BindOk "columns_of" s_columns_of ["matrix"] := fun _ _ _ _ _ _ us hl => match us, hl with | [_], _ => rfl
theorem ok_columns_of (T : Txt K mg C_TallyError C_NotMatrix C_NotPointed C_NotSide C_NotVector C_NotCost C_BadNumber C_NoAnswer C_TooLarge) (D : Def K mg "columns_of" s_columns_of)  : FOk P w K mg base "columns_of" 1 ["matrix"] (spP K mg 1 f_columns_of) := by
  refine fok_data (k := 0) D sc_columns_of bi_columns_of fun f cdv A outer s H E hr tk po => ?_
  have hu := room_u hr
  have nd : N_columns_of.Nodup := by decide +kernel
  exact dss_one (ds_retL (dl_comp (own := [("at", 1)]) rfl nd (di_range1 T.b_range (da_cons (de_cb c_len T.b_len bt_len (da_cons (de_ix i_ix (dv 0) (de_int)) (da_nil))) (da_nil))) (blkOk_by (by first | decide +kernel | exact rfl)) (fun _ _ _ _ _ => dg_name nd) (fun _ _ _ _ _ => dts_nil) (fun _ _ _ _ _ => de_ct c_tuple T.b_tuple bt_tuple (da_cons (de_of (dl_comp (own := [("row", 2)]) rfl nd (di_seq (dv 0)) (blkOk_by (by first | decide +kernel | exact rfl)) (fun _ _ _ _ _ => dg_name nd) (fun _ _ _ _ _ => dts_nil) (fun _ _ _ _ _ => de_ix i_ix (dv 2) (dv 1)))) (da_nil)))))
theorem sc_columns : FnScope N_columns ["matrix"] (defScope s_columns) := ⟨rfl, rfl, rfl, by decide +kernel, rfl, by decide +kernel, by decide +kernel⟩
theorem bi_columns : BindOk "columns" s_columns ["matrix"] := fun _ _ _ _ _ _ us hl => match us, hl with | [_], _ => rfl
theorem ok_columns (T : Txt K mg C_TallyError C_NotMatrix C_NotPointed C_NotSide C_NotVector C_NotCost C_BadNumber C_NoAnswer C_TooLarge) (D : Def K mg "columns" s_columns) (C_check_matrix : FOk P w K mg base "check_matrix" 2 ["matrix"] (spP K mg 1 f_check_matrix)) (C_columns_of : FOk P w K mg base "columns_of" 1 ["matrix"] (spP K mg 1 f_columns_of)) : FOk P w K mg base "columns" 3 ["matrix"] (spP K mg 1 f_columns) := by
  refine fok_data (k := 2) D sc_columns bi_columns fun f cdv A outer s H E hr tk po => ?_
  have hu := room_u hr
  have nd : N_columns.Nodup := by decide +kernel
  exact dss_cons (ds_expr (de_call C_check_matrix (hr.mono (by decide)) (fun _ => L2N.passAt tk _) (da_cons (dv 0) (da_nil)) (hlen := (aCons_len aNil_len)))) (dss_one (ds_retL (dl_call C_columns_of (hr.mono (by decide)) (fun _ => L2N.passAt tk _) (da_cons (dv 0) (da_nil)) (hlen := (aCons_len aNil_len)))))
theorem sc_image : FnScope N_image ["matrix", "vector"] (defScope s_image) := ⟨rfl, rfl, rfl, by decide +kernel, rfl, by decide +kernel, by decide +kernel⟩
theorem bi_image : BindOk "image" s_image ["matrix", "vector"] := fun _ _ _ _ _ _ us hl => match us, hl with | [_, _], _ => rfl
theorem ok_image (T : Txt K mg C_TallyError C_NotMatrix C_NotPointed C_NotSide C_NotVector C_NotCost C_BadNumber C_NoAnswer C_TooLarge) (D : Def K mg "image" s_image) (C_check_vector : FOk P w K mg base "check_vector" 4 ["matrix", "vector"] (spP K mg 2 f_check_vector)) (C_image_of : FOk P w K mg base "image_of" 2 ["matrix", "vector"] (spP K mg 2 f_image_of)) : FOk P w K mg base "image" 5 ["matrix", "vector"] (spP K mg 2 f_image) := by
  refine fok_data (k := 4) D sc_image bi_image fun f cdv A outer s H E hr tk po => ?_
  have hu := room_u hr
  have nd : N_image.Nodup := by decide +kernel
  exact dss_cons (ds_expr (de_call C_check_vector (hr.mono (by decide)) (fun _ => L2N.passAt tk _) (da_cons (dv 0) (da_cons (dv 1) (da_nil))) (hlen := (aCons_len (aCons_len aNil_len))))) (dss_one (ds_ret (de_call C_image_of (hr.mono (by decide)) (fun _ => L2N.passAt tk _) (da_cons (dv 0) (da_cons (dv 1) (da_nil))) (hlen := (aCons_len (aCons_len aNil_len))))))
theorem sc_solves : FnScope N_solves ["matrix", "side", "vector"] (defScope s_solves) := ⟨rfl, rfl, rfl, by decide +kernel, rfl, by decide +kernel, by decide +kernel⟩
theorem bi_solves : BindOk "solves" s_solves ["matrix", "side", "vector"] := fun _ _ _ _ _ _ us hl => match us, hl with | [_, _, _], _ => rfl
theorem ok_solves (T : Txt K mg C_TallyError C_NotMatrix C_NotPointed C_NotSide C_NotVector C_NotCost C_BadNumber C_NoAnswer C_TooLarge) (D : Def K mg "solves" s_solves) (C_image_of : FOk P w K mg base "image_of" 2 ["matrix", "vector"] (spP K mg 2 f_image_of)) : FOk P w K mg base "solves" 3 ["matrix", "side", "vector"] (spP K mg 3 f_solves) := by
  refine fok_data (k := 2) D sc_solves bi_solves fun f cdv A outer s H E hr tk po => ?_
  have hu := room_u hr
  have nd : N_solves.Nodup := by decide +kernel
  exact dss_one (ds_ret (de_and (de_cmp (o_ge hu) (de_cb (c_min rfl hu) T.b_min bt_min (da_cons (dv 2) (da_nil))) (de_int)) (de_one (de_cmp (o_eq hu) (de_call C_image_of (hr.mono (by decide)) (fun _ => L2N.passAt tk _) (da_cons (dv 0) (da_cons (dv 2) (da_nil))) (hlen := (aCons_len (aCons_len aNil_len)))) (dv 1)))))
theorem sc_is_solution : FnScope N_is_solution ["matrix", "side", "vector"] (defScope s_is_solution) := ⟨rfl, rfl, rfl, by decide +kernel, rfl, by decide +kernel, by decide +kernel⟩
theorem bi_is_solution : BindOk "is_solution" s_is_solution ["matrix", "side", "vector"] := fun _ _ _ _ _ _ us hl => match us, hl with | [_, _, _], _ => rfl
theorem ok_is_solution (T : Txt K mg C_TallyError C_NotMatrix C_NotPointed C_NotSide C_NotVector C_NotCost C_BadNumber C_NoAnswer C_TooLarge) (D : Def K mg "is_solution" s_is_solution) (C_check_side : FOk P w K mg base "check_side" 4 ["matrix", "side"] (spP K mg 2 f_check_side)) (C_check_vector : FOk P w K mg base "check_vector" 4 ["matrix", "vector"] (spP K mg 2 f_check_vector)) (C_solves : FOk P w K mg base "solves" 3 ["matrix", "side", "vector"] (spP K mg 3 f_solves)) : FOk P w K mg base "is_solution" 5 ["matrix", "side", "vector"] (spP K mg 3 f_is_solution) := by
  refine fok_data (k := 4) D sc_is_solution bi_is_solution fun f cdv A outer s H E hr tk po => ?_
  have hu := room_u hr
  have nd : N_is_solution.Nodup := by decide +kernel
  exact dss_cons (ds_expr (de_call C_check_side (hr.mono (by decide)) (fun _ => L2N.passAt tk _) (da_cons (dv 0) (da_cons (dv 1) (da_nil))) (hlen := (aCons_len (aCons_len aNil_len))))) (dss_cons (ds_expr (de_call C_check_vector (hr.mono (by decide)) (fun _ => L2N.passAt tk _) (da_cons (dv 0) (da_cons (dv 2) (da_nil))) (hlen := (aCons_len (aCons_len aNil_len))))) (dss_one (ds_ret (de_call C_solves (hr.mono (by decide)) (fun _ => L2N.passAt tk _) (da_cons (dv 0) (da_cons (dv 1) (da_cons (dv 2) (da_nil)))) (hlen := (aCons_len (aCons_len (aCons_len aNil_len))))))))
theorem sc_price : FnScope N_price ["matrix", "cost", "vector"] (defScope s_price) := ⟨rfl, rfl, rfl, by decide +kernel, rfl, by decide +kernel, by decide +kernel⟩
theorem bi_price : BindOk "price" s_price ["matrix", "cost", "vector"] := fun _ _ _ _ _ _ us hl => match us, hl with | [_, _, _], _ => rfl
theorem ok_price (T : Txt K mg C_TallyError C_NotMatrix C_NotPointed C_NotSide C_NotVector C_NotCost C_BadNumber C_NoAnswer C_TooLarge) (D : Def K mg "price" s_price) (C_check_cost : FOk P w K mg base "check_cost" 4 ["matrix", "cost"] (spP K mg 2 f_check_cost)) (C_check_vector : FOk P w K mg base "check_vector" 4 ["matrix", "vector"] (spP K mg 2 f_check_vector)) (C_dot : FOk P w K mg base "dot" 1 ["one", "other"] (spP K mg 2 f_dot)) : FOk P w K mg base "price" 5 ["matrix", "cost", "vector"] (spP K mg 3 f_price) := by
  refine fok_data (k := 4) D sc_price bi_price fun f cdv A outer s H E hr tk po => ?_
  have hu := room_u hr
  have nd : N_price.Nodup := by decide +kernel
  exact dss_cons (ds_expr (de_call C_check_cost (hr.mono (by decide)) (fun _ => L2N.passAt tk _) (da_cons (dv 0) (da_cons (dv 1) (da_nil))) (hlen := (aCons_len (aCons_len aNil_len))))) (dss_cons (ds_expr (de_call C_check_vector (hr.mono (by decide)) (fun _ => L2N.passAt tk _) (da_cons (dv 0) (da_cons (dv 2) (da_nil))) (hlen := (aCons_len (aCons_len aNil_len))))) (dss_one (ds_ret (de_call C_dot (hr.mono (by decide)) (fun _ => L2N.passAt tk _) (da_cons (dv 1) (da_cons (dv 2) (da_nil))) (hlen := (aCons_len (aCons_len aNil_len)))))))
theorem sc_key_of : FnScope N_key_of ["cost", "vector"] (defScope s_key_of) := ⟨rfl, rfl, rfl, by decide +kernel, rfl, by decide +kernel, by decide +kernel⟩
theorem bi_key_of : BindOk "key_of" s_key_of ["cost", "vector"] := fun _ _ _ _ _ _ us hl => match us, hl with | [_, _], _ => rfl
theorem ok_key_of (T : Txt K mg C_TallyError C_NotMatrix C_NotPointed C_NotSide C_NotVector C_NotCost C_BadNumber C_NoAnswer C_TooLarge) (D : Def K mg "key_of" s_key_of) (C_dot : FOk P w K mg base "dot" 1 ["one", "other"] (spP K mg 2 f_dot)) : FOk P w K mg base "key_of" 2 ["cost", "vector"] (spP K mg 2 f_key_of) := by
  refine fok_data (k := 1) D sc_key_of bi_key_of fun f cdv A outer s H E hr tk po => ?_
  have hu := room_u hr
  have nd : N_key_of.Nodup := by decide +kernel
  exact dss_one (ds_ret (de_tup (da_cons (de_call C_dot (hr.mono (by decide)) (fun _ => L2N.passAt tk _) (da_cons (dv 0) (da_cons (dv 1) (da_nil))) (hlen := (aCons_len (aCons_len aNil_len)))) (da_cons (dv 1) (da_nil)))))
theorem sc_comes_before : FnScope N_comes_before ["matrix", "cost", "one", "other"] (defScope s_comes_before) := ⟨rfl, rfl, rfl, by decide +kernel, rfl, by decide +kernel, by decide +kernel⟩
theorem bi_comes_before : BindOk "comes_before" s_comes_before ["matrix", "cost", "one", "other"] := fun _ _ _ _ _ _ us hl => match us, hl with | [_, _, _, _], _ => rfl
theorem ok_comes_before (T : Txt K mg C_TallyError C_NotMatrix C_NotPointed C_NotSide C_NotVector C_NotCost C_BadNumber C_NoAnswer C_TooLarge) (D : Def K mg "comes_before" s_comes_before) (C_check_cost : FOk P w K mg base "check_cost" 4 ["matrix", "cost"] (spP K mg 2 f_check_cost)) (C_check_vector : FOk P w K mg base "check_vector" 4 ["matrix", "vector"] (spP K mg 2 f_check_vector)) (C_key_of : FOk P w K mg base "key_of" 2 ["cost", "vector"] (spP K mg 2 f_key_of)) : FOk P w K mg base "comes_before" 5 ["matrix", "cost", "one", "other"] (spP K mg 4 f_comes_before) := by
  refine fok_data (k := 4) D sc_comes_before bi_comes_before fun f cdv A outer s H E hr tk po => ?_
  have hu := room_u hr
  have nd : N_comes_before.Nodup := by decide +kernel
  exact dss_cons (ds_expr (de_call C_check_cost (hr.mono (by decide)) (fun _ => L2N.passAt tk _) (da_cons (dv 0) (da_cons (dv 1) (da_nil))) (hlen := (aCons_len (aCons_len aNil_len))))) (dss_cons (ds_expr (de_call C_check_vector (hr.mono (by decide)) (fun _ => L2N.passAt tk _) (da_cons (dv 0) (da_cons (dv 2) (da_nil))) (hlen := (aCons_len (aCons_len aNil_len))))) (dss_cons (ds_expr (de_call C_check_vector (hr.mono (by decide)) (fun _ => L2N.passAt tk _) (da_cons (dv 0) (da_cons (dv 3) (da_nil))) (hlen := (aCons_len (aCons_len aNil_len))))) (dss_one (ds_ret (de_cmp (o_lt hu) (de_call C_key_of (hr.mono (by decide)) (fun _ => L2N.passAt tk _) (da_cons (dv 1) (da_cons (dv 2) (da_nil))) (hlen := (aCons_len (aCons_len aNil_len)))) (de_call C_key_of (hr.mono (by decide)) (fun _ => L2N.passAt tk _) (da_cons (dv 1) (da_cons (dv 3) (da_nil))) (hlen := (aCons_len (aCons_len aNil_len)))))))))
theorem sc_u_law_number : FnScope N_u_law_number ["cell"] (defScope s_u_law_number) := ⟨rfl, rfl, rfl, by decide +kernel, rfl, by decide +kernel, by decide +kernel⟩
theorem bi_u_law_number : BindOk "_law_number" s_u_law_number ["cell"] := fun _ _ _ _ _ _ us hl => match us, hl with | [_], _ => rfl
theorem ok_u_law_number (T : Txt K mg C_TallyError C_NotMatrix C_NotPointed C_NotSide C_NotVector C_NotCost C_BadNumber C_NoAnswer C_TooLarge) (D : Def K mg "_law_number" s_u_law_number)  : FOk P w K mg base "_law_number" 1 ["cell"] (spP K mg 1 f_u_law_number) := by
  refine fok_data (k := 0) D sc_u_law_number bi_u_law_number fun f cdv A outer s H E hr tk po => ?_
  have hu := room_u hr
  have nd : N_u_law_number.Nodup := by decide +kernel
  exact dss_cons (ds_if (dt_cmp (o_lt hu) (dv 0) (de_int)) (dss_one (ds_ret (de_bin o_sub (de_int) (dv 0)))) (dss_nil)) (dss_one (ds_ret (dv 0)))
theorem sc_u_law_draws : FnScope N_u_law_draws ["script"] (defScope s_u_law_draws) := ⟨rfl, rfl, rfl, by decide +kernel, rfl, by decide +kernel, by decide +kernel⟩
theorem bi_u_law_draws : BindOk "_law_draws" s_u_law_draws ["script"] := fun _ _ _ _ _ _ us hl => match us, hl with | [_], _ => rfl
theorem ok_u_law_draws (T : Txt K mg C_TallyError C_NotMatrix C_NotPointed C_NotSide C_NotVector C_NotCost C_BadNumber C_NoAnswer C_TooLarge) (D : Def K mg "_law_draws" s_u_law_draws) (C_u_law_number : FOk P w K mg base "_law_number" 1 ["cell"] (spP K mg 1 f_u_law_number)) : FOk P w K mg base "_law_draws" 2 ["script"] (spP K mg 1 f_u_law_draws) := by
  refine fok_data (k := 1) D sc_u_law_draws bi_u_law_draws fun f cdv A outer s H E hr tk po => ?_
  have hu := room_u hr
  have nd : N_u_law_draws.Nodup := by decide +kernel
  exact dss_cons (ds_setL (i := 1) (dl_lst (da_nil)) nd) (dss_cons (ds_for po rfl (di_seq (dv 0)) (dg_name nd) (dss_cons (ds_set (i := 3) (de_call C_u_law_number (hr.mono (by decide)) (fun _ => L2N.passAt tk _) (da_cons (dv 2) (da_nil)) (hlen := (aCons_len aNil_len))) nd) (dss_one (ds_if (dt_cmp (o_ge hu) (dv 3) (de_int)) (dss_one (ds_for po rfl (di_range1 T.b_range (da_cons (de_int) (da_nil))) (dg_name nd) (dss_cons (ds_if (dt_cmp (o_eq hu) (dv 3) (de_int)) (dss_one (ds_break)) (dss_nil)) (dss_cons (ds_expr (de_m (pv 1) PySem.F.slot_list_append PySem.F.type_list_append m_append (da_cons (de_bin o_mod (de_ct c_int T.b_int bt_int (da_cons (dv 3) (da_nil))) (de_int)) (da_nil)))) (dss_one (ds_set (i := 3) (de_bin o_div (dv 3) (de_int)) nd)))))) (dss_cons (ds_set (i := 5) (de_bin o_mod (de_ct c_int T.b_int bt_int (da_cons (de_bin o_add (de_bin o_mul (dv 3) (de_int)) (de_int)) (da_nil))) (de_int)) nd) (dss_cons (ds_set (i := 6) (de_bin o_mod (de_ct c_int T.b_int bt_int (da_cons (de_bin o_add (de_bin o_mul (dv 5) (de_int)) (dv 3)) (da_nil))) (de_int)) nd) (dss_one (ds_extend (pv 1) (dl_lst (da_cons (de_bin o_mod (de_ct c_int T.b_int bt_int (da_cons (dv 3) (da_nil))) (de_int)) (da_cons (de_bin o_mod (de_ct c_int T.b_int bt_int (da_cons (dv 5) (da_nil))) (de_int)) (da_cons (de_bin o_mod (de_ct c_int T.b_int bt_int (da_cons (dv 6) (da_nil))) (de_int)) (da_nil))))))))))))) (dss_cons (ds_expr (de_m0 (pv 1) PySem.F.slot_list_reverse PySem.F.type_list_reverse m_reverse)) (dss_one (ds_retOwn (pv 1)))))
theorem sc_u_law_next : FnScope N_u_law_next ["draws"] (defScope s_u_law_next) := ⟨rfl, rfl, rfl, by decide +kernel, rfl, by decide +kernel, by decide +kernel⟩
theorem bi_u_law_next : BindOk "_law_next" s_u_law_next ["draws"] := fun _ _ _ _ _ _ us hl => match us, hl with | [_], _ => rfl
theorem ok_u_law_next (T : Txt K mg C_TallyError C_NotMatrix C_NotPointed C_NotSide C_NotVector C_NotCost C_BadNumber C_NoAnswer C_TooLarge) (D : Def K mg "_law_next" s_u_law_next)  : FOk P w K mg base "_law_next" 1 ["draws"] (spI K 1 f_u_law_next) := by
  refine fok_io (k := 0) D sc_u_law_next (by decide) bi_u_law_next fun f cdv A outer s H E hr tk po => ?_
  have hu := room_u hr
  have nd : N_u_law_next.Nodup := by decide +kernel
  exact dss_cons (ds_if (dt_of (dv 0)) (dss_one (ds_ret (de_m0 (pv 0) PySem.F.slot_list_pop PySem.F.type_list_pop m_pop))) (dss_nil)) (dss_one (ds_ret (de_int)))
theorem sc_u_law_more : FnScope N_u_law_more ["draws", "many"] (defScope s_u_law_more) := ⟨rfl, rfl, rfl, by decide +kernel, rfl, by decide +kernel, by decide +kernel⟩
theorem bi_u_law_more : BindOk "_law_more" s_u_law_more ["draws", "many"] := fun _ _ _ _ _ _ us hl => match us, hl with | [_, _], _ => rfl
theorem ok_u_law_more (T : Txt K mg C_TallyError C_NotMatrix C_NotPointed C_NotSide C_NotVector C_NotCost C_BadNumber C_NoAnswer C_TooLarge) (D : Def K mg "_law_more" s_u_law_more) (C_u_law_next : FOk P w K mg base "_law_next" 1 ["draws"] (spI K 1 f_u_law_next)) : FOk P w K mg base "_law_more" 2 ["draws", "many"] (spI K 2 f_u_law_more) := by
  refine fok_io (k := 1) D sc_u_law_more (by decide) bi_u_law_more fun f cdv A outer s H E hr tk po => ?_
  have hu := room_u hr
  have nd : N_u_law_more.Nodup := by decide +kernel
  exact dss_cons (ds_set (i := 2) (de_bin o_add (de_bin o_add (de_bin o_mul (de_int) (de_callI C_u_law_next (hr.mono (by decide)) (fun _ => L2N.passAt tk _) (da_cons (dv 0) (da_nil)) (hlen := (aCons_len aNil_len)))) (de_callI C_u_law_next (hr.mono (by decide)) (fun _ => L2N.passAt tk _) (da_cons (dv 0) (da_nil)) (hlen := (aCons_len aNil_len)))) (de_int)) nd) (dss_cons (ds_setL (i := 3) (dl_lst (da_nil)) nd) (dss_cons (ds_for po rfl (di_range1 T.b_range (da_cons (dv 1) (da_nil))) (dg_name nd) (dss_cons (ds_set (i := 2) (de_bin o_mod (de_ct c_int T.b_int bt_int (da_cons (de_bin o_add (de_bin o_mul (dv 2) (de_int)) (de_int)) (da_nil))) (de_int)) nd) (dss_one (ds_expr (de_m (pv 3) PySem.F.slot_list_append PySem.F.type_list_append m_append (da_cons (de_bin o_mod (de_ct c_int T.b_int bt_int (da_cons (de_bin o_div (dv 2) (de_int)) (da_nil))) (de_int)) (da_nil))))))) (dss_one (ds_retL (dl_bin o_addL (dv 3) (dv 0))))))
theorem sc_u_law_any : FnScope N_u_law_any ["draws"] (defScope s_u_law_any) := ⟨rfl, rfl, rfl, by decide +kernel, rfl, by decide +kernel, by decide +kernel⟩
theorem bi_u_law_any : BindOk "_law_any" s_u_law_any ["draws"] := fun _ _ _ _ _ _ us hl => match us, hl with | [_], _ => rfl
theorem ok_u_law_any (T : Txt K mg C_TallyError C_NotMatrix C_NotPointed C_NotSide C_NotVector C_NotCost C_BadNumber C_NoAnswer C_TooLarge) (D : Def K mg "_law_any" s_u_law_any) (C_u_law_next : FOk P w K mg base "_law_next" 1 ["draws"] (spI K 1 f_u_law_next)) : FOk P w K mg base "_law_any" 2 ["draws"] (spI K 1 f_u_law_any) := by
  refine fok_io (k := 1) D sc_u_law_any (by decide) bi_u_law_any fun f cdv A outer s H E hr tk po => ?_
  have hu := room_u hr
  have nd : N_u_law_any.Nodup := by decide +kernel
  exact dss_cons (ds_set (i := 1) (de_bin o_add (de_int) (de_bin o_mod (de_ct c_int T.b_int bt_int (da_cons (de_callI C_u_law_next (hr.mono (by decide)) (fun _ => L2N.passAt tk _) (da_cons (dv 0) (da_nil)) (hlen := (aCons_len aNil_len))) (da_nil))) (de_int))) nd) (dss_cons (ds_set (i := 2) (de_ix i_ix (de_of (dl_lst (da_cons (de_int) (da_cons (de_int) (da_cons (de_int) (da_nil)))))) (de_bin o_mod (de_ct c_int T.b_int bt_int (da_cons (de_callI C_u_law_next (hr.mono (by decide)) (fun _ => L2N.passAt tk _) (da_cons (dv 0) (da_nil)) (hlen := (aCons_len aNil_len))) (da_nil))) (de_int))) nd) (dss_one (ds_ret (de_ct c_tuple T.b_tuple bt_tuple (da_cons (de_of (dl_comp (own := [("k", 3)]) rfl nd (di_range1 T.b_range (da_cons (de_bin o_add (de_int) (de_bin o_mod (de_ct c_int T.b_int bt_int (da_cons (de_callI C_u_law_next (hr.mono (by decide)) (fun _ => L2N.passAt tk _) (da_cons (dv 0) (da_nil)) (hlen := (aCons_len aNil_len))) (da_nil))) (de_int))) (da_nil))) (blkOk_by (by first | decide +kernel | exact rfl)) (fun _ _ _ _ _ => dg_name nd) (fun _ _ _ _ _ => dts_nil) (fun _ _ _ _ _ => de_ct c_tuple T.b_tuple bt_tuple (da_cons (de_of (dl_comp (own := [("j", 4)]) rfl nd (di_range1 T.b_range (da_cons (dv 1) (da_nil))) (blkOk_by (by first | decide +kernel | exact rfl)) (fun _ _ _ _ _ => dg_name nd) (fun _ _ _ _ _ => dts_nil) (fun _ _ _ _ _ => de_bin o_sub (de_bin o_mod (de_ct c_int T.b_int bt_int (da_cons (de_callI C_u_law_next (hr.mono (by decide)) (passN) (da_cons (dv 0) (da_nil)) (hlen := (aCons_len aNil_len))) (da_nil))) (dv 2)) (de_bin o_div (dv 2) (de_int))))) (da_nil))))) (da_nil))))))
theorem sc_u_law_dot : FnScope N_u_law_dot ["one", "other"] (defScope s_u_law_dot) := ⟨rfl, rfl, rfl, by decide +kernel, rfl, by decide +kernel, by decide +kernel⟩
theorem bi_u_law_dot : BindOk "_law_dot" s_u_law_dot ["one", "other"] := fun _ _ _ _ _ _ us hl => match us, hl with | [_, _], _ => rfl
theorem ok_u_law_dot (T : Txt K mg C_TallyError C_NotMatrix C_NotPointed C_NotSide C_NotVector C_NotCost C_BadNumber C_NoAnswer C_TooLarge) (D : Def K mg "_law_dot" s_u_law_dot)  : FOk P w K mg base "_law_dot" 1 ["one", "other"] (spP K mg 2 f_u_law_dot) := by
  refine fok_data (k := 0) D sc_u_law_dot bi_u_law_dot fun f cdv A outer s H E hr tk po => ?_
  have hu := room_u hr
  have nd : N_u_law_dot.Nodup := by decide +kernel
  exact dss_one (ds_ret (de_cb (c_sum rfl) T.b_sum bt_sum (da_cons (de_of (dl_comp (own := [("k", 2)]) rfl nd (di_range1 T.b_range (da_cons (de_cb c_len T.b_len bt_len (da_cons (dv 0) (da_nil))) (da_nil))) (blkOk_by (by first | decide +kernel | exact rfl)) (fun _ _ _ _ _ => dg_name nd) (fun _ _ _ _ _ => dts_nil) (fun _ _ _ _ _ => de_bin o_mul (de_ix i_ix (dv 0) (dv 2)) (de_ix i_ix (dv 1) (dv 2))))) (da_nil))))
theorem sc_u_law_image : FnScope N_u_law_image ["matrix", "vector"] (defScope s_u_law_image) := ⟨rfl, rfl, rfl, by decide +kernel, rfl, by decide +kernel, by decide +kernel⟩
theorem bi_u_law_image : BindOk "_law_image" s_u_law_image ["matrix", "vector"] := fun _ _ _ _ _ _ us hl => match us, hl with | [_, _], _ => rfl
theorem ok_u_law_image (T : Txt K mg C_TallyError C_NotMatrix C_NotPointed C_NotSide C_NotVector C_NotCost C_BadNumber C_NoAnswer C_TooLarge) (D : Def K mg "_law_image" s_u_law_image) (C_u_law_dot : FOk P w K mg base "_law_dot" 1 ["one", "other"] (spP K mg 2 f_u_law_dot)) : FOk P w K mg base "_law_image" 2 ["matrix", "vector"] (spP K mg 2 f_u_law_image) := by
  refine fok_data (k := 1) D sc_u_law_image bi_u_law_image fun f cdv A outer s H E hr tk po => ?_
  have hu := room_u hr
  have nd : N_u_law_image.Nodup := by decide +kernel
  exact dss_one (ds_ret (de_ct c_tuple T.b_tuple bt_tuple (da_cons (de_of (dl_comp (own := [("row", 2)]) rfl nd (di_seq (dv 0)) (blkOk_by (by first | decide +kernel | exact rfl)) (fun _ _ _ _ _ => dg_name nd) (fun _ _ _ _ _ => dts_nil) (fun _ _ _ _ _ => de_call C_u_law_dot (hr.mono (by decide)) (passN) (da_cons (dv 2) (da_cons (dv 1) (da_nil))) (hlen := (aCons_len (aCons_len aNil_len)))))) (da_nil))))
theorem sc_u_law_columns : FnScope N_u_law_columns ["matrix"] (defScope s_u_law_columns) := ⟨rfl, rfl, rfl, by decide +kernel, rfl, by decide +kernel, by decide +kernel⟩
theorem bi_u_law_columns : BindOk "_law_columns" s_u_law_columns ["matrix"] := fun _ _ _ _ _ _ us hl => match us, hl with | [_], _ => rfl
theorem ok_u_law_columns (T : Txt K mg C_TallyError C_NotMatrix C_NotPointed C_NotSide C_NotVector C_NotCost C_BadNumber C_NoAnswer C_TooLarge) (D : Def K mg "_law_columns" s_u_law_columns)  : FOk P w K mg base "_law_columns" 1 ["matrix"] (spP K mg 1 f_u_law_columns) := by
  refine fok_data (k := 0) D sc_u_law_columns bi_u_law_columns fun f cdv A outer s H E hr tk po => ?_
  have hu := room_u hr
  have nd : N_u_law_columns.Nodup := by decide +kernel
  exact dss_one (ds_retL (dl_comp (own := [("k", 1)]) rfl nd (di_range1 T.b_range (da_cons (de_cb c_len T.b_len bt_len (da_cons (de_ix i_ix (dv 0) (de_int)) (da_nil))) (da_nil))) (blkOk_by (by first | decide +kernel | exact rfl)) (fun _ _ _ _ _ => dg_name nd) (fun _ _ _ _ _ => dts_nil) (fun _ _ _ _ _ => de_ct c_tuple T.b_tuple bt_tuple (da_cons (de_of (dl_comp (own := [("row", 2)]) rfl nd (di_seq (dv 0)) (blkOk_by (by first | decide +kernel | exact rfl)) (fun _ _ _ _ _ => dg_name nd) (fun _ _ _ _ _ => dts_nil) (fun _ _ _ _ _ => de_ix i_ix (dv 2) (dv 1)))) (da_nil)))))
theorem sc_u_law_vector : FnScope N_u_law_vector ["draws", "many", "low", "high"] (defScope s_u_law_vector) := ⟨rfl, rfl, rfl, by decide +kernel, rfl, by decide +kernel, by decide +kernel⟩
theorem bi_u_law_vector : BindOk "_law_vector" s_u_law_vector ["draws", "many", "low", "high"] := fun _ _ _ _ _ _ us hl => match us, hl with | [_, _, _, _], _ => rfl
theorem ok_u_law_vector (T : Txt K mg C_TallyError C_NotMatrix C_NotPointed C_NotSide C_NotVector C_NotCost C_BadNumber C_NoAnswer C_TooLarge) (D : Def K mg "_law_vector" s_u_law_vector) (C_u_law_next : FOk P w K mg base "_law_next" 1 ["draws"] (spI K 1 f_u_law_next)) : FOk P w K mg base "_law_vector" 2 ["draws", "many", "low", "high"] (spI K 4 f_u_law_vector) := by
  refine fok_io (k := 1) D sc_u_law_vector (by decide) bi_u_law_vector fun f cdv A outer s H E hr tk po => ?_
  have hu := room_u hr
  have nd : N_u_law_vector.Nodup := by decide +kernel
  exact dss_one (ds_ret (de_ct c_tuple T.b_tuple bt_tuple (da_cons (de_of (dl_comp (own := [("k", 4)]) rfl nd (di_range1 T.b_range (da_cons (dv 1) (da_nil))) (blkOk_by (by first | decide +kernel | exact rfl)) (fun _ _ _ _ _ => dg_name nd) (fun _ _ _ _ _ => dts_nil) (fun _ _ _ _ _ => de_bin o_add (dv 2) (de_bin o_mod (de_ct c_int T.b_int bt_int (da_cons (de_callI C_u_law_next (hr.mono (by decide)) (passN) (da_cons (dv 0) (da_nil)) (hlen := (aCons_len aNil_len))) (da_nil))) (de_bin o_add (de_bin o_sub (dv 3) (dv 2)) (de_int)))))) (da_nil))))
theorem sc_u_law_key : FnScope N_u_law_key ["cost", "vector"] (defScope s_u_law_key) := ⟨rfl, rfl, rfl, by decide +kernel, rfl, by decide +kernel, by decide +kernel⟩
theorem bi_u_law_key : BindOk "_law_key" s_u_law_key ["cost", "vector"] := fun _ _ _ _ _ _ us hl => match us, hl with | [_, _], _ => rfl
theorem ok_u_law_key (T : Txt K mg C_TallyError C_NotMatrix C_NotPointed C_NotSide C_NotVector C_NotCost C_BadNumber C_NoAnswer C_TooLarge) (D : Def K mg "_law_key" s_u_law_key) (C_u_law_dot : FOk P w K mg base "_law_dot" 1 ["one", "other"] (spP K mg 2 f_u_law_dot)) : FOk P w K mg base "_law_key" 2 ["cost", "vector"] (spP K mg 2 f_u_law_key) := by
  refine fok_data (k := 1) D sc_u_law_key bi_u_law_key fun f cdv A outer s H E hr tk po => ?_
  have hu := room_u hr
  have nd : N_u_law_key.Nodup := by decide +kernel
  exact dss_one (ds_ret (de_tup (da_cons (de_call C_u_law_dot (hr.mono (by decide)) (fun _ => L2N.passAt tk _) (da_cons (dv 0) (da_cons (dv 1) (da_nil))) (hlen := (aCons_len (aCons_len aNil_len)))) (da_cons (dv 1) (da_nil)))))
theorem sc_u_law_kind : FnScope N_u_law_kind ["error"] (defScope s_u_law_kind) := ⟨rfl, rfl, rfl, by decide +kernel, rfl, by decide +kernel, by decide +kernel⟩
theorem bi_u_law_kind : BindOk "_law_kind" s_u_law_kind ["error"] := fun _ _ _ _ _ _ us hl => match us, hl with | [_], _ => rfl
theorem body_u_law_kind {C : Addr} {z_NotMatrix z_NotPointed z_NotSide z_NotVector z_NotCost z_BadNumber z_NoAnswer z_TooLarge : Bool} (T : Txt K mg C_TallyError C_NotMatrix C_NotPointed C_NotSide C_NotVector C_NotCost C_BadNumber C_NoAnswer C_TooLarge) (ec : ExcC K C) (h_NotMatrix : ∃ G, mg "NotMatrix" = some (.ref G) ∧ PySem.W.kitOne K (.ref C) (.ref G) = some z_NotMatrix) (h_NotPointed : ∃ G, mg "NotPointed" = some (.ref G) ∧ PySem.W.kitOne K (.ref C) (.ref G) = some z_NotPointed) (h_NotSide : ∃ G, mg "NotSide" = some (.ref G) ∧ PySem.W.kitOne K (.ref C) (.ref G) = some z_NotSide) (h_NotVector : ∃ G, mg "NotVector" = some (.ref G) ∧ PySem.W.kitOne K (.ref C) (.ref G) = some z_NotVector) (h_NotCost : ∃ G, mg "NotCost" = some (.ref G) ∧ PySem.W.kitOne K (.ref C) (.ref G) = some z_NotCost) (h_BadNumber : ∃ G, mg "BadNumber" = some (.ref G) ∧ PySem.W.kitOne K (.ref C) (.ref G) = some z_BadNumber) (h_NoAnswer : ∃ G, mg "NoAnswer" = some (.ref G) ∧ PySem.W.kitOne K (.ref C) (.ref G) = some z_NoAnswer) (h_TooLarge : ∃ G, mg "TooLarge" = some (.ref G) ∧ PySem.W.kitOne K (.ref C) (.ref G) = some z_TooLarge) (f : Addr) (cdv : Value) (A : Around) (outer : List Env) (s : Shared) (H : Hp) (E : XK) (p : Addr × Obj) (hot : L2H.Hot1 A p) (hz : L2N.Zn (.ref C) none p.2) (hr : L2H.RoomH 0 (A.deeper (envOfC "_law_kind" (defScope s_u_law_kind) s.heap.objs.size f cdv))) :
    DSs (L2H.cxH (L2N.CX P w) P w K mg base N_u_law_kind "_law_kind" (defScope s_u_law_kind) f cdv A outer s H E p) W0 (defBody s_u_law_kind) (b_u_law_kind z_NotMatrix z_NotPointed z_NotSide z_NotVector z_NotCost z_BadNumber z_NoAnswer z_TooLarge p.1) := by
  have hu : (A.deeper (envOfC "_law_kind" (defScope s_u_law_kind) s.heap.objs.size f cdv)).units + 200 < cLine := by have := hr.un; omega
  have nd : N_u_law_kind.Nodup := by decide +kernel
  have hfl : ∃ vs, p.2.data = .fields vs := let ⟨_, vs, e, _⟩ := hot; ⟨vs, e⟩
  have hp : (p.1, p.2) ∈ (L2H.cxH (L2N.CX P w) P w K mg base N_u_law_kind "_law_kind" (defScope s_u_law_kind) f cdv A outer s H E p).pn := List.mem_cons_self
  replace hz := hz.zc
  exact dss_cons (ds_set (i := 1) (de_of (dl_lst (da_cons (de_isT ec hp hz hfl T.b_isinstance bt_isinstance (pv 0) h_NotMatrix) (da_cons (de_isT ec hp hz hfl T.b_isinstance bt_isinstance (pv 0) h_NotPointed) (da_cons (de_isT ec hp hz hfl T.b_isinstance bt_isinstance (pv 0) h_NotSide) (da_cons (de_isT ec hp hz hfl T.b_isinstance bt_isinstance (pv 0) h_NotVector) (da_nil))))))) nd) (dss_cons (ds_set (i := 1) (de_of (dl_bin o_addL (dv 1) (de_of (dl_lst (da_cons (de_isT ec hp hz hfl T.b_isinstance bt_isinstance (pv 0) h_NotCost) (da_cons (de_isT ec hp hz hfl T.b_isinstance bt_isinstance (pv 0) h_BadNumber) (da_cons (de_isT ec hp hz hfl T.b_isinstance bt_isinstance (pv 0) h_NoAnswer) (da_cons (de_isT ec hp hz hfl T.b_isinstance bt_isinstance (pv 0) h_TooLarge) (da_nil))))))))) nd) (dss_cons (ds_if (dt_cmp (o_ne hu) (de_mr (dv 1) PySem.F.slot_list_count PySem.F.type_list_count (m_count (u_count hu)) mflat_count (da_cons (de_bl) (da_nil))) (de_int)) (dss_one (ds_ret (de_str))) (dss_nil)) (dss_one (ds_ret (de_ix i_ix (de_of (dl_lst (da_cons (de_str) (da_cons (de_str) (da_cons (de_str) (da_cons (de_str) (da_cons (de_str) (da_cons (de_str) (da_cons (de_str) (da_cons (de_str) (da_nil))))))))))) (de_mr (dv 1) PySem.F.slot_list_index PySem.F.type_list_index (m_index (u_index hu)) mflat_index (da_cons (de_bl) (da_nil))))))))
theorem res_u_law_kind_NotMatrix (a : Addr) : ∃ ρ, b_u_law_kind true false false false false false false false a (startK N_u_law_kind.length a) = .rt (.val (.str "!matrix")) ρ := by
  simp [b_u_law_kind, startK, mCount, SeqAt.shaped, PyData.plainAll, PyData.plain, PyData.eqv, PyData.canLay0, PyData.canLayAll0, PyData.depth, PyData.depthAll, mIndex, List.findIdx?_cons, atI, ixN]
theorem res_u_law_kind_NotSide (a : Addr) : ∃ ρ, b_u_law_kind false false true false false false false false a (startK N_u_law_kind.length a) = .rt (.val (.str "!side")) ρ := by
  simp [b_u_law_kind, startK, mCount, SeqAt.shaped, PyData.plainAll, PyData.plain, PyData.eqv, PyData.canLay0, PyData.canLayAll0, PyData.depth, PyData.depthAll, mIndex, List.findIdx?_cons, atI, ixN]
theorem res_u_law_kind_NotVector (a : Addr) : ∃ ρ, b_u_law_kind false false false true false false false false a (startK N_u_law_kind.length a) = .rt (.val (.str "!vector")) ρ := by
  simp [b_u_law_kind, startK, mCount, SeqAt.shaped, PyData.plainAll, PyData.plain, PyData.eqv, PyData.canLay0, PyData.canLayAll0, PyData.depth, PyData.depthAll, mIndex, List.findIdx?_cons, atI, ixN]
theorem res_u_law_kind_NotCost (a : Addr) : ∃ ρ, b_u_law_kind false false false false true false false false a (startK N_u_law_kind.length a) = .rt (.val (.str "!cost")) ρ := by
  simp [b_u_law_kind, startK, mCount, SeqAt.shaped, PyData.plainAll, PyData.plain, PyData.eqv, PyData.canLay0, PyData.canLayAll0, PyData.depth, PyData.depthAll, mIndex, List.findIdx?_cons, atI, ixN]
theorem ok_u_law_kind (T : Txt K mg C_TallyError C_NotMatrix C_NotPointed C_NotSide C_NotVector C_NotCost C_BadNumber C_NoAnswer C_TooLarge) (D : Def K mg "_law_kind" s_u_law_kind) : KOk P w K mg base "_law_kind" 1 (.ref C_TallyError) h_u_law_kind := by
  refine kok_of (k := 0) D sc_u_law_kind bi_u_law_kind rfl (by decide) fun y d hy => ?_
  obtain ⟨x, z, hm, rfl, rfl⟩ := kindD_mem hy
  simp only [t_u_law_kind, List.mem_cons, Prod.mk.injEq, List.not_mem_nil, or_false] at hm
  rcases hm with ⟨rfl, rfl⟩ | ⟨rfl, rfl⟩ | ⟨rfl, rfl⟩ | ⟨rfl, rfl⟩
  · exact ⟨C_NotMatrix, T.g_NotMatrix, rfl, T.m_NotMatrix_TallyError, ⟨_, rfl⟩, b_u_law_kind true false false false false false false false, fun a => res_u_law_kind_NotMatrix a, body_u_law_kind T T.e_NotMatrix ⟨_, T.g_NotMatrix, T.k_NotMatrix_NotMatrix⟩ ⟨_, T.g_NotPointed, T.k_NotMatrix_NotPointed⟩ ⟨_, T.g_NotSide, T.k_NotMatrix_NotSide⟩ ⟨_, T.g_NotVector, T.k_NotMatrix_NotVector⟩ ⟨_, T.g_NotCost, T.k_NotMatrix_NotCost⟩ ⟨_, T.g_BadNumber, T.k_NotMatrix_BadNumber⟩ ⟨_, T.g_NoAnswer, T.k_NotMatrix_NoAnswer⟩ ⟨_, T.g_TooLarge, T.k_NotMatrix_TooLarge⟩⟩
  · exact ⟨C_NotSide, T.g_NotSide, rfl, T.m_NotSide_TallyError, ⟨_, rfl⟩, b_u_law_kind false false true false false false false false, fun a => res_u_law_kind_NotSide a, body_u_law_kind T T.e_NotSide ⟨_, T.g_NotMatrix, T.k_NotSide_NotMatrix⟩ ⟨_, T.g_NotPointed, T.k_NotSide_NotPointed⟩ ⟨_, T.g_NotSide, T.k_NotSide_NotSide⟩ ⟨_, T.g_NotVector, T.k_NotSide_NotVector⟩ ⟨_, T.g_NotCost, T.k_NotSide_NotCost⟩ ⟨_, T.g_BadNumber, T.k_NotSide_BadNumber⟩ ⟨_, T.g_NoAnswer, T.k_NotSide_NoAnswer⟩ ⟨_, T.g_TooLarge, T.k_NotSide_TooLarge⟩⟩
  · exact ⟨C_NotVector, T.g_NotVector, rfl, T.m_NotVector_TallyError, ⟨_, rfl⟩, b_u_law_kind false false false true false false false false, fun a => res_u_law_kind_NotVector a, body_u_law_kind T T.e_NotVector ⟨_, T.g_NotMatrix, T.k_NotVector_NotMatrix⟩ ⟨_, T.g_NotPointed, T.k_NotVector_NotPointed⟩ ⟨_, T.g_NotSide, T.k_NotVector_NotSide⟩ ⟨_, T.g_NotVector, T.k_NotVector_NotVector⟩ ⟨_, T.g_NotCost, T.k_NotVector_NotCost⟩ ⟨_, T.g_BadNumber, T.k_NotVector_BadNumber⟩ ⟨_, T.g_NoAnswer, T.k_NotVector_NoAnswer⟩ ⟨_, T.g_TooLarge, T.k_NotVector_TooLarge⟩⟩
  · exact ⟨C_NotCost, T.g_NotCost, rfl, T.m_NotCost_TallyError, ⟨_, rfl⟩, b_u_law_kind false false false false true false false false, fun a => res_u_law_kind_NotCost a, body_u_law_kind T T.e_NotCost ⟨_, T.g_NotMatrix, T.k_NotCost_NotMatrix⟩ ⟨_, T.g_NotPointed, T.k_NotCost_NotPointed⟩ ⟨_, T.g_NotSide, T.k_NotCost_NotSide⟩ ⟨_, T.g_NotVector, T.k_NotCost_NotVector⟩ ⟨_, T.g_NotCost, T.k_NotCost_NotCost⟩ ⟨_, T.g_BadNumber, T.k_NotCost_BadNumber⟩ ⟨_, T.g_NoAnswer, T.k_NotCost_NoAnswer⟩ ⟨_, T.g_TooLarge, T.k_NotCost_TooLarge⟩⟩
theorem sc_u_law_told : FnScope N_u_law_told ["which", "matrix", "one", "other"] (defScope s_u_law_told) := ⟨rfl, rfl, rfl, by decide +kernel, rfl, by decide +kernel, by decide +kernel⟩
theorem bi_u_law_told : BindOk "_law_told" s_u_law_told ["which", "matrix", "one", "other"] := fun _ _ _ _ _ _ us hl => match us, hl with | [_, _, _, _], _ => rfl
theorem ok_u_law_told (T : Txt K mg C_TallyError C_NotMatrix C_NotPointed C_NotSide C_NotVector C_NotCost C_BadNumber C_NoAnswer C_TooLarge) (D : Def K mg "_law_told" s_u_law_told) (C_check_side : FOk P w K mg base "check_side" 4 ["matrix", "side"] (spP K mg 2 f_check_side)) (C_check_vector : FOk P w K mg base "check_vector" 4 ["matrix", "vector"] (spP K mg 2 f_check_vector)) (C_check_cost : FOk P w K mg base "check_cost" 4 ["matrix", "cost"] (spP K mg 2 f_check_cost)) (C_check_matrix : FOk P w K mg base "check_matrix" 2 ["matrix"] (spP K mg 1 f_check_matrix)) (C_columns : FOk P w K mg base "columns" 3 ["matrix"] (spP K mg 1 f_columns)) (C_image : FOk P w K mg base "image" 5 ["matrix", "vector"] (spP K mg 2 f_image)) (C_is_solution : FOk P w K mg base "is_solution" 5 ["matrix", "side", "vector"] (spP K mg 3 f_is_solution)) (C_price : FOk P w K mg base "price" 5 ["matrix", "cost", "vector"] (spP K mg 3 f_price)) (K_u_law_kind : KOk P w K mg base "_law_kind" 1 (.ref C_TallyError) h_u_law_kind) : FOk P w K mg base "_law_told" 6 ["which", "matrix", "one", "other"] (spP K mg 4 f_u_law_told) := by
  refine fok_data (k := 5) D sc_u_law_told bi_u_law_told fun f cdv A outer s H E hr tk po => ?_
  have hu := room_u hr
  have nd : N_u_law_told.Nodup := by decide +kernel
  exact dss_one (ds_tryAs rfl rfl nd rfl rfl ⟨rfl, by decide, .inl T.g_TallyError⟩ tk (fun W' pn xe tk' po' => dss_cons (ds_if (dt_cmp (o_lt hu) (dv 0) (de_int)) (dss_one (ds_ret (de_sel (k := 4) (Sel.one C_check_side (by decide) (Sel.one C_check_vector (by decide) (Sel.one C_check_cost (by decide) ⟨[], .nil⟩))) (by decide) (hr.mono (by decide)) (fun _ => L2N.passAt tk' _) (dv 0) (da_cons (dv 1) (da_cons (dv 2) (da_nil))) (hlen := (aCons_len (aCons_len aNil_len)))))) (dss_nil)) (dss_cons (ds_if (dt_cmp (o_lt hu) (dv 0) (de_int)) (dss_one (ds_ret (de_sel (k := 3) (Sel.one C_check_matrix (by decide) (Sel.one C_columns (by decide) ⟨[], .nil⟩)) (by decide) (hr.mono (by decide)) (fun _ => L2N.passAt tk' _) (de_bin o_sub (dv 0) (de_int)) (da_cons (dv 1) (da_nil)) (hlen := (aCons_len aNil_len))))) (dss_nil)) (dss_one (ds_ret (de_if (dt_cmp (o_eq hu) (dv 0) (de_int)) (de_call C_image (hr.mono (by decide)) (fun _ => L2N.passAt tk' _) (da_cons (dv 1) (da_cons (dv 2) (da_nil))) (hlen := (aCons_len (aCons_len aNil_len)))) (de_sel (k := 5) (Sel.one C_is_solution (by decide) (Sel.one C_price (by decide) ⟨[], .nil⟩)) (by decide) (hr.mono (by decide)) (fun _ => L2N.passAt tk' _) (de_bin o_sub (dv 0) (de_int)) (da_cons (dv 1) (da_cons (dv 2) (da_cons (dv 3) (da_nil)))) (hlen := (aCons_len (aCons_len (aCons_len aNil_len)))))))))) (suite_kind K_u_law_kind hr (by decide) (fun _ _ => pv 4)))
theorem sc_u_law_before : FnScope N_u_law_before ["matrix", "cost", "one", "other"] (defScope s_u_law_before) := ⟨rfl, rfl, rfl, by decide +kernel, rfl, by decide +kernel, by decide +kernel⟩
theorem bi_u_law_before : BindOk "_law_before" s_u_law_before ["matrix", "cost", "one", "other"] := fun _ _ _ _ _ _ us hl => match us, hl with | [_, _, _, _], _ => rfl
theorem ok_u_law_before (T : Txt K mg C_TallyError C_NotMatrix C_NotPointed C_NotSide C_NotVector C_NotCost C_BadNumber C_NoAnswer C_TooLarge) (D : Def K mg "_law_before" s_u_law_before) (C_comes_before : FOk P w K mg base "comes_before" 5 ["matrix", "cost", "one", "other"] (spP K mg 4 f_comes_before)) (K_u_law_kind : KOk P w K mg base "_law_kind" 1 (.ref C_TallyError) h_u_law_kind) : FOk P w K mg base "_law_before" 6 ["matrix", "cost", "one", "other"] (spP K mg 4 f_u_law_before) := by
  refine fok_data (k := 5) D sc_u_law_before bi_u_law_before fun f cdv A outer s H E hr tk po => ?_
  have hu := room_u hr
  have nd : N_u_law_before.Nodup := by decide +kernel
  exact dss_one (ds_tryAs rfl rfl nd rfl rfl ⟨rfl, by decide, .inl T.g_TallyError⟩ tk (fun W' pn xe tk' po' => dss_one (ds_ret (de_call C_comes_before (hr.mono (by decide)) (fun _ => L2N.passAt tk' _) (da_cons (dv 0) (da_cons (dv 1) (da_cons (dv 2) (da_cons (dv 3) (da_nil))))) (hlen := (aCons_len (aCons_len (aCons_len (aCons_len aNil_len)))))))) (suite_kind K_u_law_kind hr (by decide) (fun _ _ => pv 4)))
theorem sc_law : FnScope N_law ["script"] (defScope s_law) := ⟨rfl, rfl, rfl, by decide +kernel, rfl, by decide +kernel, by decide +kernel⟩
theorem bi_law : BindOk "law" s_law ["script"] := fun _ _ _ _ _ _ us hl => match us, hl with | [_], _ => rfl
theorem ok_law (T : Txt K mg C_TallyError C_NotMatrix C_NotPointed C_NotSide C_NotVector C_NotCost C_BadNumber C_NoAnswer C_TooLarge) {f : Addr} {fd : FuncData} (F : Fun K "law" "law" s_law f fd) (C_u_law_draws : FOk P w K mg base "_law_draws" 2 ["script"] (spP K mg 1 f_u_law_draws)) (C_u_law_more : FOk P w K mg base "_law_more" 2 ["draws", "many"] (spI K 2 f_u_law_more)) (C_u_law_any : FOk P w K mg base "_law_any" 2 ["draws"] (spI K 1 f_u_law_any)) (C_is_matrix : FOk P w K mg base "is_matrix" 1 ["matrix"] (spP K mg 1 f_is_matrix)) (C_u_law_told : FOk P w K mg base "_law_told" 6 ["which", "matrix", "one", "other"] (spP K mg 4 f_u_law_told)) (C_u_law_columns : FOk P w K mg base "_law_columns" 1 ["matrix"] (spP K mg 1 f_u_law_columns)) (C_u_law_before : FOk P w K mg base "_law_before" 6 ["matrix", "cost", "one", "other"] (spP K mg 4 f_u_law_before)) (C_u_law_vector : FOk P w K mg base "_law_vector" 2 ["draws", "many", "low", "high"] (spI K 4 f_u_law_vector)) (C_u_law_next : FOk P w K mg base "_law_next" 1 ["draws"] (spI K 1 f_u_law_next)) (C_u_law_image : FOk P w K mg base "_law_image" 2 ["matrix", "vector"] (spP K mg 2 f_u_law_image)) (C_is_side : FOk P w K mg base "is_side" 3 ["matrix", "side"] (spP K mg 2 f_is_side)) (C_is_vector : FOk P w K mg base "is_vector" 3 ["matrix", "vector"] (spP K mg 2 f_is_vector)) (C_is_cost : FOk P w K mg base "is_cost" 3 ["matrix", "cost"] (spP K mg 2 f_is_cost)) (C_u_law_dot : FOk P w K mg base "_law_dot" 1 ["one", "other"] (spP K mg 2 f_u_law_dot)) (C_u_law_key : FOk P w K mg base "_law_key" 2 ["cost", "vector"] (spP K mg 2 f_u_law_key)) : LawRun P w K mg base f fd ["script"] (spP K mg 1 f_law) := by
  refine law_run (k := 6) F sc_law ⟨rfl, by decide, by decide⟩ fun cdv s H hr tk po => ?_
  have hu := room_u hr
  have hgd : (cxN P w K mg base N_law "law" s_law f cdv callerA [] s H (fun _ _ _ => False)).A.guards = some [] := rfl
  have nd : N_law.Nodup := by decide +kernel
  exact dss_cons (ds_setL (i := 1) (dl_call C_u_law_draws (hr.mono (by decide)) (fun _ => L2N.passAt tk _) (da_cons (dv 0) (da_nil)) (hlen := (aCons_len aNil_len))) nd) (dss_cons (ds_expr (de_m0 (pv 1) PySem.F.slot_list_reverse PySem.F.type_list_reverse m_reverse)) (dss_cons (ds_setL (i := 1) (dl_callI C_u_law_more (hr.mono (by decide)) (fun _ => L2N.passAt tk _) (da_cons (dv 1) (da_cons (de_int) (da_nil))) (hlen := (aCons_len (aCons_len aNil_len)))) nd) (dss_cons (ds_set (i := 2) (de_callI C_u_law_any (hr.mono (by decide)) (fun _ => L2N.passAt tk _) (da_cons (dv 1) (da_nil)) (hlen := (aCons_len aNil_len))) nd) (dss_cons (ds_par (i := 3) (j := 4) rfl nd (da_cons (de_cb c_len T.b_len bt_len (da_cons (dv 2) (da_nil))) (da_cons (de_cb c_len T.b_len bt_len (da_cons (de_ix i_ix (dv 2) (de_int)) (da_nil))) (da_nil)))) (dss_cons (ds_if (dt_w (dw_or (dt_cmp o_isnot (de_call C_is_matrix (hr.mono (by decide)) (fun _ => L2N.passAt tk _) (da_cons (dv 2) (da_nil)) (hlen := (aCons_len aNil_len))) (de_bl)) (dw_or1 (dt_cmp (o_ne hu) (de_cb (c_repr hgd hu) T.b_repr bt_repr (da_cons (de_of (dl_lst (da_cons (de_call C_u_law_told (hr.mono (by decide)) (fun _ => L2N.passAt tk _) (da_cons (de_int) (da_cons (dv 2) (da_cons (de_tup (da_nil)) (da_cons (de_tup (da_nil)) (da_nil))))) (hlen := (aCons_len (aCons_len (aCons_len (aCons_len aNil_len)))))) (da_cons (de_call C_u_law_told (hr.mono (by decide)) (fun _ => L2N.passAt tk _) (da_cons (de_int) (da_cons (dv 2) (da_cons (de_tup (da_nil)) (da_cons (de_tup (da_nil)) (da_nil))))) (hlen := (aCons_len (aCons_len (aCons_len (aCons_len aNil_len)))))) (da_nil))))) (da_nil))) (de_cb (c_repr hgd hu) T.b_repr bt_repr (da_cons (de_of (dl_lst (da_cons (de_non) (da_cons (de_call C_u_law_columns (hr.mono (by decide)) (fun _ => L2N.passAt tk _) (da_cons (dv 2) (da_nil)) (hlen := (aCons_len aNil_len))) (da_nil))))) (da_nil))))))) (dss_one (ds_ret (de_bl))) (dss_nil)) (dss_cons (ds_set (i := 5) (de_ix i_ix (dv 2) (de_int)) nd) (dss_cons (ds_set (i := 6) (de_of (dl_lst (da_cons (de_tup (da_nil)) (da_cons (de_bin o_add (dv 2) (de_bin o_mulT (de_tup (da_cons (dv 5) (da_nil))) (de_int))) (da_cons (de_bin o_add (de_bin o_mulT (de_tup (da_cons (de_cut (dv 5) (dp_some (de_int)) (dp_no)) (da_nil))) (de_int)) (de_tup (da_cons (dv 5) (da_nil)))) (da_cons (de_bin o_add (de_tup (da_cons (de_bin o_add (de_tup (da_cons (de_int) (da_nil))) (de_cut (dv 5) (dp_some (de_int)) (dp_no))) (da_nil))) (de_cut (dv 2) (dp_some (de_int)) (dp_no))) (da_cons (de_tup (da_cons (de_bin o_add (de_tup (da_cons (de_un o_neg (de_int)) (da_nil))) (de_cut (dv 5) (dp_some (de_int)) (dp_no))) (da_nil))) (da_cons (de_tup (da_cons (de_bin o_mulT (de_tup (da_cons (de_int) (da_nil))) (de_int)) (da_nil))) (da_cons (de_tup (da_cons (de_tup (da_nil)) (da_nil))) (da_cons (de_tup (da_cons (de_bin o_add (dv 5) (de_bin o_mulT (de_tup (da_cons (de_int) (da_nil))) (de_int))) (da_nil))) (da_nil))))))))))) nd) (dss_cons (ds_for po rfl (di_seq (dv 6)) (dg_name nd) (dss_one (ds_if (dt_w (dw_or (dt_cmp o_isnot (de_call C_is_matrix (hr.mono (by decide)) (fun _ => L2N.passAt tk _) (da_cons (dv 7) (da_nil)) (hlen := (aCons_len aNil_len))) (de_bl)) (dw_or (dt_cmp (o_ne hu) (de_of (dl_comp (own := [("which", 15)]) rfl nd (di_range1 T.b_range (da_cons (de_int) (da_nil))) (blkOk_by (by first | decide +kernel | exact rfl)) (fun _ _ _ _ _ => dg_name nd) (fun _ _ _ _ _ => dts_nil) (fun _ _ _ _ _ => de_call C_u_law_told (hr.mono (by decide)) (passN) (da_cons (dv 15) (da_cons (dv 7) (da_cons (de_tup (da_nil)) (da_cons (de_tup (da_nil)) (da_nil))))) (hlen := (aCons_len (aCons_len (aCons_len (aCons_len aNil_len)))))))) (de_of (dl_repL (dl_lst (da_cons (de_str) (da_nil))) (de_int)))) (dw_or1 (dt_cmp (o_ne hu) (de_call C_u_law_before (hr.mono (by decide)) (fun _ => L2N.passAt tk _) (da_cons (dv 7) (da_cons (de_tup (da_nil)) (da_cons (de_tup (da_nil)) (da_cons (de_tup (da_nil)) (da_nil))))) (hlen := (aCons_len (aCons_len (aCons_len (aCons_len aNil_len)))))) (de_str)))))) (dss_one (ds_ret (de_bl))) (dss_nil)))) (dss_cons (ds_set (i := 8) (de_callI C_u_law_vector (hr.mono (by decide)) (fun _ => L2N.passAt tk _) (da_cons (dv 1) (da_cons (dv 3) (da_cons (de_un o_neg (de_int)) (da_cons (de_int) (da_nil))))) (hlen := (aCons_len (aCons_len (aCons_len (aCons_len aNil_len)))))) nd) (dss_cons (ds_set (i := 9) (de_callI C_u_law_vector (hr.mono (by decide)) (fun _ => L2N.passAt tk _) (da_cons (dv 1) (da_cons (dv 4) (da_cons (de_un o_neg (de_int)) (da_cons (de_int) (da_nil))))) (hlen := (aCons_len (aCons_len (aCons_len (aCons_len aNil_len)))))) nd) (dss_cons (ds_asg (de_tup (da_cons (de_callI C_u_law_vector (hr.mono (by decide)) (fun _ => L2N.passAt tk _) (da_cons (dv 1) (da_cons (dv 4) (da_cons (de_un o_neg (de_int)) (da_cons (de_int) (da_nil))))) (hlen := (aCons_len (aCons_len (aCons_len (aCons_len aNil_len)))))) (da_cons (de_callI C_u_law_vector (hr.mono (by decide)) (fun _ => L2N.passAt tk _) (da_cons (dv 1) (da_cons (dv 4) (da_cons (de_un o_neg (de_int)) (da_cons (de_int) (da_nil))))) (hlen := (aCons_len (aCons_len (aCons_len (aCons_len aNil_len)))))) (da_nil)))) (dg_tup rfl (dgs_cons (dg_name nd) (dgs_cons (dg_name nd) (dgs_nil))) (hlen := bLen2))) (dss_cons (ds_if (dt_cmp (o_eq hu) (de_bin o_mod (de_ct c_int T.b_int bt_int (da_cons (de_callI C_u_law_next (hr.mono (by decide)) (fun _ => L2N.passAt tk _) (da_cons (dv 1) (da_nil)) (hlen := (aCons_len aNil_len))) (da_nil))) (de_int)) (de_int)) (dss_one (ds_set (i := 8) (de_call C_u_law_image (hr.mono (by decide)) (fun _ => L2N.passAt tk _) (da_cons (dv 2) (da_cons (dv 7) (da_nil))) (hlen := (aCons_len (aCons_len aNil_len)))) nd)) (dss_nil)) (dss_cons (ds_if (dt_cmp (o_ne hu) (de_cb (c_repr hgd hu) T.b_repr bt_repr (da_cons (de_of (dl_lst (da_cons (de_call C_is_side (hr.mono (by decide)) (fun _ => L2N.passAt tk _) (da_cons (dv 2) (da_cons (dv 8) (da_nil))) (hlen := (aCons_len (aCons_len aNil_len)))) (da_cons (de_call C_is_vector (hr.mono (by decide)) (fun _ => L2N.passAt tk _) (da_cons (dv 2) (da_cons (dv 7) (da_nil))) (hlen := (aCons_len (aCons_len aNil_len)))) (da_cons (de_call C_is_cost (hr.mono (by decide)) (fun _ => L2N.passAt tk _) (da_cons (dv 2) (da_cons (dv 9) (da_nil))) (hlen := (aCons_len (aCons_len aNil_len)))) (da_nil)))))) (da_nil))) (de_cb (c_repr hgd hu) T.b_repr bt_repr (da_cons (de_of (dl_repL (dl_lst (da_cons (de_bl) (da_nil))) (de_int))) (da_nil)))) (dss_one (ds_ret (de_bl))) (dss_nil)) (dss_cons (ds_set (i := 11) (de_of (dl_lst (da_cons (de_bin o_mulT (de_tup (da_cons (de_int) (da_nil))) (dv 3)) (da_cons (de_bin o_mulT (de_tup (da_cons (de_un o_neg (de_int)) (da_nil))) (dv 3)) (da_cons (de_bin o_add (de_tup (da_cons (de_int) (da_nil))) (de_cut (dv 8) (dp_some (de_int)) (dp_no))) (da_cons (de_bin o_add (dv 8) (de_tup (da_cons (de_int) (da_nil)))) (da_cons (de_cut (dv 8) (dp_some (de_int)) (dp_no)) (da_cons (de_bin o_add (de_tup (da_cons (de_un o_neg (de_int)) (da_nil))) (de_cut (dv 8) (dp_some (de_int)) (dp_no))) (da_nil))))))))) nd) (dss_cons (ds_if (dt_cmp (o_ne hu) (de_of (dl_comp (own := [("some", 16)]) rfl nd (di_seq (dv 11)) (blkOk_by (by first | decide +kernel | exact rfl)) (fun _ _ _ _ _ => dg_name nd) (fun _ _ _ _ _ => dts_nil) (fun _ _ _ _ _ => de_call C_is_side (hr.mono (by decide)) (passN) (da_cons (dv 2) (da_cons (dv 16) (da_nil))) (hlen := (aCons_len (aCons_len aNil_len)))))) (de_of (dl_lst (da_cons (de_bl) (da_cons (de_bl) (da_cons (de_bl) (da_cons (de_bl) (da_cons (de_bl) (da_cons (de_bl) (da_nil)))))))))) (dss_one (ds_ret (de_bl))) (dss_nil)) (dss_cons (ds_if (dt_cmp (o_ne hu) (de_of (dl_comp (own := [("some", 16)]) rfl nd (di_seq (de_of (dl_lst (da_cons (de_bin o_mulT (de_tup (da_cons (de_int) (da_nil))) (dv 4)) (da_cons (de_bin o_add (de_tup (da_cons (de_int) (da_nil))) (de_cut (dv 9) (dp_some (de_int)) (dp_no))) (da_cons (de_bin o_add (de_tup (da_cons (de_un o_neg (de_int)) (da_nil))) (de_cut (dv 9) (dp_some (de_int)) (dp_no))) (da_cons (de_bin o_add (dv 9) (de_tup (da_cons (de_int) (da_nil)))) (da_nil)))))))) (blkOk_by (by first | decide +kernel | exact rfl)) (fun _ _ _ _ _ => dg_name nd) (fun _ _ _ _ _ => dts_nil) (fun _ _ _ _ _ => de_call C_is_cost (hr.mono (by decide)) (passN) (da_cons (dv 2) (da_cons (dv 16) (da_nil))) (hlen := (aCons_len (aCons_len aNil_len)))))) (de_of (dl_lst (da_cons (de_bl) (da_cons (de_bl) (da_cons (de_bl) (da_cons (de_bl) (da_nil)))))))) (dss_one (ds_ret (de_bl))) (dss_nil)) (dss_cons (ds_if (dt_cmp (o_ne hu) (de_of (dl_comp (own := [("some", 16)]) rfl nd (di_seq (de_of (dl_lst (da_cons (de_bin o_mulT (de_tup (da_cons (de_bin o_pow (de_int) (de_int)) (da_nil))) (dv 4)) (da_cons (de_bin o_add (dv 7) (de_tup (da_cons (de_int) (da_nil)))) (da_cons (de_cut (dv 7) (dp_some (de_int)) (dp_no)) (da_nil))))))) (blkOk_by (by first | decide +kernel | exact rfl)) (fun _ _ _ _ _ => dg_name nd) (fun _ _ _ _ _ => dts_nil) (fun _ _ _ _ _ => de_call C_is_vector (hr.mono (by decide)) (passN) (da_cons (dv 2) (da_cons (dv 16) (da_nil))) (hlen := (aCons_len (aCons_len aNil_len)))))) (de_of (dl_lst (da_cons (de_bl) (da_cons (de_bl) (da_cons (de_bl) (da_nil))))))) (dss_one (ds_ret (de_bl))) (dss_nil)) (dss_cons (ds_if (dt_w (dw_or (dt_cmp (o_ne hu) (de_cb (c_repr hgd hu) T.b_repr bt_repr (da_cons (de_call C_u_law_told (hr.mono (by decide)) (fun _ => L2N.passAt tk _) (da_cons (de_int) (da_cons (dv 2) (da_cons (dv 7) (da_cons (de_tup (da_nil)) (da_nil))))) (hlen := (aCons_len (aCons_len (aCons_len (aCons_len aNil_len)))))) (da_nil))) (de_cb (c_repr hgd hu) T.b_repr bt_repr (da_cons (de_call C_u_law_image (hr.mono (by decide)) (fun _ => L2N.passAt tk _) (da_cons (dv 2) (da_cons (dv 7) (da_nil))) (hlen := (aCons_len (aCons_len aNil_len)))) (da_nil)))) (dw_or1 (dt_cmp (o_ne hu) (de_cb (c_repr hgd hu) T.b_repr bt_repr (da_cons (de_call C_u_law_told (hr.mono (by decide)) (fun _ => L2N.passAt tk _) (da_cons (de_int) (da_cons (dv 2) (da_cons (dv 9) (da_cons (dv 7) (da_nil))))) (hlen := (aCons_len (aCons_len (aCons_len (aCons_len aNil_len)))))) (da_nil))) (de_cb (c_repr hgd hu) T.b_repr bt_repr (da_cons (de_call C_u_law_dot (hr.mono (by decide)) (fun _ => L2N.passAt tk _) (da_cons (dv 9) (da_cons (dv 7) (da_nil))) (hlen := (aCons_len (aCons_len aNil_len)))) (da_nil))))))) (dss_one (ds_ret (de_bl))) (dss_nil)) (dss_cons (ds_if (dt_cmp (o_ne hu) (de_cb (c_repr hgd hu) T.b_repr bt_repr (da_cons (de_call C_u_law_told (hr.mono (by decide)) (fun _ => L2N.passAt tk _) (da_cons (de_int) (da_cons (dv 2) (da_cons (dv 8) (da_cons (dv 7) (da_nil))))) (hlen := (aCons_len (aCons_len (aCons_len (aCons_len aNil_len)))))) (da_nil))) (de_cb (c_repr hgd hu) T.b_repr bt_repr (da_cons (de_and (de_cmp (o_ge hu) (de_cb (c_min rfl hu) T.b_min bt_min (da_cons (dv 7) (da_nil))) (de_int)) (de_one (de_cmp (o_eq hu) (de_call C_u_law_image (hr.mono (by decide)) (fun _ => L2N.passAt tk _) (da_cons (dv 2) (da_cons (dv 7) (da_nil))) (hlen := (aCons_len (aCons_len aNil_len)))) (dv 8)))) (da_nil)))) (dss_one (ds_ret (de_bl))) (dss_nil)) (dss_cons (ds_for po rfl (di_seq (de_of (dl_lst (da_cons (de_tup (da_cons (dv 7) (da_cons (dv 10) (da_nil)))) (da_cons (de_tup (da_cons (dv 10) (da_cons (dv 7) (da_nil)))) (da_cons (de_tup (da_cons (dv 7) (da_cons (dv 7) (da_nil)))) (da_nil))))))) (dg_tup rfl (dgs_cons (dg_name nd) (dgs_cons (dg_name nd) (dgs_nil))) (hlen := bLen2)) (dss_one (ds_if (dt_cmp (o_ne hu) (de_cb (c_repr hgd hu) T.b_repr bt_repr (da_cons (de_call C_u_law_before (hr.mono (by decide)) (fun _ => L2N.passAt tk _) (da_cons (dv 2) (da_cons (dv 9) (da_cons (dv 12) (da_cons (dv 13) (da_nil))))) (hlen := (aCons_len (aCons_len (aCons_len (aCons_len aNil_len)))))) (da_nil))) (de_cb (c_repr hgd hu) T.b_repr bt_repr (da_cons (de_cmp (o_lt hu) (de_call C_u_law_key (hr.mono (by decide)) (fun _ => L2N.passAt tk _) (da_cons (dv 9) (da_cons (dv 12) (da_nil))) (hlen := (aCons_len (aCons_len aNil_len)))) (de_call C_u_law_key (hr.mono (by decide)) (fun _ => L2N.passAt tk _) (da_cons (dv 9) (da_cons (dv 13) (da_nil))) (hlen := (aCons_len (aCons_len aNil_len))))) (da_nil)))) (dss_one (ds_ret (de_bl))) (dss_nil)))) (dss_cons (ds_set (i := 14) (de_of (dl_lst (da_cons (de_call C_u_law_told (hr.mono (by decide)) (fun _ => L2N.passAt tk _) (da_cons (de_int) (da_cons (dv 2) (da_cons (de_bin o_add (dv 8) (de_tup (da_cons (de_int) (da_nil)))) (da_cons (de_tup (da_nil)) (da_nil))))) (hlen := (aCons_len (aCons_len (aCons_len (aCons_len aNil_len)))))) (da_cons (de_call C_u_law_told (hr.mono (by decide)) (fun _ => L2N.passAt tk _) (da_cons (de_int) (da_cons (dv 2) (da_cons (de_bin o_add (dv 7) (de_tup (da_cons (de_int) (da_nil)))) (da_cons (de_tup (da_nil)) (da_nil))))) (hlen := (aCons_len (aCons_len (aCons_len (aCons_len aNil_len)))))) (da_cons (de_call C_u_law_told (hr.mono (by decide)) (fun _ => L2N.passAt tk _) (da_cons (de_int) (da_cons (dv 2) (da_cons (de_bin o_add (dv 9) (de_tup (da_cons (de_int) (da_nil)))) (da_cons (de_tup (da_nil)) (da_nil))))) (hlen := (aCons_len (aCons_len (aCons_len (aCons_len aNil_len)))))) (da_cons (de_call C_u_law_told (hr.mono (by decide)) (fun _ => L2N.passAt tk _) (da_cons (de_int) (da_cons (dv 2) (da_cons (de_tup (da_nil)) (da_cons (de_tup (da_nil)) (da_nil))))) (hlen := (aCons_len (aCons_len (aCons_len (aCons_len aNil_len)))))) (da_nil))))))) nd) (dss_cons (ds_set (i := 14) (de_of (dl_bin o_addL (dv 14) (de_of (dl_lst (da_cons (de_call C_u_law_told (hr.mono (by decide)) (fun _ => L2N.passAt tk _) (da_cons (de_int) (da_cons (dv 2) (da_cons (de_tup (da_nil)) (da_cons (de_tup (da_nil)) (da_nil))))) (hlen := (aCons_len (aCons_len (aCons_len (aCons_len aNil_len)))))) (da_cons (de_call C_u_law_told (hr.mono (by decide)) (fun _ => L2N.passAt tk _) (da_cons (de_int) (da_cons (dv 2) (da_cons (dv 8) (da_cons (de_tup (da_nil)) (da_nil))))) (hlen := (aCons_len (aCons_len (aCons_len (aCons_len aNil_len)))))) (da_cons (de_call C_u_law_told (hr.mono (by decide)) (fun _ => L2N.passAt tk _) (da_cons (de_int) (da_cons (dv 2) (da_cons (de_tup (da_nil)) (da_cons (de_tup (da_nil)) (da_nil))))) (hlen := (aCons_len (aCons_len (aCons_len (aCons_len aNil_len)))))) (da_cons (de_call C_u_law_told (hr.mono (by decide)) (fun _ => L2N.passAt tk _) (da_cons (de_int) (da_cons (dv 2) (da_cons (dv 9) (da_cons (de_tup (da_nil)) (da_nil))))) (hlen := (aCons_len (aCons_len (aCons_len (aCons_len aNil_len)))))) (da_nil))))))))) nd) (dss_cons (ds_set (i := 14) (de_of (dl_bin o_addL (dv 14) (de_of (dl_lst (da_cons (de_call C_u_law_before (hr.mono (by decide)) (fun _ => L2N.passAt tk _) (da_cons (dv 2) (da_cons (de_tup (da_nil)) (da_cons (de_tup (da_nil)) (da_cons (de_tup (da_nil)) (da_nil))))) (hlen := (aCons_len (aCons_len (aCons_len (aCons_len aNil_len)))))) (da_cons (de_call C_u_law_before (hr.mono (by decide)) (fun _ => L2N.passAt tk _) (da_cons (dv 2) (da_cons (dv 9) (da_cons (de_tup (da_nil)) (da_cons (de_tup (da_nil)) (da_nil))))) (hlen := (aCons_len (aCons_len (aCons_len (aCons_len aNil_len)))))) (da_cons (de_call C_u_law_before (hr.mono (by decide)) (fun _ => L2N.passAt tk _) (da_cons (dv 2) (da_cons (dv 9) (da_cons (dv 7) (da_cons (de_tup (da_nil)) (da_nil))))) (hlen := (aCons_len (aCons_len (aCons_len (aCons_len aNil_len)))))) (da_nil)))))))) nd) (dss_one (ds_ret (de_cmp (o_eq hu) (dv 14) (de_of (dl_lst (da_cons (de_str) (da_cons (de_str) (da_cons (de_str) (da_cons (de_str) (da_cons (de_str) (da_cons (de_str) (da_cons (de_str) (da_cons (de_str) (da_cons (de_str) (da_cons (de_str) (da_cons (de_str) (da_nil))))))))))))))))))))))))))))))))))))))))
end K00

namespace K00
open L2 PySem PySem.Spec PyProof.Rows DL

def inR (n : Int) : Bool := decide (-9 ≤ n) && decide (n ≤ 9)
theorem mat_in (m : D) (r : List Int) (hl : r.length ≤ 1000) :
    xComp (iSeq (xVar 1)) [2] (bName 2) tTrue (xOfT (xChain kLe kLe (x1 kNeg (xC (.int 9))) (xVar 2) (xC (.int 9)))) [some (.val m), some (.val (vec r)), none] = .ok (.lst (r.map fun n => .bool (inR n))) [some (.val m), some (.val (vec r)), none] := by
  refine xComp_of_map (e := PyData.int) (by simp) (by simp) (by omega) fun n _ => ?_
  by_cases h : -9 ≤ n <;> simp [h, inR]
def rowOk (m : Nat) (r : List Int) : Bool := decide ((r.length : Int) = (m : Int)) && r.all inR
theorem mat_out (r0 : List Int) (M : List (List Int)) (hl : M.length ≤ 1000) (hr : ∀ r ∈ M, r.length ≤ 1000) (h0 : M[0]? = some r0) :
    xComp (iSeq (xVar 0)) [1] (bName 1) tTrue (xAnd (x2 (kB kEq) (xCB kLen (aCons (xVar 1) aNil)) (xCB kLen (aCons (x2 kIx (xVar 0) (xC (.int 0))) aNil)))
      (xCB kAll (aCons (ofL (xComp (iSeq (xVar 1)) [2] (bName 2) tTrue (xOfT (xChain kLe kLe (x1 kNeg (xC (.int 9))) (xVar 2) (xC (.int 9)))))) aNil))) [some (.val (mtx M)), none, none] = .ok (.lst (M.map fun r => .bool (rowOk r0.length r))) [some (.val (mtx M)), none, none] := by
  have a0 : atI (M.map vec) 0 = some (vec r0) := atI_nat (n := 0) (by simp [h0])
  refine xComp_of_map (e := vec) (by simp) (by simp) (by omega) fun r hm => ?_
  have hi := mat_in (mtx M) r (hr r hm)
  by_cases h : (r.length : Int) = (r0.length : Int) <;> simp [a0, h, hi, rowOk]
def isMat (M : List (List Int)) : Bool := match M with
  | [] => false
  | r0 :: _ => decide (M.length ≤ 3) && decide (1 ≤ r0.length) && decide (r0.length ≤ 6) && M.all (rowOk r0.length)
theorem is_matrix_eq (M : List (List Int)) (hl : M.length ≤ 1000) (hr : ∀ r ∈ M, r.length ≤ 1000) : f_is_matrix [mtx M] = .ok (.val (.bool (isMat M))) := by
  unfold f_is_matrix
  rw [runF_out]
  cases M with
  | nil => simp [b_is_matrix, startD, isMat]
  | cons r0 M =>
    have ho := mat_out r0 (r0 :: M) hl hr rfl
    have h3 : (1 : Int) ≤ (M.length : Int) + 1 := by omega
    by_cases h1 : M.length + 1 ≤ 3
    · have h1' : (M.length : Int) + 1 ≤ 3 := by omega
      by_cases h2 : 1 ≤ r0.length
      · have h2' : (1 : Int) ≤ (r0.length : Int) := by omega
        by_cases h4 : r0.length ≤ 6
        · have h4' : (r0.length : Int) ≤ 6 := by omega
          have hk : kAll [.list (PyData.bool (rowOk r0.length r0) :: M.map fun r => PyData.bool (rowOk r0.length r))] = some (.bool (rowOk r0.length r0 && M.all (rowOk r0.length))) := by
            have := kAll_bools (f := rowOk r0.length) (xs := r0 :: M)
            rwa [List.map_cons, List.all_cons] at this
          simp [b_is_matrix, startD, isMat, h1, h2, h3, h4, h1', h2', h4', ho, hk]
        · have h4' : ¬ (r0.length : Int) ≤ 6 := by omega
          simp [b_is_matrix, startD, isMat, h1, h2, h3, h4, h1', h2', h4']
      · have h2' : ¬ (1 : Int) ≤ (r0.length : Int) := by omega
        simp [b_is_matrix, startD, isMat, h1, h2, h3, h1', h2']
    · have h1' : ¬ (M.length : Int) + 1 ≤ 3 := by omega
      simp [b_is_matrix, startD, isMat, h1, h3, h1']
abbrev nm : Exn := ⟨"NotMatrix", none⟩
structure Sm (M : List (List Int)) : Prop where
  len : M.length ≤ 1000
  row : ∀ r ∈ M, r.length ≤ 1000
theorem check_matrix_eq {M : List (List Int)} (h : Sm M) : f_check_matrix [mtx M] = if isMat M = true then .ok (.val .none) else .err nm := by
  unfold f_check_matrix
  rw [runF_out]
  cases q : isMat M <;> simp [b_check_matrix, startD, is_matrix_eq M h.len h.row, q]
def ent (k : Int) (n : Int) : Bool := decide (-k ≤ n) && decide (n ≤ k)
theorem ent_comp (v : List Int) (hv : v.length ≤ 1000) (many k : Int) :
    xComp (iSeq (xVar 0)) [3] (bName 3) tTrue (xOfT (xChain kLe kLe (x1 kNeg (xVar 2)) (xVar 3) (xVar 2))) [some (.val (vec v)), some (.val (.int many)), some (.val (.int k)), none] = .ok (.lst (v.map fun n => .bool (ent k n))) [some (.val (vec v)), some (.val (.int many)), some (.val (.int k)), none] := by
  refine xComp_of_map (e := PyData.int) (by simp) (by simp) (by omega) fun n _ => ?_
  by_cases h : -k ≤ n <;> simp [h, ent]
theorem has_entries_eq (v : List Int) (hv : v.length ≤ 1000) (many k : Int) : f_has_entries [vec v, .int many, .int k] = .ok (.val (.bool (decide ((v.length : Int) = many) && v.all (ent k)))) := by
  unfold f_has_entries
  rw [runF_out]
  have hc := ent_comp v hv many k
  by_cases h : (v.length : Int) = many <;> simp [b_has_entries, startD, h, hc]
theorem has_entries_none (v : List Int) (many : Int) : f_has_entries [vec v, .int many, .none] = .ok (.val (.bool (decide ((v.length : Int) = many)))) := by
  unfold f_has_entries
  rw [runF_out]
  by_cases h : (v.length : Int) = many <;> simp [b_has_entries, startD, h]
def sideOk (M : List (List Int)) (v : List Int) : Bool := decide ((v.length : Int) = (M.length : Int)) && v.all (ent 1000000)
def wid (M : List (List Int)) : Nat := (M.headD []).length
def vecOk (M : List (List Int)) (v : List Int) : Bool := decide ((v.length : Int) = (wid M : Int))
def costOk (M : List (List Int)) (v : List Int) : Bool := decide ((v.length : Int) = (wid M : Int)) && v.all (ent 50)
theorem at0 {M : List (List Int)} (h : isMat M = true) : atI (M.map vec) 0 = some (vec (M.headD [])) := by
  cases M with
  | nil => simp [isMat] at h
  | cons r0 M => simp
theorem is_side_eq {M : List (List Int)} (h : Sm M) {v : List Int} (hv : v.length ≤ 1000) : f_is_side [mtx M, vec v] = if isMat M = true then .ok (.val (.bool (sideOk M v))) else .err nm := by
  unfold f_is_side
  rw [runF_out]
  cases q : isMat M <;> simp [b_is_side, startD, check_matrix_eq h, q, has_entries_eq v hv, sideOk]
theorem is_vector_eq {M : List (List Int)} (h : Sm M) {v : List Int} : f_is_vector [mtx M, vec v] = if isMat M = true then .ok (.val (.bool (vecOk M v))) else .err nm := by
  unfold f_is_vector
  rw [runF_out]
  cases q : isMat M
  · simp [b_is_vector, startD, check_matrix_eq h, q]
  · simp [b_is_vector, startD, check_matrix_eq h, q, has_entries_none, vecOk, at0 q, wid]
theorem is_cost_eq {M : List (List Int)} (h : Sm M) {v : List Int} (hv : v.length ≤ 1000) : f_is_cost [mtx M, vec v] = if isMat M = true then .ok (.val (.bool (costOk M v))) else .err nm := by
  unfold f_is_cost
  rw [runF_out]
  cases q : isMat M
  · simp [b_is_cost, startD, check_matrix_eq h, q]
  · simp [b_is_cost, startD, check_matrix_eq h, q, has_entries_eq v hv, costOk, at0 q, wid]
theorem check_side_eq {M : List (List Int)} (h : Sm M) {v : List Int} (hv : v.length ≤ 1000) : f_check_side [mtx M, vec v] = if isMat M = true then (if sideOk M v = true then .ok (.val .none) else .err ⟨"NotSide", none⟩) else .err nm := by
  unfold f_check_side
  rw [runF_out]
  cases q : isMat M <;> cases q2 : sideOk M v <;> simp [b_check_side, startD, is_side_eq h hv, q, q2]
theorem check_vector_eq {M : List (List Int)} (h : Sm M) {v : List Int} : f_check_vector [mtx M, vec v] = if isMat M = true then (if vecOk M v = true then .ok (.val .none) else .err ⟨"NotVector", none⟩) else .err nm := by
  unfold f_check_vector
  rw [runF_out]
  cases q : isMat M <;> cases q2 : vecOk M v <;> simp [b_check_vector, startD, is_vector_eq h, q, q2]
theorem check_cost_eq {M : List (List Int)} (h : Sm M) {v : List Int} (hv : v.length ≤ 1000) : f_check_cost [mtx M, vec v] = if isMat M = true then (if costOk M v = true then .ok (.val .none) else .err ⟨"NotCost", none⟩) else .err nm := by
  unfold f_check_cost
  rw [runF_out]
  cases q : isMat M <;> cases q2 : costOk M v <;> simp [b_check_cost, startD, is_cost_eq h hv, q, q2]
/-! ### products -/
def Bd (v : List Int) : Prop := v.length ≤ 1000 ∧ ∀ n ∈ v, n.natAbs < 2 ^ 64
def dotI (a b : List Int) : Int := (List.zipWith (fun x y => x * y) a b).sum
theorem mulOk_of {a b : Int} (ha : a.natAbs < 2 ^ 64) (hb : b.natAbs < 2 ^ 64) : mulOk a b = true := by
  have l : ∀ n : Nat, n < 2 ^ 64 → n.log2 < 65 := fun n h => by
    by_cases z : n = 0
    · subst z; decide
    · have := (Nat.log2_lt z).mpr h; omega
  have h1 := l _ ha
  have h2 := l _ hb
  unfold mulOk
  exact decide_eq_true (by omega)
theorem zipD_ints : ∀ (a b : List Int), zipD (a.map PyData.int) (b.map PyData.int) = (List.zip a b).map fun p => PyData.tuple [.int p.1, .int p.2]
  | [], _ => by simp [zipD]
  | _ :: _, [] => by simp [zipD]
  | x :: a, y :: b => by simp [zipD, zipD_ints a b]
theorem dot_eq {a b : List Int} (ha : Bd a) (hb : Bd b) : f_dot [vec a, vec b] = .ok (.val (.int (dotI a b))) := by
  unfold f_dot
  rw [runF_out]
  have hc : xComp (DL.iZip (aCons (xVar 0) (aCons (xVar 1) aNil))) [2, 3] (bTup (bCons (bName 2) (bCons (bName 3) bNil))) tTrue (x2 kMul (xVar 2) (xVar 3)) [some (.val (vec a)), some (.val (vec b)), none, none] =
      .ok (.lst ((List.zip a b).map fun p => PyData.int (p.1 * p.2))) [some (.val (vec a)), some (.val (vec b)), none, none] := by
    refine xComp_of_map (e := fun p => PyData.tuple [.int p.1, .int p.2]) ?_ (by simp) ?_ fun p hp => ?_
    · simp [DL.iZip, zipD_ints]
    · rw [List.length_zip]; have := ha.1; omega
    · have hm := mulOk_of (ha.2 _ (List.of_mem_zip hp).1) (hb.2 _ (List.of_mem_zip hp).2)
      simp [bCons, hm]
  have e : ((List.zip a b).map fun p => p.1 * p.2) = List.zipWith (fun x y => x * y) a b := by
    rw [List.zip, List.map_zipWith]
  simp [b_dot, startD, hc, kSum_ints, e, dotI]
def imgI (M : List (List Int)) (v : List Int) : List Int := M.map fun r => dotI r v
structure Bm (M : List (List Int)) : Prop where
  sm : Sm M
  bd : ∀ r ∈ M, Bd r
theorem image_of_eq {M : List (List Int)} (h : Bm M) {v : List Int} (hv : Bd v) : f_image_of [mtx M, vec v] = .ok (.val (vec (imgI M v))) := by
  unfold f_image_of
  rw [runF_out]
  have hc : xComp (iSeq (xVar 0)) [2] (bName 2) tTrue (xCall f_dot (aCons (xVar 2) (aCons (xVar 1) aNil))) [some (.val (mtx M)), some (.val (vec v)), none] = .ok (.lst (M.map fun r => PyData.int (dotI r v))) [some (.val (mtx M)), some (.val (vec v)), none] := by
    refine xComp_of_map (e := vec) (by simp) (by simp) (by have := h.sm.len; omega) fun r hr => ?_
    simp [dot_eq (h.bd r hr) hv]
  simp [b_image_of, startD, hc, imgI]
def colI (M : List (List Int)) : List (List Int) := (List.range (wid M)).map fun k => M.map fun r => r.getD k 0
theorem get_row {r : List Int} {k : Nat} (h : k < r.length) : atI (r.map PyData.int) (k : Int) = some (.int (r.getD k 0)) := by
  refine DL.atI_nat ?_
  rw [List.getElem?_map, List.getD_eq_getElem?_getD, List.getElem?_eq_getElem h]
  rfl
theorem isMat_rows {M : List (List Int)} (h : isMat M = true) : ∀ r ∈ M, r.length = wid M := by
  cases M with
  | nil => simp [isMat] at h
  | cons r0 M =>
    intro r hr
    simp only [isMat, Bool.and_eq_true, List.all_eq_true] at h
    have := h.2 r hr
    simp only [rowOk, Bool.and_eq_true, decide_eq_true_eq] at this
    simp [wid]; omega
theorem isMat_wid {M : List (List Int)} (h : isMat M = true) : 1 ≤ wid M ∧ wid M ≤ 6 ∧ 1 ≤ M.length ∧ M.length ≤ 3 := by
  cases M with
  | nil => simp [isMat] at h
  | cons r0 M =>
    simp only [isMat, Bool.and_eq_true, decide_eq_true_eq] at h
    simp [wid] at h ⊢; omega
theorem cols_in {M : List (List Int)} (h : Sm M) {k : Nat} (hk : ∀ r ∈ M, k < r.length) : xComp (iSeq (xVar 0)) [2] (bName 2) tTrue (x2 kIx (xVar 2) (xVar 1)) [some (.val (mtx M)), some (.val (.int (k : Int))), none] =
    .ok (.lst (M.map fun r => PyData.int (r.getD k 0))) [some (.val (mtx M)), some (.val (.int (k : Int))), none] := by
  refine xComp_of_map (e := vec) (by simp) (by simp) (by have := h.len; omega) fun r hr => ?_
  simp [get_row (hk r hr)]
theorem columns_of_eq {M : List (List Int)} (h : Sm M) (hm : isMat M = true) : f_columns_of [mtx M] = .ok (.own (.lst ((colI M).map vec))) := by
  unfold f_columns_of
  rw [runF_out]
  obtain ⟨w1, w2, w3, w4⟩ := isMat_wid hm
  have hc : xComp (iRange1 (aCons (xCB kLen (aCons (x2 kIx (xVar 0) (xC (.int 0))) aNil)) aNil)) [1] (bName 1) tTrue (xCB kTuple (aCons (ofL (xComp (iSeq (xVar 0)) [2] (bName 2) tTrue (x2 kIx (xVar 2) (xVar 1)))) aNil)) [some (.val (mtx M)), none, none] =
      .ok (.lst ((List.range (wid M)).map fun k => vec (M.map fun r => r.getD k 0))) [some (.val (mtx M)), none, none] := by
    refine xComp_of_map (e := fun (k : Nat) => PyData.int (k : Int)) ?_ (by simp) (by rw [List.length_range]; omega) fun k hk => ?_
    · refine iRange1_nat ?_ (by omega)
      simp [at0 hm, wid]
    · have hk' : k < wid M := List.mem_range.mp hk
      have hi := cols_in h (k := k) fun r hr => by rw [isMat_rows hm r hr]; exact hk'
      simp [hi]
  simp [b_columns_of, startD, hc, colI]
theorem columns_eq {M : List (List Int)} (h : Sm M) : f_columns [mtx M] = if isMat M = true then .ok (.own (.lst ((colI M).map vec))) else .err nm := by
  unfold f_columns
  rw [runF_out]
  cases q : isMat M
  · simp [b_columns, startD, check_matrix_eq h, q]
  · simp [b_columns, startD, check_matrix_eq h, q, columns_of_eq h q]
theorem image_eq {M : List (List Int)} (h : Sm M) {v : List Int} (hb : isMat M = true → vecOk M v = true → Bm M ∧ Bd v) : f_image [mtx M, vec v] = if isMat M = true then (if vecOk M v = true then .ok (.val (vec (imgI M v))) else .err ⟨"NotVector", none⟩) else .err nm := by
  unfold f_image
  rw [runF_out]
  cases q : isMat M
  · simp [b_image, startD, check_vector_eq h, q]
  · cases q2 : vecOk M v
    · simp [b_image, startD, check_vector_eq h, q, q2]
    · obtain ⟨b1, b2⟩ := hb q q2
      simp [b_image, startD, check_vector_eq h, q, q2, image_of_eq b1 b2]
def minI (v : List Int) : Int := match v with
  | [] => 0
  | n :: ns => ns.foldl min n
theorem kMin_vec {v : List Int} (h : v ≠ []) : kMin [vec v] = some (.int (minI v)) := by
  cases v with
  | nil => exact absurd rfl h
  | cons n ns =>
    show (match intsOf ((n :: ns).map PyData.int) with
      | some (n :: ns) => some (PyData.int (ns.foldl min n))
      | _ => none) = _
    rw [intsOf_map]; rfl
theorem canLay_ints : ∀ v : List Int, PyData.canLayAll0 (v.map PyData.int) = true
  | [] => rfl
  | n :: v => by simp [PyData.canLayAll0, PyData.canLay0, canLay_ints v]
theorem depth_ints : ∀ v : List Int, PyData.depthAll (v.map PyData.int) = 0
  | [] => rfl
  | n :: v => by simp [PyData.depthAll, PyData.depth, depth_ints v]
theorem shaped_vec (v : List Int) : SeqAt.shaped (vec v) = true := by
  simp [SeqAt.shaped, PyData.canLay0, PyData.depth, canLay_ints, depth_ints]
theorem eqv_ints : ∀ a b : List Int, PyData.eqvAll (a.map PyData.int) (b.map PyData.int) = decide (a = b)
  | [], [] => by simp [PyData.eqvAll]
  | [], _ :: _ => by simp [PyData.eqvAll]
  | _ :: _, [] => by simp [PyData.eqvAll]
  | x :: a, y :: b => by simp [PyData.eqvAll, PyData.eqv, eqv_ints a b]; rfl
theorem kEq_vec (a b : List Int) : kEq (vec a) (vec b) = some (decide (a = b)) := by
  have h : kEq (vec a) (vec b) = some (PyData.eqv (vec a) (vec b)) := if_pos ⟨shaped_vec a, shaped_vec b⟩
  rw [h]
  simp [PyData.eqv, eqv_ints]
def solvI (M : List (List Int)) (s v : List Int) : Bool := decide (0 ≤ minI v) && decide (imgI M v = s)
theorem solves_eq {M : List (List Int)} (h : Bm M) {s v : List Int} (hv : Bd v) (hn : v ≠ []) : f_solves [mtx M, vec s, vec v] = .ok (.val (.bool (solvI M s v))) := by
  unfold f_solves
  rw [runF_out]
  by_cases q : 0 ≤ minI v <;> simp [b_solves, startD, kMin_vec hn, q, image_of_eq h hv, kEq_vec, solvI]
theorem is_solution_eq {M : List (List Int)} (h : Sm M) {s v : List Int} (hs : s.length ≤ 1000) (hb : isMat M = true → vecOk M v = true → Bm M ∧ Bd v ∧ v ≠ []) : f_is_solution [mtx M, vec s, vec v] =
    if isMat M = true then (if sideOk M s = true then (if vecOk M v = true then .ok (.val (.bool (solvI M s v))) else .err ⟨"NotVector", none⟩) else .err ⟨"NotSide", none⟩) else .err nm := by
  unfold f_is_solution
  rw [runF_out]
  cases q : isMat M
  · simp [b_is_solution, startD, check_side_eq h hs, q]
  · cases q1 : sideOk M s
    · simp [b_is_solution, startD, check_side_eq h hs, q, q1]
    · cases q2 : vecOk M v
      · simp [b_is_solution, startD, check_side_eq h hs, check_vector_eq h, q, q1, q2]
      · obtain ⟨b1, b2, b3⟩ := hb q q2
        simp [b_is_solution, startD, check_side_eq h hs, check_vector_eq h, q, q1, q2, solves_eq b1 b2 b3]
theorem price_eq {M : List (List Int)} (h : Sm M) {c v : List Int} (hs : c.length ≤ 1000) (hb : isMat M = true → costOk M c = true → vecOk M v = true → Bd c ∧ Bd v) : f_price [mtx M, vec c, vec v] =
    if isMat M = true then (if costOk M c = true then (if vecOk M v = true then .ok (.val (.int (dotI c v))) else .err ⟨"NotVector", none⟩) else .err ⟨"NotCost", none⟩) else .err nm := by
  unfold f_price
  rw [runF_out]
  cases q : isMat M
  · simp [b_price, startD, check_cost_eq h hs, q]
  · cases q1 : costOk M c
    · simp [b_price, startD, check_cost_eq h hs, q, q1]
    · cases q2 : vecOk M v
      · simp [b_price, startD, check_cost_eq h hs, check_vector_eq h, q, q1, q2]
      · obtain ⟨b1, b2⟩ := hb q q1 q2
        simp [b_price, startD, check_cost_eq h hs, check_vector_eq h, q, q1, q2, dot_eq b1 b2]
def keyI (c v : List Int) : D := .tuple [.int (dotI c v), vec v]
theorem key_of_eq {c v : List Int} (hc : Bd c) (hv : Bd v) : f_key_of [vec c, vec v] = .ok (.val (keyI c v)) := by
  unfold f_key_of
  rw [runF_out]
  simp [b_key_of, startD, dot_eq hc hv, keyI]
theorem alike_ints : ∀ a b : List Int, PySem.W.alikeAll (a.map PyData.int) (b.map PyData.int) = true
  | [], b => by cases b <;> simp [PySem.W.alikeAll]
  | _ :: _, [] => by simp [PySem.W.alikeAll]
  | x :: a, y :: b => by simp [PySem.W.alikeAll, PySem.W.alike, alike_ints a b]
theorem kLt_key (c a b : List Int) : kLt (keyI c a) (keyI c b) = some (PySem.W.dataLt (keyI c a) (keyI c b)) := by
  unfold keyI kLt
  refine if_pos ⟨?_, ?_, ?_⟩
  · simp [PySem.W.alike, PySem.W.alikeAll, alike_ints]
  · rfl
  · simp [PyData.depth, PyData.depthAll, depth_ints]
theorem comes_before_eq {M : List (List Int)} (h : Sm M) {c a b : List Int} (hs : c.length ≤ 1000) (hb : isMat M = true → costOk M c = true → vecOk M a = true → vecOk M b = true → Bd c ∧ Bd a ∧ Bd b) : f_comes_before [mtx M, vec c, vec a, vec b] =
    if isMat M = true then (if costOk M c = true then (if vecOk M a = true then (if vecOk M b = true then .ok (.val (.bool (PySem.W.dataLt (keyI c a) (keyI c b)))) else .err ⟨"NotVector", none⟩) else .err ⟨"NotVector", none⟩) else .err ⟨"NotCost", none⟩) else .err nm := by
  unfold f_comes_before
  rw [runF_out]
  cases q : isMat M
  · simp [b_comes_before, startD, check_cost_eq h hs, q]
  · cases q1 : costOk M c
    · simp [b_comes_before, startD, check_cost_eq h hs, q, q1]
    · cases q2 : vecOk M a
      · simp [b_comes_before, startD, check_cost_eq h hs, check_vector_eq h, q, q1, q2]
      · cases q3 : vecOk M b
        · simp [b_comes_before, startD, check_cost_eq h hs, check_vector_eq h, q, q1, q2, q3]
        · obtain ⟨b1, b2, b3⟩ := hb q q1 q2 q3
          simp [b_comes_before, startD, check_cost_eq h hs, check_vector_eq h, q, q1, q2, q3, key_of_eq b1 b2, key_of_eq b1 b3, kLt_key]
end K00

namespace K00
open L2 PySem PySem.Spec PyProof.Rows DL

theorem range_dot : ∀ (a b : List Int), a.length ≤ b.length → ((List.range a.length).map fun k => a.getD k 0 * b.getD k 0) = List.zipWith (fun x y => x * y) a b := fun a b h => by
  refine List.ext_getElem (by simp; omega) fun i h1 h2 => ?_
  have l1 : i < a.length := by simpa using h1
  have l2 : i < b.length := by omega
  simp [List.getD_eq_getElem?_getD, List.getElem?_eq_getElem l1, List.getElem?_eq_getElem l2]
theorem getD_mem {a : List Int} {k : Nat} (h : k < a.length) : a.getD k 0 ∈ a := by
  rw [List.getD_eq_getElem?_getD, List.getElem?_eq_getElem h]
  exact List.getElem_mem h
theorem law_dot_eq {a b : List Int} (ha : Bd a) (hb : Bd b) (hl : a.length ≤ b.length) : f_u_law_dot [vec a, vec b] = .ok (.val (.int (dotI a b))) := by
  unfold f_u_law_dot
  rw [runF_out]
  have hc : xComp (DL.iRange1 (aCons (xCB kLen (aCons (xVar 0) aNil)) aNil)) [2] (bName 2) tTrue (x2 kMul (x2 kIx (xVar 0) (xVar 2)) (x2 kIx (xVar 1) (xVar 2))) [some (.val (vec a)), some (.val (vec b)), none] =
      .ok (.lst ((List.range a.length).map fun k => PyData.int (a.getD k 0 * b.getD k 0))) [some (.val (vec a)), some (.val (vec b)), none] := by
    refine xComp_of_map (e := fun (k : Nat) => PyData.int (k : Int)) ?_ (by simp) (by rw [List.length_range]; have := ha.1; omega) fun k hk => ?_
    · refine DL.iRange1_nat ?_ (by have := ha.1; omega)
      simp
    · have hk' : k < a.length := List.mem_range.mp hk
      have hk2 : k < b.length := by omega
      have hm := mulOk_of (ha.2 _ (getD_mem hk')) (hb.2 _ (getD_mem hk2))
      simp only [List.getD_eq_getElem?_getD] at hm
      have g1 := get_row hk'
      have g2 := get_row hk2
      simp [g1, g2, hm]
  have e := range_dot a b hl
  simp only [List.getD_eq_getElem?_getD] at e
  simp [b_u_law_dot, startD, hc, kSum_ints, dotI, e]
theorem law_image_eq {M : List (List Int)} (h : Bm M) {v : List Int} (hv : Bd v) (hl : ∀ r ∈ M, r.length ≤ v.length) : f_u_law_image [mtx M, vec v] = .ok (.val (vec (imgI M v))) := by
  unfold f_u_law_image
  rw [runF_out]
  have hc : xComp (iSeq (xVar 0)) [2] (bName 2) tTrue (xCall f_u_law_dot (aCons (xVar 2) (aCons (xVar 1) aNil))) [some (.val (mtx M)), some (.val (vec v)), none] = .ok (.lst (M.map fun r => PyData.int (dotI r v))) [some (.val (mtx M)), some (.val (vec v)), none] := by
    refine xComp_of_map (e := vec) (by simp) (by simp) (by have := h.sm.len; omega) fun r hr => ?_
    simp [law_dot_eq (h.bd r hr) hv (hl r hr)]
  simp [b_u_law_image, startD, hc, imgI]
theorem law_columns_eq {M : List (List Int)} (h : Sm M) (hm : isMat M = true) : f_u_law_columns [mtx M] = .ok (.own (.lst ((colI M).map vec))) := by
  unfold f_u_law_columns
  rw [runF_out]
  obtain ⟨w1, w2, w3, w4⟩ := isMat_wid hm
  have hc : xComp (DL.iRange1 (aCons (xCB kLen (aCons (x2 kIx (xVar 0) (xC (.int 0))) aNil)) aNil)) [1] (bName 1) tTrue (xCB kTuple (aCons (ofL (xComp (iSeq (xVar 0)) [2] (bName 2) tTrue (x2 kIx (xVar 2) (xVar 1)))) aNil)) [some (.val (mtx M)), none, none] =
      .ok (.lst ((List.range (wid M)).map fun k => vec (M.map fun r => r.getD k 0))) [some (.val (mtx M)), none, none] := by
    refine xComp_of_map (e := fun (k : Nat) => PyData.int (k : Int)) ?_ (by simp) (by rw [List.length_range]; omega) fun k hk => ?_
    · refine DL.iRange1_nat ?_ (by omega)
      simp [at0 hm, wid]
    · have hk' : k < wid M := List.mem_range.mp hk
      have hi := cols_in h (k := k) fun r hr => by rw [isMat_rows hm r hr]; exact hk'
      simp [hi]
  simp [b_u_law_columns, startD, hc, colI]
theorem law_key_eq {c v : List Int} (hc : Bd c) (hv : Bd v) (hl : c.length ≤ v.length) : f_u_law_key [vec c, vec v] = .ok (.val (keyI c v)) := by
  unfold f_u_law_key
  rw [runF_out]
  simp [b_u_law_key, startD, law_dot_eq hc hv hl, keyI]
/-! ### what is told -/
theorem hk1 : h_u_law_kind ⟨"NotMatrix", none⟩ = some (.str "!matrix") := by rfl
theorem hk2 : h_u_law_kind ⟨"NotSide", none⟩ = some (.str "!side") := by rfl
theorem hk3 : h_u_law_kind ⟨"NotVector", none⟩ = some (.str "!vector") := by rfl
theorem hk4 : h_u_law_kind ⟨"NotCost", none⟩ = some (.str "!cost") := by rfl
def toldV : RF → RF
  | .ok (.val d) => .ok (.val d)
  | .ok (.own (.lst l)) => .ok (.val (.list l))
  | .err x => match h_u_law_kind x with
    | some d => .ok (.val d)
    | none => .bad
  | _ => .bad
theorem told0_err {m a b : D} {x : Exn} {d : D} (h : f_check_side [m, a] = .err x) (hk : h_u_law_kind x = some d) : f_u_law_told [.int 0, m, a, b] = .ok (.val d) := by
  unfold f_u_law_told
  rw [runF_out]
  simp [b_u_law_told, startD, h, hk, atI, ixN]
theorem told0_ok {m a b : D} {d : D} (h : f_check_side [m, a] = .ok (.val d)) : f_u_law_told [.int 0, m, a, b] = .ok (.val d) := by
  unfold f_u_law_told
  rw [runF_out]
  simp [b_u_law_told, startD, h, atI, ixN]
theorem told1_err {m a b : D} {x : Exn} {d : D} (h : f_check_vector [m, a] = .err x) (hk : h_u_law_kind x = some d) : f_u_law_told [.int 1, m, a, b] = .ok (.val d) := by
  unfold f_u_law_told
  rw [runF_out]
  simp [b_u_law_told, startD, h, hk, atI, ixN]
theorem told1_ok {m a b : D} {d : D} (h : f_check_vector [m, a] = .ok (.val d)) : f_u_law_told [.int 1, m, a, b] = .ok (.val d) := by
  unfold f_u_law_told
  rw [runF_out]
  simp [b_u_law_told, startD, h, atI, ixN]
theorem told2_err {m a b : D} {x : Exn} {d : D} (h : f_check_cost [m, a] = .err x) (hk : h_u_law_kind x = some d) : f_u_law_told [.int 2, m, a, b] = .ok (.val d) := by
  unfold f_u_law_told
  rw [runF_out]
  simp [b_u_law_told, startD, h, hk, atI, ixN]
theorem told2_ok {m a b : D} {d : D} (h : f_check_cost [m, a] = .ok (.val d)) : f_u_law_told [.int 2, m, a, b] = .ok (.val d) := by
  unfold f_u_law_told
  rw [runF_out]
  simp [b_u_law_told, startD, h, atI, ixN]
theorem told3_err {m a b : D} {x : Exn} {d : D} (h : f_check_matrix [m] = .err x) (hk : h_u_law_kind x = some d) : f_u_law_told [.int 3, m, a, b] = .ok (.val d) := by
  unfold f_u_law_told
  rw [runF_out]
  simp [b_u_law_told, startD, h, hk, atI, ixN]
theorem told3_ok {m a b : D} {d : D} (h : f_check_matrix [m] = .ok (.val d)) : f_u_law_told [.int 3, m, a, b] = .ok (.val d) := by
  unfold f_u_law_told
  rw [runF_out]
  simp [b_u_law_told, startD, h, atI, ixN]
theorem told4_err {m a b : D} {x : Exn} {d : D} (h : f_columns [m] = .err x) (hk : h_u_law_kind x = some d) : f_u_law_told [.int 4, m, a, b] = .ok (.val d) := by
  unfold f_u_law_told
  rw [runF_out]
  simp [b_u_law_told, startD, h, hk, atI, ixN]
theorem told4_ok {m a b : D} {l : List D} (h : f_columns [m] = .ok (.own (.lst l))) : f_u_law_told [.int 4, m, a, b] = .ok (.val (.list l)) := by
  unfold f_u_law_told
  rw [runF_out]
  simp [b_u_law_told, startD, h, atI, ixN]
theorem told5_err {m a b : D} {x : Exn} {d : D} (h : f_image [m, a] = .err x) (hk : h_u_law_kind x = some d) : f_u_law_told [.int 5, m, a, b] = .ok (.val d) := by
  unfold f_u_law_told
  rw [runF_out]
  simp [b_u_law_told, startD, h, hk, atI, ixN]
theorem told5_ok {m a b : D} {d : D} (h : f_image [m, a] = .ok (.val d)) : f_u_law_told [.int 5, m, a, b] = .ok (.val d) := by
  unfold f_u_law_told
  rw [runF_out]
  simp [b_u_law_told, startD, h, atI, ixN]
theorem told6_err {m a b : D} {x : Exn} {d : D} (h : f_is_solution [m, a, b] = .err x) (hk : h_u_law_kind x = some d) : f_u_law_told [.int 6, m, a, b] = .ok (.val d) := by
  unfold f_u_law_told
  rw [runF_out]
  simp [b_u_law_told, startD, h, hk, atI, ixN]
theorem told6_ok {m a b : D} {d : D} (h : f_is_solution [m, a, b] = .ok (.val d)) : f_u_law_told [.int 6, m, a, b] = .ok (.val d) := by
  unfold f_u_law_told
  rw [runF_out]
  simp [b_u_law_told, startD, h, atI, ixN]
theorem told7_err {m a b : D} {x : Exn} {d : D} (h : f_price [m, a, b] = .err x) (hk : h_u_law_kind x = some d) : f_u_law_told [.int 7, m, a, b] = .ok (.val d) := by
  unfold f_u_law_told
  rw [runF_out]
  simp [b_u_law_told, startD, h, hk, atI, ixN]
theorem told7_ok {m a b : D} {d : D} (h : f_price [m, a, b] = .ok (.val d)) : f_u_law_told [.int 7, m, a, b] = .ok (.val d) := by
  unfold f_u_law_told
  rw [runF_out]
  simp [b_u_law_told, startD, h, atI, ixN]
theorem before_err {m c a b : D} {x : Exn} {d : D} (h : f_comes_before [m, c, a, b] = .err x) (hk : h_u_law_kind x = some d) : f_u_law_before [m, c, a, b] = .ok (.val d) := by
  unfold f_u_law_before
  rw [runF_out]
  simp [b_u_law_before, startD, h, hk]
theorem before_ok {m c a b : D} {d : D} (h : f_comes_before [m, c, a, b] = .ok (.val d)) : f_u_law_before [m, c, a, b] = .ok (.val d) := by
  unfold f_u_law_before
  rw [runF_out]
  simp [b_u_law_before, startD, h]
end K00

namespace K00
open L2 PySem PySem.Spec PyProof.Rows DL

abbrev zs (xs : List Int) : List D := xs.map PyData.int
theorem next_eq (xs : List Int) : f_u_law_next (zs xs) [] = some (.val (.int (xs.getLastD 0)), zs xs.dropLast) := by
  unfold f_u_law_next
  rw [runI_out]
  rcases List.eq_nil_or_concat xs with rfl | ⟨ys, y, rfl⟩
  · simp [b_u_law_next, startI, startD]
  · simp [b_u_law_next, startI, startD]
theorem last_dr {xs : List Int} (h : Dr xs) : 0 ≤ xs.getLastD 0 ∧ xs.getLastD 0 < 1000 ∧ Dr xs.dropLast := by
  rcases List.eq_nil_or_concat xs with rfl | ⟨ys, y, rfl⟩
  · simp [Dr]
  · have := h y (by simp)
    refine ⟨by simpa using this.1, by simpa using this.2, fun x hx => h x ?_⟩
    simp at hx ⊢; exact .inl hx
theorem next_ex {xs : List Int} (h : Dr xs) : ∃ a ys, f_u_law_next (zs xs) [] = some (.val (.int a), zs ys) ∧ 0 ≤ a ∧ a < 1000 ∧ Dr ys ∧ ys.length ≤ xs.length :=
  ⟨_, _, next_eq xs, (last_dr h).1, (last_dr h).2.1, (last_dr h).2.2, by simp⟩
theorem number_eq (n : Int) : ∃ k : Int, 0 ≤ k ∧ f_u_law_number [.int n] = .ok (.val (.int k)) := by
  unfold f_u_law_number
  by_cases h : n < 0
  · refine ⟨0 - n, by omega, ?_⟩
    rw [runF_out]; simp [b_u_law_number, startD, h]
  · refine ⟨n, by omega, ?_⟩
    rw [runF_out]; simp [b_u_law_number, startD, h]
theorem divOk_lit {n : Int} (h0 : n ≠ 0) (h : n.natAbs.log2 < 9000) : divOk n = true := decide_eq_true ⟨h0, h⟩
theorem dk1000 : divOk 1000 = true := by decide
theorem dk7 : divOk 7 = true := by decide
theorem dk2 : divOk 2 = true := by decide
/-- the inner loop: a digit of base 1000 a turn -/
def inner : DSt := gFor (DL.iRange1 (aCons (xC (.int 60)) aNil)) (bName 4) (gSeq (gIf (xt2 kEq (xVar 3) (xC (.int 0))) gBreak gNext) (gSeq (gExpr (xM 1 mAppend (aCons (x2 kMod (xCB kInt (aCons (xVar 3) aNil)) (xC (.int 1000))) aNil))) (gSet 3 (x2 kDiv (xVar 3) (xC (.int 1000))))))
theorem inner_eq {s c o t : Option SV} {k : Option SV} (hk : VS k) {xs : List Int} (hx : Dr xs) {r : Int} (hr : 0 ≤ r) (hl : xs.length ≤ 1000000) : ∃ ys r' k', inner [s, some (.own false (.lst (zs xs))), c, some (.val (.int r)), k, o, t] = .nx [s, some (.own false (.lst (zs ys))), c, some (.val (.int r')), k', o, t] ∧ Dr ys ∧ ys.length ≤ xs.length + 60 ∧ VS k' := by
  have hit : DL.iRange1 (aCons (xC (.int 60)) aNil) [s, some (.own false (.lst (zs xs))), c, some (.val (.int r)), k, o, t] = .ok ((List.range 60).map fun (k : Nat) => PyData.int (k : Int)) [s, some (.own false (.lst (zs xs))), c, some (.val (.int r)), k, o, t] := iRange1_nat (by simp) (by omega)
  unfold inner
  rw [gFor_ap, hit, bindF_ok]
  obtain ⟨ρ', n', h1, ⟨ys, r', k', rfl, h2, h3, h4, h5⟩, h6⟩ := forD_brk (bind := bName 4) (body := gSeq (gIf (xt2 kEq (xVar 3) (xC (.int 0))) gBreak gNext) (gSeq (gExpr (xM 1 mAppend (aCons (x2 kMod (xCB kInt (aCons (xVar 3) aNil)) (xC (.int 1000))) aNil))) (gSet 3 (x2 kDiv (xVar 3) (xC (.int 1000))))))
    (fun n ρ => ∃ ys r' k', ρ = [s, some (.own false (.lst (zs ys))), c, some (.val (.int r')), k', o, t] ∧ Dr ys ∧ 0 ≤ r' ∧ ys.length ≤ xs.length + n ∧ VS k') (ds := (List.range 60).map fun (k : Nat) => PyData.int (k : Int)) (n := 0) ⟨xs, r, k, rfl, hx, hr, by omega, hk⟩ (fun j d ρ hd ⟨ys, r', k', e, h1, h2, h3, h4⟩ => by
      subst e
      have hj : j < 60 := by
        have := (List.getElem?_eq_some_iff.mp hd).1
        simpa using this
      have io := h4.io
      have hlen : ys.length < 16777216 := by omega
      by_cases z : r' = 0
      · refine ⟨[s, some (.own false (.lst (zs ys))), c, some (.val (.int r')), some (.val d), o, t], [s, some (.own false (.lst (zs ys))), c, some (.val (.int r')), some (.val d), o, t], by rcases h4 with rfl | ⟨d', rfl⟩ <;> simp, .inr ?_, ys, r', _, rfl, h1, h2, by omega, .val⟩
        simp [z]
      · refine ⟨[s, some (.own false (.lst (zs ys))), c, some (.val (.int r')), some (.val d), o, t], [s, some (.own false (.lst (zs (ys ++ [r'.fmod 1000])))), c, some (.val (.int (r'.fdiv 1000))), some (.val d), o, t], by rcases h4 with rfl | ⟨d', rfl⟩ <;> simp, .inl ?_, _, _, _, rfl, h1.app (.one r'), fdiv_nonneg h2 (by decide), by simp; omega, .val⟩
        simp [z, hlen, dk1000])
  exact ⟨ys, r', k', h1, h2, by simp at h6; omega, h5⟩
theorem mulOk_small {a b : Int} (ha : 0 ≤ a) (ha' : a < 1000000000000000000) (hb : 0 ≤ b) (hb' : b < 1000000000000000000) : mulOk a b = true := mulOk_of (by omega) (by omega)
/-- one cell of the script -/
def cellB : DSt := gSeq (gSet 3 (xCall f_u_law_number (aCons (xVar 2) aNil))) (gIf (xt2 kGe (xVar 3) (xC (.int 1000000000000000000))) inner
  (gSeq (gSet 5 (x2 kMod (xCB kInt (aCons (x2 kAdd (x2 kMul (xVar 3) (xC (.int 48271))) (xC (.int 11))) aNil)) (xC (.int 2147483647)))) (gSeq (gSet 6 (x2 kMod (xCB kInt (aCons (x2 kAdd (x2 kMul (xVar 5) (xC (.int 69621))) (xVar 3)) aNil)) (xC (.int 2147483629))))
    (gExtend 1 (xLst (aCons (x2 kMod (xCB kInt (aCons (xVar 3) aNil)) (xC (.int 1000))) (aCons (x2 kMod (xCB kInt (aCons (xVar 5) aNil)) (xC (.int 1000))) (aCons (x2 kMod (xCB kInt (aCons (xVar 6) aNil)) (xC (.int 1000))) aNil))))))))
theorem cellB_eq {s r k o t : Option SV} (hr : VS r) (hk : VS k) (ho : VS o) (ht : VS t) {xs : List Int} (hx : Dr xs) (hl : xs.length ≤ 1000000) (c : Int) :
    ∃ ys r' k' o' t', cellB [s, some (.own false (.lst (zs xs))), some (.val (.int c)), r, k, o, t] = .nx [s, some (.own false (.lst (zs ys))), some (.val (.int c)), r', k', o', t'] ∧ Dr ys ∧ ys.length ≤ xs.length + 60 ∧ VS r' ∧ VS k' ∧ VS o' ∧ VS t' := by
  obtain ⟨n, hn, en⟩ := number_eq c
  by_cases h : 1000000000000000000 ≤ n
  · obtain ⟨ys, r', k', e, h1, h2, h3⟩ := inner_eq (s := s) (c := some (.val (.int c))) (o := o) (t := t) hk hx hn hl
    refine ⟨ys, some (.val (.int r')), k', o, t, ?_, h1, h2, .val, h3, ho, ht⟩
    · rcases hr with rfl | ⟨d, rfl⟩ <;> simp [cellB, en, h, e]
  · have m1 := mulOk_small hn (by omega) (b := 48271) (by decide) (by decide)
    have f1 := fmod_pos (a := n * 48271 + 11) (b := 2147483647) (by decide)
    have m2 := mulOk_small f1.1 (by omega) (b := 69621) (by decide) (by decide)
    have hlen : xs.length + 3 ≤ 16777216 := by omega
    refine ⟨xs ++ [n.fmod 1000, ((n * 48271 + 11).fmod 2147483647).fmod 1000, ((((n * 48271 + 11).fmod 2147483647) * 69621 + n).fmod 2147483629).fmod 1000], some (.val (.int n)), k, some (.val (.int ((n * 48271 + 11).fmod 2147483647))), some (.val (.int ((((n * 48271 + 11).fmod 2147483647) * 69621 + n).fmod 2147483629))), ?_, hx.app ?_, by simp, .val, hk, .val, .val⟩
    · rcases hr with rfl | ⟨d, rfl⟩ <;> rcases ho with rfl | ⟨d2, rfl⟩ <;> rcases ht with rfl | ⟨d3, rfl⟩ <;> simp [cellB, en, h, m1, m2, hlen]
    · intro x hx'
      simp at hx'
      rcases hx' with rfl | rfl | rfl <;> exact fmod_pos (by decide)
theorem draws_eq (ns : List Int) (hl : ns.length ≤ 63) : ∃ xs, f_u_law_draws [.list (zs ns)] = .ok (.own (.lst (zs xs))) ∧ Dr xs ∧ xs.length ≤ 5000 := by
  unfold f_u_law_draws
  rw [runF_out]
  obtain ⟨ρ', h1, ys, c, r, k, o, t, rfl, h2, h3, h4, h5, h6, h7, h8⟩ := forD_inv (bind := bName 2) (body := cellB)
    (fun n ρ => ∃ ys c r k o t, ρ = [some (.val (.list (zs ns))), some (.own false (.lst (zs ys))), c, r, k, o, t] ∧ Dr ys ∧ ys.length ≤ 60 * n ∧ VS c ∧ VS r ∧ VS k ∧ VS o ∧ VS t) (ds := zs ns) (n := 0) (ρ := [some (.val (.list (zs ns))), some (.own false (.lst [])), none, none, none, none, none])
    ⟨[], none, none, none, none, none, rfl, .nil, by simp, .inl rfl, .inl rfl, .inl rfl, .inl rfl, .inl rfl⟩ (fun j d ρ hd ⟨ys, c, r, k, o, t, e, h2, h3, h4, h5, h6, h7, h8⟩ => by
      subst e
      have hj : j < 63 := by
        have := (List.getElem?_eq_some_iff.mp hd).1
        simp at this; omega
      rw [List.getElem?_map] at hd
      cases q : ns[j]? with
      | none => rw [q] at hd; cases hd
      | some m =>
        rw [q] at hd
        cases hd
        obtain ⟨ys', r', k', o', t', e, g1, g2, g3, g4, g5, g6⟩ := cellB_eq (s := some (.val (.list (zs ns)))) h5 h6 h7 h8 h2 (by omega) m
        refine ⟨[some (.val (.list (zs ns))), some (.own false (.lst (zs ys))), some (.val (.int m)), r, k, o, t], _, by rcases h4 with rfl | ⟨d', rfl⟩ <;> simp, e, ys', _, r', k', o', t', rfl, g1, by omega, .val, g3, g4, g5, g6⟩)
  refine ⟨ys.reverse, ?_, h2.rev, by simp at h3 ⊢; omega⟩
  have e : b_u_law_draws = gSeq (gSetL 1 (xLst aNil)) (gSeq (gFor (iSeq (xVar 0)) (bName 2) cellB) (gSeq (gExpr (xM 1 mReverse aNil)) (gRetOwn 1))) := rfl
  rw [e]
  simp [startD, h1, List.map_reverse]
theorem more_eq (xs : List Int) (hx : Dr xs) (hl : xs.length ≤ 5000) (m : Nat) (hm : m ≤ 1000) : ∃ ys zs', f_u_law_more (zs xs) [.int (m : Int)] = some (.own (.lst (zs ys)), zs zs') ∧ Dr ys ∧ ys.length ≤ 6000 ∧ zs'.length ≤ 5000 := by
  unfold f_u_law_more
  rw [runI_out]
  obtain ⟨u, w1, n1, a1, a2, a3, l1⟩ := next_ex hx
  obtain ⟨v, w2, n2, b1, b2, b3, l2⟩ := next_ex a3
  have m1 := mulOk_small (a := 1000) (by decide) (by decide) a1 (by omega)
  have hit : ∀ (s x d e : Option SV), DL.iRange1 (aCons (xVar 1) aNil) [s, some (.val (.int (m : Int))), x, d, e] = .ok ((List.range m).map fun (k : Nat) => PyData.int (k : Int)) [s, some (.val (.int (m : Int))), x, d, e] := fun s x d e => iRange1_nat (by simp) (by omega)
  obtain ⟨ρ', h1, ys, sd, k', rfl, h2, h3, h4, h5, h6⟩ := forD_inv (bind := bName 4) (body := gSeq (gSet 2 (x2 kMod (xCB kInt (aCons (x2 kAdd (x2 kMul (xVar 2) (xC (.int 48271))) (xC (.int 12345))) (aNil))) (xC (.int 2147483647)))) (gExpr (xM 3 mAppend (aCons (x2 kMod (xCB kInt (aCons (x2 kDiv (xVar 2) (xC (.int 7))) (aNil))) (xC (.int 1000))) (aNil)))))
    (fun n ρ => ∃ ys sd k', ρ = [some (.own true (.lst (zs w2))), some (.val (.int (m : Int))), some (.val (.int sd)), some (.own false (.lst (zs ys))), k'] ∧ Dr ys ∧ ys.length ≤ n ∧ 0 ≤ sd ∧ sd < 3000000000 ∧ VS k') (ds := (List.range m).map fun (k : Nat) => PyData.int (k : Int)) (n := 0)
    (ρ := [some (.own true (.lst (zs w2))), some (.val (.int (m : Int))), some (.val (.int (1000 * u + v + 1))), some (.own false (.lst [])), none])
    ⟨[], _, none, rfl, .nil, by simp, by omega, by omega, .inl rfl⟩ (fun j d ρ hd ⟨ys, sd, k', e, g1, g2, g3, g4, g5⟩ => by
      subst e
      have hj : j < m := by
        have := (List.getElem?_eq_some_iff.mp hd).1
        simpa using this
      have q1 := mulOk_small g3 (by omega) (b := 48271) (by decide) (by decide)
      have f1 := fmod_pos (a := sd * 48271 + 12345) (b := 2147483647) (by decide)
      have hlen : ys.length < 16777216 := by omega
      refine ⟨[some (.own true (.lst (zs w2))), some (.val (.int (m : Int))), some (.val (.int sd)), some (.own false (.lst (zs ys))), some (.val d)],
        [some (.own true (.lst (zs w2))), some (.val (.int (m : Int))), some (.val (.int ((sd * 48271 + 12345).fmod 2147483647))), some (.own false (.lst (zs (ys ++ [(((sd * 48271 + 12345).fmod 2147483647).fdiv 7).fmod 1000])))), some (.val d)], by rcases g5 with rfl | ⟨d', rfl⟩ <;> simp, ?_, _, _, _, rfl, g1.app (.one _), by simp; omega, f1.1, by omega, .val⟩
      simp [q1, hlen, dk1000, dk7])
  have hys : ys.length ≤ m := by simpa using h3
  refine ⟨ys ++ w2, w2, ?_, h2.app b3, by simp; omega, by omega⟩
  have hlen : ys.length + w2.length ≤ 16777216 := by omega
  have hit' := hit (some (.own true (.lst (zs w2)))) (some (.val (.int (1000 * u + v + 1)))) (some (.own false (.lst []))) none
  simp [b_u_law_more, startI, startD, n1, n2, m1, hit', h1, hlen]
/-- a draw taken within a comprehension -/
theorem vec_comp {ow : List Nat} {b : D → DEnv → Option DEnv} {elt : DX} {it : DEnv → Res (List D)} (q : Int → Prop) (rest : List (Option SV)) (n : Nat) (hn : n ≤ 1000) {xs : List Int} (hx : Dr xs)
    (hi : it (some (.own true (.lst (zs xs))) :: rest) = .ok ((List.range n).map fun (k : Nat) => PyData.int (k : Int)) (some (.own true (.lst (zs xs))) :: rest)) (ho : (ow.all fun i => !isOwn (some (.own true (.lst (zs xs))) :: rest)[i]?) = true)
    (h : ∀ d ys, Dr ys → ∃ a ys', cstep ow b tTrue elt d (some (.own true (.lst (zs ys))) :: rest) = some (some (.int a), some (.own true (.lst (zs ys'))) :: rest) ∧ q a ∧ Dr ys' ∧ ys'.length ≤ ys.length) :
    ∃ as ys, xComp it ow b tTrue elt (some (.own true (.lst (zs xs))) :: rest) = .ok (.lst (zs as)) (some (.own true (.lst (zs ys))) :: rest) ∧ as.length = n ∧ (∀ a ∈ as, q a) ∧ Dr ys ∧ ys.length ≤ xs.length := by
  obtain ⟨es, ρ', h1, ⟨ys, rfl, h2, h3⟩, h4⟩ := xComp_inv (fun ρ => ∃ ys, ρ = some (.own true (.lst (zs ys))) :: rest ∧ Dr ys ∧ ys.length ≤ xs.length) (fun _ z => ∃ a, z = .int a ∧ q a) hi ho (by rw [sizeLine_eq]; simp; omega) ⟨xs, rfl, hx, Nat.le_refl _⟩ (fun d _ ρ ⟨ys, e, g1, g2⟩ => by
    subst e
    obtain ⟨a, ys', k1, k2, k3, k4⟩ := h d ys g1
    exact ⟨_, _, k1, ⟨ys', rfl, k3, by omega⟩, a, rfl, k2⟩)
  have : ∃ as : List Int, es = zs as ∧ ∀ a ∈ as, q a := by
    have hr := All2.right (Q := fun z => ∃ a, z = PyData.int a ∧ q a) h4 fun _ _ h => h
    clear h4 h1
    induction es with
    | nil => exact ⟨[], rfl, fun a h => by simp at h⟩
    | cons z es ih =>
      obtain ⟨a, rfl, ha⟩ := hr z List.mem_cons_self
      obtain ⟨as, rfl, has⟩ := ih fun y hy => hr y (List.mem_cons_of_mem _ hy)
      exact ⟨a :: as, rfl, fun x hx => by rcases List.mem_cons.mp hx with rfl | hx; exact ha; exact has x hx⟩
  obtain ⟨as, rfl, has⟩ := this
  refine ⟨as, ys, h1, ?_, has, h2, h3⟩
  have := h4.len
  simpa using this.symm
theorem vector_eq {xs : List Int} (hx : Dr xs) (n : Nat) (hn : n ≤ 1000) (lo hi : Int) (hlh : lo ≤ hi) : ∃ as ys, f_u_law_vector (zs xs) [.int (n : Int), .int lo, .int hi] = some (.val (vec as), zs ys) ∧ as.length = n ∧ (∀ a ∈ as, lo ≤ a ∧ a ≤ hi) ∧ Dr ys ∧ ys.length ≤ xs.length := by
  unfold f_u_law_vector
  obtain ⟨as, ys, h1, h2, h3, h4, h5⟩ := vec_comp (ow := [4]) (b := bName 4) (it := DL.iRange1 (aCons (xVar 1) aNil)) (elt := x2 kAdd (xVar 2) (x2 kMod (xCB kInt (aCons (xCallI f_u_law_next (aCons (xVar 0) aNil)) aNil)) (x2 kAdd (x2 kSub (xVar 3) (xVar 2)) (xC (.int 1)))))
    (fun a => lo ≤ a ∧ a ≤ hi) [some (.val (.int (n : Int))), some (.val (.int lo)), some (.val (.int hi)), none] n hn hx (iRange1_nat (by simp) (by omega)) (by simp) (fun d ys hy => by
      obtain ⟨u, w, n1, a1, a2, a3, l1⟩ := next_ex hy
      have f1 := fmod_pos (a := u) (b := hi - lo + 1) (by omega)
      have f2 : ¬ hi - lo + 1 = 0 := by omega
      refine ⟨lo + u.fmod (hi - lo + 1), w, ?_, by omega, a3, l1⟩
      simp [n1, f2])
  refine ⟨as, ys, ?_, h2, h3, h4, h5⟩
  rw [runI_out]
  simp [b_u_law_vector, startI, startD, h1]
/-- a matrix such as _law_any draws -/
structure AnyM (M : List (List Int)) (m : Nat) : Prop where
  r1 : 1 ≤ M.length
  r3 : M.length ≤ 3
  c1 : 1 ≤ m
  c6 : m ≤ 6
  row : ∀ r ∈ M, r.length = m
  ent : ∀ r ∈ M, ∀ n ∈ r, -9 ≤ n ∧ n ≤ 9
theorem any_comp (m : Nat) (hm : m ≤ 6) (w : Int) (hw : w = 2 ∨ w = 5 ∨ w = 19) (r : Nat) (hr : r ≤ 3) {xs : List Int} (hx : Dr xs) (it : DEnv → Res (List D))
    (hi : it [some (.own true (.lst (zs xs))), some (.val (.int (m : Int))), some (.val (.int w)), none, none] = .ok ((List.range r).map fun (k : Nat) => PyData.int (k : Int)) [some (.own true (.lst (zs xs))), some (.val (.int (m : Int))), some (.val (.int w)), none, none]) :
    ∃ (M : List (List Int)) (ys : List Int), xComp it [3] (bName 3) tTrue (xCB kTuple (aCons (ofL (xComp (DL.iRange1 (aCons (xVar 1) (aNil))) [4] (bName 4) (tTrue) (x2 kSub (x2 kMod (xCB kInt (aCons (xCallI f_u_law_next (aCons (xVar 0) (aNil))) (aNil))) (xVar 2)) (x2 kDiv (xVar 2) (xC (.int 2)))))) (aNil)))
      [some (.own true (.lst (zs xs))), some (.val (.int (m : Int))), some (.val (.int w)), none, none] = .ok (.lst (M.map vec)) [some (.own true (.lst (zs ys))), some (.val (.int (m : Int))), some (.val (.int w)), none, none] ∧
      M.length = r ∧ (∀ q ∈ M, q.length = m ∧ ∀ n ∈ q, -9 ≤ n ∧ n ≤ 9) ∧ Dr ys ∧ ys.length ≤ xs.length := by
  obtain ⟨es, ρ', h1, ⟨ys, rfl, h2, h3⟩, h4⟩ := xComp_inv (ow := [3]) (bind := bName 3) (test := tTrue) (elt := xCB kTuple (aCons (ofL (xComp (DL.iRange1 (aCons (xVar 1) (aNil))) [4] (bName 4) (tTrue) (x2 kSub (x2 kMod (xCB kInt (aCons (xCallI f_u_law_next (aCons (xVar 0) (aNil))) (aNil))) (xVar 2)) (x2 kDiv (xVar 2) (xC (.int 2)))))) (aNil)))
    (fun ρ => ∃ ys, ρ = [some (.own true (.lst (zs ys))), some (.val (.int (m : Int))), some (.val (.int w)), none, none] ∧ Dr ys ∧ ys.length ≤ xs.length) (fun _ z => ∃ q : List Int, z = vec q ∧ q.length = m ∧ ∀ n ∈ q, -9 ≤ n ∧ n ≤ 9) hi (by simp) (by rw [sizeLine_eq]; simp; omega) ⟨xs, rfl, hx, Nat.le_refl _⟩ (fun d _ ρ ⟨ys, e, g1, g2⟩ => by
    subst e
    obtain ⟨as, ys', k1, k2, k3, k4, k5⟩ := vec_comp (ow := [4]) (b := bName 4) (it := DL.iRange1 (aCons (xVar 1) aNil)) (elt := x2 kSub (x2 kMod (xCB kInt (aCons (xCallI f_u_law_next (aCons (xVar 0) (aNil))) (aNil))) (xVar 2)) (x2 kDiv (xVar 2) (xC (.int 2))))
      (fun a => -9 ≤ a ∧ a ≤ 9) [some (.val (.int (m : Int))), some (.val (.int w)), some (.val d), none] m (by omega) g1 (iRange1_nat (by simp) (by omega)) (by simp) (fun d2 ys hy => by
        obtain ⟨u, w', n1, a1, a2, a3, l1⟩ := next_ex hy
        have f0 : ¬ w = 0 := by omega
        have f1 := fmod_pos (a := u) (b := w) (by omega)
        have f2 : w.fdiv 2 = 1 ∨ w.fdiv 2 = 2 ∨ w.fdiv 2 = 9 := by rcases hw with rfl | rfl | rfl <;> decide
        have f3 : -9 ≤ u.fmod w - w.fdiv 2 ∧ u.fmod w - w.fdiv 2 ≤ 9 := by
          rcases hw with rfl | rfl | rfl
          · have : (2 : Int).fdiv 2 = 1 := by decide
            omega
          · have : (5 : Int).fdiv 2 = 2 := by decide
            omega
          · have : (19 : Int).fdiv 2 = 9 := by decide
            omega
        refine ⟨u.fmod w - w.fdiv 2, w', ?_, f3, a3, l1⟩
        simp [n1, f0, dk2])
    refine ⟨vec as, [some (.own true (.lst (zs ys'))), some (.val (.int (m : Int))), some (.val (.int w)), none, none], ?_, ⟨ys', rfl, k4, by omega⟩, as, rfl, k2, k3⟩
    simp [k1])
  have : ∃ M : List (List Int), es = M.map vec ∧ ∀ q ∈ M, q.length = m ∧ ∀ n ∈ q, -9 ≤ n ∧ n ≤ 9 := by
    have hr := All2.right (Q := fun z => ∃ q : List Int, z = vec q ∧ q.length = m ∧ ∀ n ∈ q, -9 ≤ n ∧ n ≤ 9) h4 fun _ _ h => h
    clear h4 h1
    induction es with
    | nil => exact ⟨[], rfl, fun a h => by simp at h⟩
    | cons z es ih =>
      obtain ⟨a, rfl, ha⟩ := hr z List.mem_cons_self
      obtain ⟨as, rfl, has⟩ := ih fun y hy => hr y (List.mem_cons_of_mem _ hy)
      exact ⟨a :: as, rfl, fun x hx => by rcases List.mem_cons.mp hx with rfl | hx; exact ha; exact has x hx⟩
  obtain ⟨M, rfl, hM⟩ := this
  refine ⟨M, ys, h1, ?_, hM, h2, h3⟩
  have := h4.len
  simpa using this.symm
theorem any_eq {xs : List Int} (hx : Dr xs) : ∃ M m ys, f_u_law_any (zs xs) [] = some (.val (mtx M), zs ys) ∧ AnyM M m ∧ Dr ys ∧ ys.length ≤ xs.length := by
  unfold f_u_law_any
  obtain ⟨u, w1, n1, a1, a2, a3, l1⟩ := next_ex hx
  obtain ⟨v, w2, n2, b1, b2, b3, l2⟩ := next_ex a3
  obtain ⟨t, w3, n3, c1, c2, c3, l3⟩ := next_ex b3
  have f1 := fmod_pos (a := u) (b := 6) (by decide)
  have f2 := fmod_pos (a := v) (b := 3) (by decide)
  have f3 := fmod_pos (a := t) (b := 3) (by decide)
  obtain ⟨m, hm⟩ : ∃ m : Nat, (m : Int) = 1 + u.fmod 6 := ⟨(1 + u.fmod 6).toNat, by omega⟩
  obtain ⟨r, hr⟩ : ∃ r : Nat, (r : Int) = 1 + t.fmod 3 := ⟨(1 + t.fmod 3).toNat, by omega⟩
  obtain ⟨w, hw, ew⟩ : ∃ w : Int, (w = 2 ∨ w = 5 ∨ w = 19) ∧ atI [PyData.int 2, .int 5, .int 19] (v.fmod 3) = some (.int w) := by
    have : v.fmod 3 = 0 ∨ v.fmod 3 = 1 ∨ v.fmod 3 = 2 := by omega
    rcases this with h | h | h <;> rw [h]
    · exact ⟨2, by simp, by simp⟩
    · exact ⟨5, by simp, by simp [atI, ixN]⟩
    · exact ⟨19, by simp, by simp [atI, ixN]⟩
  obtain ⟨M, ys, h1, h2, h3, h4, h5⟩ := any_comp m (by omega) w hw r (by omega) (xs := w3) c3 (fun ρ => .ok ((List.range r).map fun (k : Nat) => PyData.int (k : Int)) ρ) rfl
  have hit : DL.iRange1 (aCons (x2 kAdd (xC (.int 1)) (x2 kMod (xCB kInt (aCons (xCallI f_u_law_next (aCons (xVar 0) (aNil))) (aNil))) (xC (.int 3)))) (aNil)) [some (.own true (.lst (zs w2))), some (.val (.int (m : Int))), some (.val (.int w)), none, none] =
      .ok ((List.range r).map fun (k : Nat) => PyData.int (k : Int)) [some (.own true (.lst (zs w3))), some (.val (.int (m : Int))), some (.val (.int w)), none, none] := by
    refine iRange1_nat ?_ (by omega)
    simp [n3, hr]
  have hall : ∀ (elt : DX), xComp (DL.iRange1 (aCons (x2 kAdd (xC (.int 1)) (x2 kMod (xCB kInt (aCons (xCallI f_u_law_next (aCons (xVar 0) (aNil))) (aNil))) (xC (.int 3)))) (aNil))) [3] (bName 3) tTrue elt [some (.own true (.lst (zs w2))), some (.val (.int (m : Int))), some (.val (.int w)), none, none] =
      xComp (fun ρ => .ok ((List.range r).map fun (k : Nat) => PyData.int (k : Int)) ρ) [3] (bName 3) tTrue elt [some (.own true (.lst (zs w3))), some (.val (.int (m : Int))), some (.val (.int w)), none, none] := fun elt => by
    rw [xComp_of hit (by simp), xComp_of rfl (by simp)]
  refine ⟨M, m, ys, ?_, ⟨by omega, by omega, by omega, by omega, fun q hq => (h3 q hq).1, fun q hq => (h3 q hq).2⟩, h4, by omega⟩
  rw [runI_out]
  simp [b_u_law_any, startI, startD, n1, n2, ← hm, ew, hall, h1]
end K00

namespace K00
open L2 PySem PySem.Spec PyProof.Rows DL
def S0 : DSt := gSetL 1 (xCallL f_u_law_draws (aCons (xVar 0) (aNil)))
def S1 : DSt := gExpr (xM 1 mReverse aNil)
def S2 : DSt := gSetL 1 (xCallIL f_u_law_more (aCons (xVar 1) (aCons (xC (.int 120)) (aNil))))
def S3 : DSt := gSet 2 (xCallI f_u_law_any (aCons (xVar 1) (aNil)))
def S4 : DSt := gPar 3 4 (aCons (xCB kLen (aCons (xVar 2) (aNil))) (aCons (xCB kLen (aCons (x2 kIx (xVar 2) (xC (.int 0))) (aNil))) (aNil)))
def S5 : DSt := gIf (xtOr (xt2 kIsNot (xCall f_is_matrix (aCons (xVar 2) (aNil))) (xC (.bool true))) (xt2 kNe (xCB kRepr (aCons (ofL (xLst (aCons (xCall f_u_law_told (aCons (xC (.int 3)) (aCons (xVar 2) (aCons (xTup (aNil)) (aCons (xTup (aNil)) (aNil)))))) (aCons (xCall f_u_law_told (aCons (xC (.int 4)) (aCons (xVar 2) (aCons (xTup (aNil)) (aCons (xTup (aNil)) (aNil)))))) (aNil))))) (aNil))) (xCB kRepr (aCons (ofL (xLst (aCons (xC .none) (aCons (xCall f_u_law_columns (aCons (xVar 2) (aNil))) (aNil))))) (aNil))))) (gRet (xC (.bool false))) (gNext)
def S6 : DSt := gSet 5 (x2 kIx (xVar 2) (xC (.int 0)))
def S7 : DSt := gSet 6 (ofL (xLst (aCons (xTup (aNil)) (aCons (x2 kAdd (xVar 2) (x2 kMulT (xTup (aCons (xVar 5) (aNil))) (xC (.int 3)))) (aCons (x2 kAdd (x2 kMulT (xTup (aCons (xCut (xVar 5) (pSome (xC (.int 1))) (pNo)) (aNil))) (xC (.int 3))) (xTup (aCons (xVar 5) (aNil)))) (aCons (x2 kAdd (xTup (aCons (x2 kAdd (xTup (aCons (xC (.int 10)) (aNil))) (xCut (xVar 5) (pSome (xC (.int 1))) (pNo))) (aNil))) (xCut (xVar 2) (pSome (xC (.int 1))) (pNo))) (aCons (xTup (aCons (x2 kAdd (xTup (aCons (x1 kNeg (xC (.int 10))) (aNil))) (xCut (xVar 5) (pSome (xC (.int 1))) (pNo))) (aNil))) (aCons (xTup (aCons (x2 kMulT (xTup (aCons (xC (.int 0)) (aNil))) (xC (.int 7))) (aNil))) (aCons (xTup (aCons (xTup (aNil)) (aNil))) (aCons (xTup (aCons (x2 kAdd (xVar 5) (x2 kMulT (xTup (aCons (xC (.int 0)) (aNil))) (xC (.int 6)))) (aNil))) (aNil)))))))))))
def S8 : DSt := gFor (iSeq (xVar 6)) (bName 7) (gIf (xtOr (xt2 kIsNot (xCall f_is_matrix (aCons (xVar 7) (aNil))) (xC (.bool false))) (xtOr (xt2 kNe (ofL (xComp (iRange1 (aCons (xC (.int 8)) (aNil))) [15] (bName 15) (tTrue) (xCall f_u_law_told (aCons (xVar 15) (aCons (xVar 7) (aCons (xTup (aNil)) (aCons (xTup (aNil)) (aNil)))))))) (ofL (xRepL (xLst (aCons (xC (.str "!matrix")) (aNil))) (xC (.int 8))))) (xt2 kNe (xCall f_u_law_before (aCons (xVar 7) (aCons (xTup (aNil)) (aCons (xTup (aNil)) (aCons (xTup (aNil)) (aNil)))))) (xC (.str "!matrix"))))) (gRet (xC (.bool false))) (gNext))
def S9 : DSt := gSet 8 (xCallI f_u_law_vector (aCons (xVar 1) (aCons (xVar 3) (aCons (x1 kNeg (xC (.int 30))) (aCons (xC (.int 30)) (aNil))))))
def S10 : DSt := gSet 9 (xCallI f_u_law_vector (aCons (xVar 1) (aCons (xVar 4) (aCons (x1 kNeg (xC (.int 50))) (aCons (xC (.int 50)) (aNil))))))
def S11 : DSt := gAsg (xTup (aCons (xCallI f_u_law_vector (aCons (xVar 1) (aCons (xVar 4) (aCons (x1 kNeg (xC (.int 2))) (aCons (xC (.int 6)) (aNil)))))) (aCons (xCallI f_u_law_vector (aCons (xVar 1) (aCons (xVar 4) (aCons (x1 kNeg (xC (.int 2))) (aCons (xC (.int 6)) (aNil)))))) (aNil)))) (bTup (bCons (bName 7) (bCons (bName 10) (bNil))))
def S12 : DSt := gIf (xt2 kEq (x2 kMod (xCB kInt (aCons (xCallI f_u_law_next (aCons (xVar 1) (aNil))) (aNil))) (xC (.int 2))) (xC (.int 0))) (gSet 8 (xCall f_u_law_image (aCons (xVar 2) (aCons (xVar 7) (aNil))))) (gNext)
def S13 : DSt := gIf (xt2 kNe (xCB kRepr (aCons (ofL (xLst (aCons (xCall f_is_side (aCons (xVar 2) (aCons (xVar 8) (aNil)))) (aCons (xCall f_is_vector (aCons (xVar 2) (aCons (xVar 7) (aNil)))) (aCons (xCall f_is_cost (aCons (xVar 2) (aCons (xVar 9) (aNil)))) (aNil)))))) (aNil))) (xCB kRepr (aCons (ofL (xRepL (xLst (aCons (xC (.bool true)) (aNil))) (xC (.int 3)))) (aNil)))) (gRet (xC (.bool false))) (gNext)
def S14 : DSt := gSet 11 (ofL (xLst (aCons (x2 kMulT (xTup (aCons (xC (.int 1000000)) (aNil))) (xVar 3)) (aCons (x2 kMulT (xTup (aCons (x1 kNeg (xC (.int 1000000))) (aNil))) (xVar 3)) (aCons (x2 kAdd (xTup (aCons (xC (.int 1000001)) (aNil))) (xCut (xVar 8) (pSome (xC (.int 1))) (pNo))) (aCons (x2 kAdd (xVar 8) (xTup (aCons (xC (.int 0)) (aNil)))) (aCons (xCut (xVar 8) (pSome (xC (.int 1))) (pNo)) (aCons (x2 kAdd (xTup (aCons (x1 kNeg (xC (.int 1000001))) (aNil))) (xCut (xVar 8) (pSome (xC (.int 1))) (pNo))) (aNil)))))))))
def S15 : DSt := gIf (xt2 kNe (ofL (xComp (iSeq (xVar 11)) [16] (bName 16) (tTrue) (xCall f_is_side (aCons (xVar 2) (aCons (xVar 16) (aNil)))))) (ofL (xLst (aCons (xC (.bool true)) (aCons (xC (.bool true)) (aCons (xC (.bool false)) (aCons (xC (.bool false)) (aCons (xC (.bool false)) (aCons (xC (.bool false)) (aNil)))))))))) (gRet (xC (.bool false))) (gNext)
def S16 : DSt := gIf (xt2 kNe (ofL (xComp (iSeq (ofL (xLst (aCons (x2 kMulT (xTup (aCons (xC (.int 50)) (aNil))) (xVar 4)) (aCons (x2 kAdd (xTup (aCons (xC (.int 51)) (aNil))) (xCut (xVar 9) (pSome (xC (.int 1))) (pNo))) (aCons (x2 kAdd (xTup (aCons (x1 kNeg (xC (.int 51))) (aNil))) (xCut (xVar 9) (pSome (xC (.int 1))) (pNo))) (aCons (x2 kAdd (xVar 9) (xTup (aCons (xC (.int 0)) (aNil)))) (aNil)))))))) [16] (bName 16) (tTrue) (xCall f_is_cost (aCons (xVar 2) (aCons (xVar 16) (aNil)))))) (ofL (xLst (aCons (xC (.bool true)) (aCons (xC (.bool false)) (aCons (xC (.bool false)) (aCons (xC (.bool false)) (aNil)))))))) (gRet (xC (.bool false))) (gNext)
def S17 : DSt := gIf (xt2 kNe (ofL (xComp (iSeq (ofL (xLst (aCons (x2 kMulT (xTup (aCons (x2 kPow (xC (.int 10)) (xC (.int 30))) (aNil))) (xVar 4)) (aCons (x2 kAdd (xVar 7) (xTup (aCons (xC (.int 0)) (aNil)))) (aCons (xCut (xVar 7) (pSome (xC (.int 1))) (pNo)) (aNil))))))) [16] (bName 16) (tTrue) (xCall f_is_vector (aCons (xVar 2) (aCons (xVar 16) (aNil)))))) (ofL (xLst (aCons (xC (.bool true)) (aCons (xC (.bool false)) (aCons (xC (.bool false)) (aNil))))))) (gRet (xC (.bool false))) (gNext)
def S18 : DSt := gIf (xtOr (xt2 kNe (xCB kRepr (aCons (xCall f_u_law_told (aCons (xC (.int 5)) (aCons (xVar 2) (aCons (xVar 7) (aCons (xTup (aNil)) (aNil)))))) (aNil))) (xCB kRepr (aCons (xCall f_u_law_image (aCons (xVar 2) (aCons (xVar 7) (aNil)))) (aNil)))) (xt2 kNe (xCB kRepr (aCons (xCall f_u_law_told (aCons (xC (.int 7)) (aCons (xVar 2) (aCons (xVar 9) (aCons (xVar 7) (aNil)))))) (aNil))) (xCB kRepr (aCons (xCall f_u_law_dot (aCons (xVar 9) (aCons (xVar 7) (aNil)))) (aNil))))) (gRet (xC (.bool false))) (gNext)
def S19 : DSt := gIf (xt2 kNe (xCB kRepr (aCons (xCall f_u_law_told (aCons (xC (.int 6)) (aCons (xVar 2) (aCons (xVar 8) (aCons (xVar 7) (aNil)))))) (aNil))) (xCB kRepr (aCons (xAnd (x2 (kB kGe) (xCB kMin (aCons (xVar 7) (aNil))) (xC (.int 0))) (x2 (kB kEq) (xCall f_u_law_image (aCons (xVar 2) (aCons (xVar 7) (aNil)))) (xVar 8))) (aNil)))) (gRet (xC (.bool false))) (gNext)
def S20 : DSt := gFor (iSeq (ofL (xLst (aCons (xTup (aCons (xVar 7) (aCons (xVar 10) (aNil)))) (aCons (xTup (aCons (xVar 10) (aCons (xVar 7) (aNil)))) (aCons (xTup (aCons (xVar 7) (aCons (xVar 7) (aNil)))) (aNil))))))) (bTup (bCons (bName 12) (bCons (bName 13) (bNil)))) (gIf (xt2 kNe (xCB kRepr (aCons (xCall f_u_law_before (aCons (xVar 2) (aCons (xVar 9) (aCons (xVar 12) (aCons (xVar 13) (aNil)))))) (aNil))) (xCB kRepr (aCons (x2 (kB kLt) (xCall f_u_law_key (aCons (xVar 9) (aCons (xVar 12) (aNil)))) (xCall f_u_law_key (aCons (xVar 9) (aCons (xVar 13) (aNil))))) (aNil)))) (gRet (xC (.bool false))) (gNext))
def S21 : DSt := gSet 14 (ofL (xLst (aCons (xCall f_u_law_told (aCons (xC (.int 0)) (aCons (xVar 2) (aCons (x2 kAdd (xVar 8) (xTup (aCons (xC (.int 0)) (aNil)))) (aCons (xTup (aNil)) (aNil)))))) (aCons (xCall f_u_law_told (aCons (xC (.int 1)) (aCons (xVar 2) (aCons (x2 kAdd (xVar 7) (xTup (aCons (xC (.int 0)) (aNil)))) (aCons (xTup (aNil)) (aNil)))))) (aCons (xCall f_u_law_told (aCons (xC (.int 2)) (aCons (xVar 2) (aCons (x2 kAdd (xVar 9) (xTup (aCons (xC (.int 0)) (aNil)))) (aCons (xTup (aNil)) (aNil)))))) (aCons (xCall f_u_law_told (aCons (xC (.int 5)) (aCons (xVar 2) (aCons (xTup (aNil)) (aCons (xTup (aNil)) (aNil)))))) (aNil)))))))
def S22 : DSt := gSet 14 (ofL (x2L kAddL (xVar 14) (ofL (xLst (aCons (xCall f_u_law_told (aCons (xC (.int 6)) (aCons (xVar 2) (aCons (xTup (aNil)) (aCons (xTup (aNil)) (aNil)))))) (aCons (xCall f_u_law_told (aCons (xC (.int 6)) (aCons (xVar 2) (aCons (xVar 8) (aCons (xTup (aNil)) (aNil)))))) (aCons (xCall f_u_law_told (aCons (xC (.int 7)) (aCons (xVar 2) (aCons (xTup (aNil)) (aCons (xTup (aNil)) (aNil)))))) (aCons (xCall f_u_law_told (aCons (xC (.int 7)) (aCons (xVar 2) (aCons (xVar 9) (aCons (xTup (aNil)) (aNil)))))) (aNil)))))))))
def S23 : DSt := gSet 14 (ofL (x2L kAddL (xVar 14) (ofL (xLst (aCons (xCall f_u_law_before (aCons (xVar 2) (aCons (xTup (aNil)) (aCons (xTup (aNil)) (aCons (xTup (aNil)) (aNil)))))) (aCons (xCall f_u_law_before (aCons (xVar 2) (aCons (xVar 9) (aCons (xTup (aNil)) (aCons (xTup (aNil)) (aNil)))))) (aCons (xCall f_u_law_before (aCons (xVar 2) (aCons (xVar 9) (aCons (xVar 7) (aCons (xTup (aNil)) (aNil)))))) (aNil))))))))
def S24 : DSt := gRet (x2 (kB kEq) (xVar 14) (ofL (xLst (aCons (xC (.str "!side")) (aCons (xC (.str "!vector")) (aCons (xC (.str "!cost")) (aCons (xC (.str "!vector")) (aCons (xC (.str "!side")) (aCons (xC (.str "!vector")) (aCons (xC (.str "!cost")) (aCons (xC (.str "!vector")) (aCons (xC (.str "!cost")) (aCons (xC (.str "!vector")) (aCons (xC (.str "!vector")) (aNil)))))))))))))))
theorem b_law_eq : b_law = gSeq S0 (gSeq S1 (gSeq S2 (gSeq S3 (gSeq S4 (gSeq S5 (gSeq S6 (gSeq S7 (gSeq S8 (gSeq S9 (gSeq S10 (gSeq S11 (gSeq S12 (gSeq S13 (gSeq S14 (gSeq S15 (gSeq S16 (gSeq S17 (gSeq S18 (gSeq S19 (gSeq S20 (gSeq S21 (gSeq S22 (gSeq S23 (S24)))))))))))))))))))))))) := rfl
theorem st0 {d : D} {xs : List Int} (h : f_u_law_draws [d] = .ok (.own (.lst (zs xs)))) : S0 [some (.val (d)), none, none, none, none, none, none, none, none, none, none, none, none, none, none, none, none] = .nx [some (.val (d)), some (.own false (.lst (zs xs))), none, none, none, none, none, none, none, none, none, none, none, none, none, none, none] := by simp [S0, h]
theorem st1 {s : Option SV} {xs : List Int} : S1 [s, some (.own false (.lst (zs xs))), none, none, none, none, none, none, none, none, none, none, none, none, none, none, none] = .nx [s, some (.own false (.lst (zs xs.reverse))), none, none, none, none, none, none, none, none, none, none, none, none, none, none, none] := by simp [S1, List.map_reverse]
theorem st2 {s : Option SV} {xs ys ys' : List Int} (h : f_u_law_more (zs xs) [.int 120] = some (.own (.lst (zs ys)), zs ys')) : S2 [s, some (.own false (.lst (zs xs))), none, none, none, none, none, none, none, none, none, none, none, none, none, none, none] = .nx [s, some (.own false (.lst (zs ys))), none, none, none, none, none, none, none, none, none, none, none, none, none, none, none] := by simp [S2, h]
theorem st3 {s : Option SV} {xs ys : List Int} {M : List (List Int)} (h : f_u_law_any (zs xs) [] = some (.val (mtx M), zs ys)) : S3 [s, some (.own false (.lst (zs xs))), none, none, none, none, none, none, none, none, none, none, none, none, none, none, none] = .nx [s, some (.own false (.lst (zs ys))), some (.val (mtx M)), none, none, none, none, none, none, none, none, none, none, none, none, none, none] := by simp [S3, h]
theorem st4 {s : Option SV} {xs : List Int} {M : List (List Int)} {r0 : List Int} {m : Nat} (h : atI (M.map vec) 0 = some (vec r0)) (hm : r0.length = m) : S4 [s, some (.own false (.lst (zs xs))), some (.val (mtx M)), none, none, none, none, none, none, none, none, none, none, none, none, none, none] = .nx [s, some (.own false (.lst (zs xs))), some (.val (mtx M)), some (.val (.int (M.length : Int))), some (.val (.int (m : Int))), none, none, none, none, none, none, none, none, none, none, none, none] := by simp [S4, h, hm]
theorem st5 {s : Option SV} {xs : List Int} {M : List (List Int)} {m : Nat} {cs : List D} {z : Str} (h1 : f_is_matrix [mtx M] = .ok (.val (.bool true))) (h2 : f_u_law_told [.int 3, mtx M, .tuple [], .tuple []] = .ok (.val .none)) (h3 : f_u_law_told [.int 4, mtx M, .tuple [], .tuple []] = .ok (.val (.list cs)))
    (h4 : f_u_law_columns [mtx M] = .ok (.own (.lst cs))) (h5 : kRepr [.list [.none, .list cs]] = some (.str z)) : S5 [s, some (.own false (.lst (zs xs))), some (.val (mtx M)), some (.val (.int (M.length : Int))), some (.val (.int (m : Int))), none, none, none, none, none, none, none, none, none, none, none, none] = .nx [s, some (.own false (.lst (zs xs))), some (.val (mtx M)), some (.val (.int (M.length : Int))), some (.val (.int (m : Int))), none, none, none, none, none, none, none, none, none, none, none, none] := by
  simp [S5, h1, h2, h3, h4, h5]
theorem st6 {s : Option SV} {xs : List Int} {M : List (List Int)} {r0 : List Int} {m : Nat} (h : atI (M.map vec) 0 = some (vec r0)) : S6 [s, some (.own false (.lst (zs xs))), some (.val (mtx M)), some (.val (.int (M.length : Int))), some (.val (.int (m : Int))), none, none, none, none, none, none, none, none, none, none, none, none] = .nx [s, some (.own false (.lst (zs xs))), some (.val (mtx M)), some (.val (.int (M.length : Int))), some (.val (.int (m : Int))), some (.val (vec r0)), none, none, none, none, none, none, none, none, none, none, none] := by simp [S6, h]
theorem kCut_tail {ds : List D} : kCut (.tuple ds) (some 1) none = some (.tuple (ds.drop 1)) := by
  show some (PyData.tuple (DL.cutD ds (some 1) none)) = _
  unfold DL.cutD
  cases ds with
  | nil => rfl
  | cons d ds => simp [HT.sIx]
@[simp] theorem pSome_ap {f : DX} {ρ : DEnv} : pSome f ρ = bindR (f ρ) fun v ρ1 => match deref ρ1 v with
  | some (.int i) => .ok (some i) ρ1
  | _ => .bad := (Eq.refl _).trans (Eq.refl _)
@[simp] theorem xCut_ap {fa : DX} {fl fh : DEnv → Res (Option Int)} {ρ : DEnv} : xCut fa fl fh ρ = bindR (fa ρ) fun a ρ1 => bindR (fl ρ1) fun lo ρ2 => bindR (fh ρ2) fun hi ρ3 => optR (deref ρ3 a) fun d => optR (kCut d lo hi) fun z => .ok (.val z) ρ3 := (Eq.refl _).trans (Eq.refl _)
def wrongs (M : List (List Int)) (r0 : List Int) : List (List (List Int)) := [[], M ++ [r0, r0, r0], [r0.drop 1, r0.drop 1, r0.drop 1, r0], (10 :: r0.drop 1) :: M.drop 1, [(-10) :: r0.drop 1], [[0, 0, 0, 0, 0, 0, 0]], [[]], [r0 ++ [0, 0, 0, 0, 0, 0]]]
theorem st7 {s : Option SV} {xs : List Int} {M : List (List Int)} {r0 : List Int} {m : Nat} (h1 : M.length ≤ 3) (h2 : r0.length ≤ 6) : S7 [s, some (.own false (.lst (zs xs))), some (.val (mtx M)), some (.val (.int (M.length : Int))), some (.val (.int (m : Int))), some (.val (vec r0)), none, none, none, none, none, none, none, none, none, none, none] = .nx [s, some (.own false (.lst (zs xs))), some (.val (mtx M)), some (.val (.int (M.length : Int))), some (.val (.int (m : Int))), some (.val (vec r0)), some (.val (.list ((wrongs M r0).map mtx))), none, none, none, none, none, none, none, none, none, none] := by
  have e1 : M.length + 3 ≤ 16777216 := by omega
  have e2 : 1 + (r0.length - 1) ≤ 16777216 := by omega
  have e3 : 1 + (M.length - 1) ≤ 16777216 := by omega
  have e4 : r0.length + 6 ≤ 16777216 := by omega
  simp [S7, kCut_tail, e1, e2, e3, e4, wrongs, List.replicate, List.map_drop]
theorem told_all {B : List (List Int)} (h : Sm B) (hm : isMat B = false) : ∀ k : Nat, k < 8 → f_u_law_told [.int (k : Int), mtx B, .tuple [], .tuple []] = .ok (.val (.str "!matrix")) := by
  intro k hk
  have e : (PyData.tuple [] : D) = vec [] := rfl
  have c0 : f_check_matrix [mtx B] = .err nm := by rw [check_matrix_eq h, hm]; rfl
  rw [e]
  have hk' : k = 0 ∨ k = 1 ∨ k = 2 ∨ k = 3 ∨ k = 4 ∨ k = 5 ∨ k = 6 ∨ k = 7 := by omega
  rcases hk' with rfl | rfl | rfl | rfl | rfl | rfl | rfl | rfl
  · exact told0_err (by rw [check_side_eq h (by simp), hm]; rfl) hk1
  · exact told1_err (by rw [check_vector_eq h, hm]; rfl) hk1
  · exact told2_err (by rw [check_cost_eq h (by simp), hm]; rfl) hk1
  · exact told3_err c0 hk1
  · exact told4_err (by rw [columns_eq h, hm]; rfl) hk1
  · exact told5_err (by rw [image_eq h (fun q => by rw [hm] at q; cases q), hm]; rfl) hk1
  · exact told6_err (by rw [is_solution_eq h (by simp) (fun q => by rw [hm] at q; cases q), hm]; rfl) hk1
  · exact told7_err (by rw [price_eq h (by simp) (fun q => by rw [hm] at q; cases q), hm]; rfl) hk1
theorem before_wrong {B : List (List Int)} (h : Sm B) (hm : isMat B = false) : f_u_law_before [mtx B, .tuple [], .tuple [], .tuple []] = .ok (.val (.str "!matrix")) := by
  have e : (PyData.tuple [] : D) = vec [] := rfl
  rw [e]
  exact before_err (by rw [comes_before_eq h (by simp) (fun q => by rw [hm] at q; cases q), hm]; rfl) hk1
theorem ne_mat : kNe (.list ((List.range 8).map fun _ => PyData.str "!matrix")) (.list (List.replicate 8 [PyData.str "!matrix"]).flatten) = some false := by decide +kernel
theorem st8b {s : Option SV} {xs : List Int} {M : List (List Int)} {r0 : List Int} {m : Nat} {B : List (List Int)} (h : Sm B) (hm : isMat B = false) :
    (gIf (xtOr (xt2 kIsNot (xCall f_is_matrix (aCons (xVar 7) (aNil))) (xC (.bool false))) (xtOr (xt2 kNe (ofL (xComp (iRange1 (aCons (xC (.int 8)) (aNil))) [15] (bName 15) (tTrue) (xCall f_u_law_told (aCons (xVar 15) (aCons (xVar 7) (aCons (xTup (aNil)) (aCons (xTup (aNil)) (aNil)))))))) (ofL (xRepL (xLst (aCons (xC (.str "!matrix")) (aNil))) (xC (.int 8))))) (xt2 kNe (xCall f_u_law_before (aCons (xVar 7) (aCons (xTup (aNil)) (aCons (xTup (aNil)) (aCons (xTup (aNil)) (aNil)))))) (xC (.str "!matrix"))))) (gRet (xC (.bool false))) (gNext)) [s, some (.own false (.lst (zs xs))), some (.val (mtx M)), some (.val (.int (M.length : Int))), some (.val (.int (m : Int))), some (.val (vec r0)), some (.val (.list ((wrongs M r0).map mtx))), some (.val (mtx B)), none, none, none, none, none, none, none, none, none] = .nx [s, some (.own false (.lst (zs xs))), some (.val (mtx M)), some (.val (.int (M.length : Int))), some (.val (.int (m : Int))), some (.val (vec r0)), some (.val (.list ((wrongs M r0).map mtx))), some (.val (mtx B)), none, none, none, none, none, none, none, none, none] := by
  have hi := is_matrix_eq B h.len h.row
  rw [hm] at hi
  have hc : xComp (DL.iRange1 (aCons (xC (.int 8)) (aNil))) [15] (bName 15) (tTrue) (xCall f_u_law_told (aCons (xVar 15) (aCons (xVar 7) (aCons (xTup (aNil)) (aCons (xTup (aNil)) (aNil)))))) [s, some (.own false (.lst (zs xs))), some (.val (mtx M)), some (.val (.int (M.length : Int))), some (.val (.int (m : Int))), some (.val (vec r0)), some (.val (.list ((wrongs M r0).map mtx))), some (.val (mtx B)), none, none, none, none, none, none, none, none, none] = .ok (.lst ((List.range 8).map fun _ => PyData.str "!matrix")) [s, some (.own false (.lst (zs xs))), some (.val (mtx M)), some (.val (.int (M.length : Int))), some (.val (.int (m : Int))), some (.val (vec r0)), some (.val (.list ((wrongs M r0).map mtx))), some (.val (mtx B)), none, none, none, none, none, none, none, none, none] := by
    refine xComp_of_map (e := fun (k : Nat) => PyData.int (k : Int)) (iRange1_nat (by simp) (by omega)) (by simp) (by simp) fun k hk => ?_
    have hk' := told_all h hm k (List.mem_range.mp hk)
    simp [hk']
  have hb := before_wrong h hm
  have hr : xRepL (xLst (aCons (xC (.str "!matrix")) (aNil))) (xC (.int 8)) [s, some (.own false (.lst (zs xs))), some (.val (mtx M)), some (.val (.int (M.length : Int))), some (.val (.int (m : Int))), some (.val (vec r0)), some (.val (.list ((wrongs M r0).map mtx))), some (.val (mtx B)), none, none, none, none, none, none, none, none, none] = .ok (.lst (List.replicate 8 [PyData.str "!matrix"]).flatten) [s, some (.own false (.lst (zs xs))), some (.val (mtx M)), some (.val (.int (M.length : Int))), some (.val (.int (m : Int))), some (.val (vec r0)), some (.val (.list ((wrongs M r0).map mtx))), some (.val (mtx B)), none, none, none, none, none, none, none, none, none] := by
    simp [xRepL]
  have hne : kNe (.list (List.replicate 8 (PyData.str "!matrix"))) (.list (List.replicate 8 (PyData.str "!matrix"))) = some false := by decide +kernel
  simp only [List.map_const', List.length_range] at hc
  have hr' : (List.replicate 8 [PyData.str "!matrix"]).flatten = List.replicate 8 (PyData.str "!matrix") := rfl
  rw [hr'] at hr
  have tA : xt2 kIsNot (xCall f_is_matrix (aCons (xVar 7) (aNil))) (xC (.bool false)) [s, some (.own false (.lst (zs xs))), some (.val (mtx M)), some (.val (.int (M.length : Int))), some (.val (.int (m : Int))), some (.val (vec r0)), some (.val (.list ((wrongs M r0).map mtx))), some (.val (mtx B)), none, none, none, none, none, none, none, none, none] = .ok false [s, some (.own false (.lst (zs xs))), some (.val (mtx M)), some (.val (.int (M.length : Int))), some (.val (.int (m : Int))), some (.val (vec r0)), some (.val (.list ((wrongs M r0).map mtx))), some (.val (mtx B)), none, none, none, none, none, none, none, none, none] := by simp [hi]
  have tB : xt2 kNe (ofL (xComp (DL.iRange1 (aCons (xC (.int 8)) (aNil))) [15] (bName 15) (tTrue) (xCall f_u_law_told (aCons (xVar 15) (aCons (xVar 7) (aCons (xTup (aNil)) (aCons (xTup (aNil)) (aNil)))))))) (ofL (xRepL (xLst (aCons (xC (.str "!matrix")) (aNil))) (xC (.int 8)))) [s, some (.own false (.lst (zs xs))), some (.val (mtx M)), some (.val (.int (M.length : Int))), some (.val (.int (m : Int))), some (.val (vec r0)), some (.val (.list ((wrongs M r0).map mtx))), some (.val (mtx B)), none, none, none, none, none, none, none, none, none] = .ok false [s, some (.own false (.lst (zs xs))), some (.val (mtx M)), some (.val (.int (M.length : Int))), some (.val (.int (m : Int))), some (.val (vec r0)), some (.val (.list ((wrongs M r0).map mtx))), some (.val (mtx B)), none, none, none, none, none, none, none, none, none] := by
    rw [xt2_ap, ofL_ap, hc, bindR_ok, cellR_lst, bindR_ok, ofL_ap, hr, bindR_ok, cellR_lst, bindR_ok, deref_val, optR_some, optR_some, hne, optR_some]
  have tC : xt2 kNe (xCall f_u_law_before (aCons (xVar 7) (aCons (xTup (aNil)) (aCons (xTup (aNil)) (aCons (xTup (aNil)) (aNil)))))) (xC (.str "!matrix")) [s, some (.own false (.lst (zs xs))), some (.val (mtx M)), some (.val (.int (M.length : Int))), some (.val (.int (m : Int))), some (.val (vec r0)), some (.val (.list ((wrongs M r0).map mtx))), some (.val (mtx B)), none, none, none, none, none, none, none, none, none] = .ok false [s, some (.own false (.lst (zs xs))), some (.val (mtx M)), some (.val (.int (M.length : Int))), some (.val (.int (m : Int))), some (.val (vec r0)), some (.val (.list ((wrongs M r0).map mtx))), some (.val (mtx B)), none, none, none, none, none, none, none, none, none] := by simp [hb]
  rw [gIf_ap, xtOr_ap, tA, bindR_ok, if_neg Bool.false_ne_true, xtOr_ap, tB, bindR_ok, if_neg Bool.false_ne_true, tC, bindF_ok, if_neg Bool.false_ne_true, gNext_ap]
theorem isMat_false_len {M : List (List Int)} (h : 3 < M.length) : isMat M = false := by
  cases M with
  | nil => rfl
  | cons r0 M => simp at h; simp [isMat]; omega
theorem wrong_ok {M : List (List Int)} {r0 : List Int} (h1 : 1 ≤ M.length) (h3 : M.length ≤ 3) (c1 : 1 ≤ r0.length) (c6 : r0.length ≤ 6) (hr : ∀ r ∈ M, r.length ≤ 1000) : ∀ B ∈ wrongs M r0, Sm B ∧ isMat B = false := by
  intro B hB
  simp only [wrongs, List.mem_cons, List.not_mem_nil, or_false] at hB
  have d1 : (r0.drop 1).length ≤ 1000 := by simp; omega
  rcases hB with rfl | rfl | rfl | rfl | rfl | rfl | rfl | rfl
  · exact ⟨⟨by simp, fun r hr => by simp at hr⟩, rfl⟩
  · refine ⟨⟨by simp; omega, fun r hx => ?_⟩, isMat_false_len (by simp; omega)⟩
    rcases List.mem_append.mp hx with hx | hx
    · exact hr r hx
    · simp at hx; subst hx; omega
  · refine ⟨⟨by simp, fun r hx => ?_⟩, isMat_false_len (by simp)⟩
    simp at hx; rcases hx with rfl | rfl
    · simpa using d1
    · omega
  · refine ⟨⟨by simp; omega, fun r hx => ?_⟩, ?_⟩
    · rcases List.mem_cons.mp hx with rfl | hx
      · simp; omega
      · exact hr r (List.mem_of_mem_drop hx)
    · simp [isMat, rowOk, inR]
  · exact ⟨⟨by simp, fun r hx => by simp at hx; subst hx; simp; omega⟩, by simp [isMat, rowOk, inR]⟩
  · exact ⟨⟨by simp, fun r hx => by simp at hx; subst hx; simp⟩, by decide⟩
  · exact ⟨⟨by simp, fun r hx => by simp at hx; subst hx; simp⟩, by decide⟩
  · exact ⟨⟨by simp, fun r hx => by simp at hx; subst hx; simp; omega⟩, by
    have hn : r0 ≠ [] := fun z => by rw [z] at c1; simp at c1
    simp [isMat, hn]⟩
theorem st8 {s : Option SV} {xs : List Int} {M : List (List Int)} {r0 : List Int} {m : Nat} (h : ∀ B ∈ wrongs M r0, Sm B ∧ isMat B = false) : ∃ x, VS x ∧ S8 [s, some (.own false (.lst (zs xs))), some (.val (mtx M)), some (.val (.int (M.length : Int))), some (.val (.int (m : Int))), some (.val (vec r0)), some (.val (.list ((wrongs M r0).map mtx))), none, none, none, none, none, none, none, none, none, none] = .nx [s, some (.own false (.lst (zs xs))), some (.val (mtx M)), some (.val (.int (M.length : Int))), some (.val (.int (m : Int))), some (.val (vec r0)), some (.val (.list ((wrongs M r0).map mtx))), x, none, none, none, none, none, none, none, none, none] := by
  obtain ⟨ρ', h1, x, rfl, hx⟩ := forD_inv (bind := bName 7) (body := _) (fun _ ρ => ∃ x, ρ = [s, some (.own false (.lst (zs xs))), some (.val (mtx M)), some (.val (.int (M.length : Int))), some (.val (.int (m : Int))), some (.val (vec r0)), some (.val (.list ((wrongs M r0).map mtx))), x, none, none, none, none, none, none, none, none, none] ∧ VS x) (ds := (wrongs M r0).map mtx) (n := 0) (ρ := [s, some (.own false (.lst (zs xs))), some (.val (mtx M)), some (.val (.int (M.length : Int))), some (.val (.int (m : Int))), some (.val (vec r0)), some (.val (.list ((wrongs M r0).map mtx))), none, none, none, none, none, none, none, none, none, none]) ⟨none, rfl, .inl rfl⟩ (fun k d ρ hd ⟨x, e, hx⟩ => by
    subst e
    rw [List.getElem?_map] at hd
    cases q : (wrongs M r0)[k]? with
    | none => rw [q] at hd; cases hd
    | some B =>
      rw [q] at hd
      cases hd
      obtain ⟨g1, g2⟩ := h B (List.mem_of_getElem? q)
      exact ⟨[s, some (.own false (.lst (zs xs))), some (.val (mtx M)), some (.val (.int (M.length : Int))), some (.val (.int (m : Int))), some (.val (vec r0)), some (.val (.list ((wrongs M r0).map mtx))), some (.val (mtx B)), none, none, none, none, none, none, none, none, none], [s, some (.own false (.lst (zs xs))), some (.val (mtx M)), some (.val (.int (M.length : Int))), some (.val (.int (m : Int))), some (.val (vec r0)), some (.val (.list ((wrongs M r0).map mtx))), some (.val (mtx B)), none, none, none, none, none, none, none, none, none], by rcases hx with rfl | ⟨d', rfl⟩ <;> simp, st8b g1 g2, _, rfl, .val⟩)
  refine ⟨x, hx, ?_⟩
  unfold S8
  rw [gFor_ap]
  have hi : iSeq (xVar 6) [s, some (.own false (.lst (zs xs))), some (.val (mtx M)), some (.val (.int (M.length : Int))), some (.val (.int (m : Int))), some (.val (vec r0)), some (.val (.list ((wrongs M r0).map mtx))), none, none, none, none, none, none, none, none, none, none] = .ok ((wrongs M r0).map mtx) [s, some (.own false (.lst (zs xs))), some (.val (mtx M)), some (.val (.int (M.length : Int))), some (.val (.int (m : Int))), some (.val (vec r0)), some (.val (.list ((wrongs M r0).map mtx))), none, none, none, none, none, none, none, none, none, none] := by simp
  rw [hi, bindF_ok, h1]
theorem st9 {s x : Option SV} {xs ys : List Int} {M : List (List Int)} {r0 sd : List Int} {m : Nat} (h : f_u_law_vector (zs xs) [.int (M.length : Int), .int (-30), .int 30] = some (.val (vec sd), zs ys)) : S9 [s, some (.own false (.lst (zs xs))), some (.val (mtx M)), some (.val (.int (M.length : Int))), some (.val (.int (m : Int))), some (.val (vec r0)), some (.val (.list ((wrongs M r0).map mtx))), x, none, none, none, none, none, none, none, none, none] = .nx [s, some (.own false (.lst (zs ys))), some (.val (mtx M)), some (.val (.int (M.length : Int))), some (.val (.int (m : Int))), some (.val (vec r0)), some (.val (.list ((wrongs M r0).map mtx))), x, some (.val (vec sd)), none, none, none, none, none, none, none, none] := by simp [S9, h]
theorem st10 {s x : Option SV} {xs ys : List Int} {M : List (List Int)} {r0 sd c : List Int} {m : Nat} (h : f_u_law_vector (zs xs) [.int (m : Int), .int (-50), .int 50] = some (.val (vec c), zs ys)) : S10 [s, some (.own false (.lst (zs xs))), some (.val (mtx M)), some (.val (.int (M.length : Int))), some (.val (.int (m : Int))), some (.val (vec r0)), some (.val (.list ((wrongs M r0).map mtx))), x, some (.val (vec sd)), none, none, none, none, none, none, none, none] = .nx [s, some (.own false (.lst (zs ys))), some (.val (mtx M)), some (.val (.int (M.length : Int))), some (.val (.int (m : Int))), some (.val (vec r0)), some (.val (.list ((wrongs M r0).map mtx))), x, some (.val (vec sd)), some (.val (vec c)), none, none, none, none, none, none, none] := by simp [S10, h]
theorem st11 {s x : Option SV} (hx : VS x) {xs ys zz : List Int} {M : List (List Int)} {r0 sd c a b : List Int} {m : Nat} (h : f_u_law_vector (zs xs) [.int (m : Int), .int (-2), .int 6] = some (.val (vec a), zs ys)) (h2 : f_u_law_vector (zs ys) [.int (m : Int), .int (-2), .int 6] = some (.val (vec b), zs zz)) : S11 [s, some (.own false (.lst (zs xs))), some (.val (mtx M)), some (.val (.int (M.length : Int))), some (.val (.int (m : Int))), some (.val (vec r0)), some (.val (.list ((wrongs M r0).map mtx))), x, some (.val (vec sd)), some (.val (vec c)), none, none, none, none, none, none, none] = .nx [s, some (.own false (.lst (zs zz))), some (.val (mtx M)), some (.val (.int (M.length : Int))), some (.val (.int (m : Int))), some (.val (vec r0)), some (.val (.list ((wrongs M r0).map mtx))), some (.val (vec a)), some (.val (vec sd)), some (.val (vec c)), some (.val (vec b)), none, none, none, none, none, none] := by
  rcases hx with rfl | ⟨d, rfl⟩ <;> simp [S11, h, h2, bCons]
theorem st12 {s : Option SV} {xs ys : List Int} {M : List (List Int)} {r0 sd c a b : List Int} {m : Nat} {u : Int} (h : f_u_law_next (zs xs) [] = some (.val (.int u), zs ys)) (h2 : f_u_law_image [mtx M, vec a] = .ok (.val (vec (imgI M a)))) : S12 [s, some (.own false (.lst (zs xs))), some (.val (mtx M)), some (.val (.int (M.length : Int))), some (.val (.int (m : Int))), some (.val (vec r0)), some (.val (.list ((wrongs M r0).map mtx))), some (.val (vec a)), some (.val (vec sd)), some (.val (vec c)), some (.val (vec b)), none, none, none, none, none, none] = .nx [s, some (.own false (.lst (zs ys))), some (.val (mtx M)), some (.val (.int (M.length : Int))), some (.val (.int (m : Int))), some (.val (vec r0)), some (.val (.list ((wrongs M r0).map mtx))), some (.val (vec a)), some (.val (vec (if u.fmod 2 = 0 then imgI M a else sd))), some (.val (vec c)), some (.val (vec b)), none, none, none, none, none, none] := by
  by_cases q : u.fmod 2 = 0 <;> simp [S12, h, h2, q]
theorem st13 {s : Option SV} {xs : List Int} {M : List (List Int)} {r0 sd c a b : List Int} {m : Nat} (h1 : f_is_side [mtx M, vec sd] = .ok (.val (.bool true))) (h2 : f_is_vector [mtx M, vec a] = .ok (.val (.bool true))) (h3 : f_is_cost [mtx M, vec c] = .ok (.val (.bool true))) : S13 [s, some (.own false (.lst (zs xs))), some (.val (mtx M)), some (.val (.int (M.length : Int))), some (.val (.int (m : Int))), some (.val (vec r0)), some (.val (.list ((wrongs M r0).map mtx))), some (.val (vec a)), some (.val (vec sd)), some (.val (vec c)), some (.val (vec b)), none, none, none, none, none, none] = .nx [s, some (.own false (.lst (zs xs))), some (.val (mtx M)), some (.val (.int (M.length : Int))), some (.val (.int (m : Int))), some (.val (vec r0)), some (.val (.list ((wrongs M r0).map mtx))), some (.val (vec a)), some (.val (vec sd)), some (.val (vec c)), some (.val (vec b)), none, none, none, none, none, none] := by
  have hr : kRepr [.list [.bool true, .bool true, .bool true]] = some (.str (PyData.shown (.list [.bool true, .bool true, .bool true]))) := kRepr_nice (by decide) (by decide) (by decide)
  simp [S13, h1, h2, h3, xRepL, List.replicate, hr]
def farI (M : List (List Int)) (sd : List Int) : List (List Int) := [List.replicate M.length 1000000, List.replicate M.length (-1000000), 1000001 :: sd.drop 1, sd ++ [0], sd.drop 1, (-1000001) :: sd.drop 1]
theorem flat_one {n : Nat} {x : Int} : (List.replicate n [PyData.int x]).flatten = (List.replicate n x).map PyData.int := by
  rw [List.flatten_replicate_singleton, List.map_replicate]
theorem st14 {s : Option SV} {xs : List Int} {M : List (List Int)} {r0 sd c a b : List Int} {m : Nat} (h1 : M.length ≤ 3) (h2 : sd.length ≤ 3) : S14 [s, some (.own false (.lst (zs xs))), some (.val (mtx M)), some (.val (.int (M.length : Int))), some (.val (.int (m : Int))), some (.val (vec r0)), some (.val (.list ((wrongs M r0).map mtx))), some (.val (vec a)), some (.val (vec sd)), some (.val (vec c)), some (.val (vec b)), none, none, none, none, none, none] = .nx [s, some (.own false (.lst (zs xs))), some (.val (mtx M)), some (.val (.int (M.length : Int))), some (.val (.int (m : Int))), some (.val (vec r0)), some (.val (.list ((wrongs M r0).map mtx))), some (.val (vec a)), some (.val (vec sd)), some (.val (vec c)), some (.val (vec b)), some (.val (.list ((farI M sd).map vec))), none, none, none, none, none] := by
  have e1 : (M.length : Int) ≤ 1000 ∧ -1000 ≤ (M.length : Int) := by omega
  have e2 : 1 + (sd.length - 1) ≤ 16777216 := by omega
  have e3 : sd.length + 1 ≤ 16777216 := by omega
  simp [S14, kCut_tail, e1, e2, e3, farI, List.map_drop]
theorem st15 {s : Option SV} {xs : List Int} {M : List (List Int)} {r0 sd c a b : List Int} {m : Nat} (h : ∀ v ∈ farI M sd, f_is_side [mtx M, vec v] = .ok (.val (.bool (sideOk M v)))) (h2 : (farI M sd).map (sideOk M) = [true, true, false, false, false, false]) : S15 [s, some (.own false (.lst (zs xs))), some (.val (mtx M)), some (.val (.int (M.length : Int))), some (.val (.int (m : Int))), some (.val (vec r0)), some (.val (.list ((wrongs M r0).map mtx))), some (.val (vec a)), some (.val (vec sd)), some (.val (vec c)), some (.val (vec b)), some (.val (.list ((farI M sd).map vec))), none, none, none, none, none] = .nx [s, some (.own false (.lst (zs xs))), some (.val (mtx M)), some (.val (.int (M.length : Int))), some (.val (.int (m : Int))), some (.val (vec r0)), some (.val (.list ((wrongs M r0).map mtx))), some (.val (vec a)), some (.val (vec sd)), some (.val (vec c)), some (.val (vec b)), some (.val (.list ((farI M sd).map vec))), none, none, none, none, none] := by
  have hc : xComp (iSeq (xVar 11)) [16] (bName 16) (tTrue) (xCall f_is_side (aCons (xVar 2) (aCons (xVar 16) (aNil)))) [s, some (.own false (.lst (zs xs))), some (.val (mtx M)), some (.val (.int (M.length : Int))), some (.val (.int (m : Int))), some (.val (vec r0)), some (.val (.list ((wrongs M r0).map mtx))), some (.val (vec a)), some (.val (vec sd)), some (.val (vec c)), some (.val (vec b)), some (.val (.list ((farI M sd).map vec))), none, none, none, none, none] = .ok (.lst ((farI M sd).map fun v => .bool (sideOk M v))) [s, some (.own false (.lst (zs xs))), some (.val (mtx M)), some (.val (.int (M.length : Int))), some (.val (.int (m : Int))), some (.val (vec r0)), some (.val (.list ((wrongs M r0).map mtx))), some (.val (vec a)), some (.val (vec sd)), some (.val (vec c)), some (.val (vec b)), some (.val (.list ((farI M sd).map vec))), none, none, none, none, none] := by
    refine xComp_of_map (e := vec) (by simp) (by simp) (by simp [farI]) fun v hv => ?_
    simp [h v hv]
  have e : ((farI M sd).map fun v => PyData.bool (sideOk M v)) = [.bool true, .bool true, .bool false, .bool false, .bool false, .bool false] := by
    have := congrArg (List.map PyData.bool) h2
    rwa [List.map_map] at this
  rw [e] at hc
  have hne : kNe (.list [.bool true, .bool true, .bool false, .bool false, .bool false, .bool false]) (.list [.bool true, .bool true, .bool false, .bool false, .bool false, .bool false]) = some false := by decide +kernel
  unfold S15
  simp [hc, hne]
def badC (m : Nat) (c : List Int) : List (List Int) := [List.replicate m 50, 51 :: c.drop 1, (-51) :: c.drop 1, c ++ [0]]
theorem st16 {s : Option SV} {xs : List Int} {M : List (List Int)} {r0 sd c a b : List Int} {m : Nat} (hm : m ≤ 6) (hcl : c.length ≤ 6) (h : ∀ v ∈ badC m c, f_is_cost [mtx M, vec v] = .ok (.val (.bool (costOk M v)))) (h2 : (badC m c).map (costOk M) = [true, false, false, false]) : S16 [s, some (.own false (.lst (zs xs))), some (.val (mtx M)), some (.val (.int (M.length : Int))), some (.val (.int (m : Int))), some (.val (vec r0)), some (.val (.list ((wrongs M r0).map mtx))), some (.val (vec a)), some (.val (vec sd)), some (.val (vec c)), some (.val (vec b)), some (.val (.list ((farI M sd).map vec))), none, none, none, none, none] = .nx [s, some (.own false (.lst (zs xs))), some (.val (mtx M)), some (.val (.int (M.length : Int))), some (.val (.int (m : Int))), some (.val (vec r0)), some (.val (.list ((wrongs M r0).map mtx))), some (.val (vec a)), some (.val (vec sd)), some (.val (vec c)), some (.val (vec b)), some (.val (.list ((farI M sd).map vec))), none, none, none, none, none] := by
  have e1 : (m : Int) ≤ 1000 ∧ -1000 ≤ (m : Int) := by omega
  have e2 : 1 + (c.length - 1) ≤ 16777216 := by omega
  have e3 : c.length + 1 ≤ 16777216 := by omega
  have hc : xComp (iSeq (ofL (xLst (aCons (x2 kMulT (xTup (aCons (xC (.int 50)) (aNil))) (xVar 4)) (aCons (x2 kAdd (xTup (aCons (xC (.int 51)) (aNil))) (xCut (xVar 9) (pSome (xC (.int 1))) (pNo))) (aCons (x2 kAdd (xTup (aCons (x1 kNeg (xC (.int 51))) (aNil))) (xCut (xVar 9) (pSome (xC (.int 1))) (pNo))) (aCons (x2 kAdd (xVar 9) (xTup (aCons (xC (.int 0)) (aNil)))) (aNil)))))))) [16] (bName 16) (tTrue) (xCall f_is_cost (aCons (xVar 2) (aCons (xVar 16) (aNil)))) [s, some (.own false (.lst (zs xs))), some (.val (mtx M)), some (.val (.int (M.length : Int))), some (.val (.int (m : Int))), some (.val (vec r0)), some (.val (.list ((wrongs M r0).map mtx))), some (.val (vec a)), some (.val (vec sd)), some (.val (vec c)), some (.val (vec b)), some (.val (.list ((farI M sd).map vec))), none, none, none, none, none] = .ok (.lst ((badC m c).map fun v => .bool (costOk M v))) [s, some (.own false (.lst (zs xs))), some (.val (mtx M)), some (.val (.int (M.length : Int))), some (.val (.int (m : Int))), some (.val (vec r0)), some (.val (.list ((wrongs M r0).map mtx))), some (.val (vec a)), some (.val (vec sd)), some (.val (vec c)), some (.val (vec b)), some (.val (.list ((farI M sd).map vec))), none, none, none, none, none] := by
    refine xComp_of_map (e := vec) (by simp [kCut_tail, e1, e2, e3, badC, List.map_drop]) (by simp) (by simp [badC]) fun v hv => ?_
    simp [h v hv]
  have e : ((badC m c).map fun v => PyData.bool (costOk M v)) = [.bool true, .bool false, .bool false, .bool false] := by
    have := congrArg (List.map PyData.bool) h2
    rwa [List.map_map] at this
  rw [e] at hc
  have hne : kNe (.list [.bool true, .bool false, .bool false, .bool false]) (.list [.bool true, .bool false, .bool false, .bool false]) = some false := by decide +kernel
  unfold S16
  simp [hc, hne]
def badV (m : Nat) (a : List Int) : List (List Int) := [List.replicate m 1000000000000000000000000000000, a ++ [0], a.drop 1]
theorem pow30 : kPow (.int 10) (.int 30) = some (.int 1000000000000000000000000000000) := by
  unfold kPow
  exact if_pos (by decide)
theorem st17 {s : Option SV} {xs : List Int} {M : List (List Int)} {r0 sd c a b : List Int} {m : Nat} (hm : m ≤ 6) (hcl : a.length ≤ 6) (h : ∀ v ∈ badV m a, f_is_vector [mtx M, vec v] = .ok (.val (.bool (vecOk M v)))) (h2 : (badV m a).map (vecOk M) = [true, false, false]) : S17 [s, some (.own false (.lst (zs xs))), some (.val (mtx M)), some (.val (.int (M.length : Int))), some (.val (.int (m : Int))), some (.val (vec r0)), some (.val (.list ((wrongs M r0).map mtx))), some (.val (vec a)), some (.val (vec sd)), some (.val (vec c)), some (.val (vec b)), some (.val (.list ((farI M sd).map vec))), none, none, none, none, none] = .nx [s, some (.own false (.lst (zs xs))), some (.val (mtx M)), some (.val (.int (M.length : Int))), some (.val (.int (m : Int))), some (.val (vec r0)), some (.val (.list ((wrongs M r0).map mtx))), some (.val (vec a)), some (.val (vec sd)), some (.val (vec c)), some (.val (vec b)), some (.val (.list ((farI M sd).map vec))), none, none, none, none, none] := by
  have e1 : (m : Int) ≤ 1000 ∧ -1000 ≤ (m : Int) := by omega
  have e3 : a.length + 1 ≤ 16777216 := by omega
  have hc : xComp (iSeq (ofL (xLst (aCons (x2 kMulT (xTup (aCons (x2 kPow (xC (.int 10)) (xC (.int 30))) (aNil))) (xVar 4)) (aCons (x2 kAdd (xVar 7) (xTup (aCons (xC (.int 0)) (aNil)))) (aCons (xCut (xVar 7) (pSome (xC (.int 1))) (pNo)) (aNil))))))) [16] (bName 16) (tTrue) (xCall f_is_vector (aCons (xVar 2) (aCons (xVar 16) (aNil)))) [s, some (.own false (.lst (zs xs))), some (.val (mtx M)), some (.val (.int (M.length : Int))), some (.val (.int (m : Int))), some (.val (vec r0)), some (.val (.list ((wrongs M r0).map mtx))), some (.val (vec a)), some (.val (vec sd)), some (.val (vec c)), some (.val (vec b)), some (.val (.list ((farI M sd).map vec))), none, none, none, none, none] = .ok (.lst ((badV m a).map fun v => .bool (vecOk M v))) [s, some (.own false (.lst (zs xs))), some (.val (mtx M)), some (.val (.int (M.length : Int))), some (.val (.int (m : Int))), some (.val (vec r0)), some (.val (.list ((wrongs M r0).map mtx))), some (.val (vec a)), some (.val (vec sd)), some (.val (vec c)), some (.val (vec b)), some (.val (.list ((farI M sd).map vec))), none, none, none, none, none] := by
    refine xComp_of_map (e := vec) (by simp [kCut_tail, e1, e3, badV, pow30, List.map_drop]) (by simp) (by simp [badV]) fun v hv => ?_
    simp [h v hv]
  have e : ((badV m a).map fun v => PyData.bool (vecOk M v)) = [.bool true, .bool false, .bool false] := by
    have := congrArg (List.map PyData.bool) h2
    rwa [List.map_map] at this
  rw [e] at hc
  have hne : kNe (.list [.bool true, .bool false, .bool false]) (.list [.bool true, .bool false, .bool false]) = some false := by decide +kernel
  unfold S17
  simp [hc, hne]
theorem st18 {s : Option SV} {xs : List Int} {M : List (List Int)} {r0 sd c a b : List Int} {m : Nat} {z z2 : Str} (h1 : f_u_law_told [.int 5, mtx M, vec a, .tuple []] = .ok (.val (vec (imgI M a)))) (h2 : f_u_law_image [mtx M, vec a] = .ok (.val (vec (imgI M a)))) (h3 : kRepr [vec (imgI M a)] = some (.str z))
    (h4 : f_u_law_told [.int 7, mtx M, vec c, vec a] = .ok (.val (.int (dotI c a)))) (h5 : f_u_law_dot [vec c, vec a] = .ok (.val (.int (dotI c a)))) (h6 : kRepr [.int (dotI c a)] = some (.str z2)) : S18 [s, some (.own false (.lst (zs xs))), some (.val (mtx M)), some (.val (.int (M.length : Int))), some (.val (.int (m : Int))), some (.val (vec r0)), some (.val (.list ((wrongs M r0).map mtx))), some (.val (vec a)), some (.val (vec sd)), some (.val (vec c)), some (.val (vec b)), some (.val (.list ((farI M sd).map vec))), none, none, none, none, none] = .nx [s, some (.own false (.lst (zs xs))), some (.val (mtx M)), some (.val (.int (M.length : Int))), some (.val (.int (m : Int))), some (.val (vec r0)), some (.val (.list ((wrongs M r0).map mtx))), some (.val (vec a)), some (.val (vec sd)), some (.val (vec c)), some (.val (vec b)), some (.val (.list ((farI M sd).map vec))), none, none, none, none, none] := by
  simp [S18, h1, h2, h3, h4, h5, h6]
theorem st19 {s : Option SV} {xs : List Int} {M : List (List Int)} {r0 sd c a b : List Int} {m : Nat} {z : Str} (h1 : f_u_law_told [.int 6, mtx M, vec sd, vec a] = .ok (.val (.bool (solvI M sd a)))) (h2 : f_u_law_image [mtx M, vec a] = .ok (.val (vec (imgI M a)))) (h3 : kRepr [.bool (solvI M sd a)] = some (.str z)) (hn : a ≠ []) : S19 [s, some (.own false (.lst (zs xs))), some (.val (mtx M)), some (.val (.int (M.length : Int))), some (.val (.int (m : Int))), some (.val (vec r0)), some (.val (.list ((wrongs M r0).map mtx))), some (.val (vec a)), some (.val (vec sd)), some (.val (vec c)), some (.val (vec b)), some (.val (.list ((farI M sd).map vec))), none, none, none, none, none] = .nx [s, some (.own false (.lst (zs xs))), some (.val (mtx M)), some (.val (.int (M.length : Int))), some (.val (.int (m : Int))), some (.val (vec r0)), some (.val (.list ((wrongs M r0).map mtx))), some (.val (vec a)), some (.val (vec sd)), some (.val (vec c)), some (.val (vec b)), some (.val (.list ((farI M sd).map vec))), none, none, none, none, none] := by
  have hk := kMin_vec hn
  by_cases q : 0 ≤ minI a
  · have e : solvI M sd a = decide (imgI M a = sd) := by simp [solvI, q]
    rw [e] at h3
    simp [S19, h1, h2, h3, hk, q, e, kEq_vec]
  · have e : solvI M sd a = false := by simp [solvI, q]
    rw [e] at h3
    simp [S19, h1, h2, h3, hk, q, e, kEq_vec]
theorem st20b {s : Option SV} {xs : List Int} {M : List (List Int)} {r0 sd c a b p q : List Int} {m : Nat} (h1 : f_u_law_before [mtx M, vec c, vec p, vec q] = .ok (.val (.bool (PySem.W.dataLt (keyI c p) (keyI c q))))) (h2 : f_u_law_key [vec c, vec p] = .ok (.val (keyI c p))) (h3 : f_u_law_key [vec c, vec q] = .ok (.val (keyI c q))) :
    (gIf (xt2 kNe (xCB kRepr (aCons (xCall f_u_law_before (aCons (xVar 2) (aCons (xVar 9) (aCons (xVar 12) (aCons (xVar 13) (aNil)))))) (aNil))) (xCB kRepr (aCons (x2 (kB kLt) (xCall f_u_law_key (aCons (xVar 9) (aCons (xVar 12) (aNil)))) (xCall f_u_law_key (aCons (xVar 9) (aCons (xVar 13) (aNil))))) (aNil)))) (gRet (xC (.bool false))) (gNext)) [s, some (.own false (.lst (zs xs))), some (.val (mtx M)), some (.val (.int (M.length : Int))), some (.val (.int (m : Int))), some (.val (vec r0)), some (.val (.list ((wrongs M r0).map mtx))), some (.val (vec a)), some (.val (vec sd)), some (.val (vec c)), some (.val (vec b)), some (.val (.list ((farI M sd).map vec))), some (.val (vec p)), some (.val (vec q)), none, none, none] = .nx [s, some (.own false (.lst (zs xs))), some (.val (mtx M)), some (.val (.int (M.length : Int))), some (.val (.int (m : Int))), some (.val (vec r0)), some (.val (.list ((wrongs M r0).map mtx))), some (.val (vec a)), some (.val (vec sd)), some (.val (vec c)), some (.val (vec b)), some (.val (.list ((farI M sd).map vec))), some (.val (vec p)), some (.val (vec q)), none, none, none] := by
  have hr : ∀ z : Bool, kRepr [.bool z] = some (.str (PyData.shown (.bool z))) := fun z => kRepr_nice (by cases z <;> decide) (by cases z <;> decide) (by cases z <;> decide)
  have hk : (flat (keyI c p)).isSome = false := rfl
  have hk2 : (flat (keyI c q)).isSome = false := rfl
  simp [h1, h2, h3, hr, hk, hk2, kLt_key]
theorem st20 {s : Option SV} {xs : List Int} {M : List (List Int)} {r0 sd c a b : List Int} {m : Nat} (h1 : ∀ p q, (p = a ∨ p = b) → (q = a ∨ q = b) → f_u_law_before [mtx M, vec c, vec p, vec q] = .ok (.val (.bool (PySem.W.dataLt (keyI c p) (keyI c q))))) (h2 : ∀ p, (p = a ∨ p = b) → f_u_law_key [vec c, vec p] = .ok (.val (keyI c p))) :
    ∃ u v, VS u ∧ VS v ∧ S20 [s, some (.own false (.lst (zs xs))), some (.val (mtx M)), some (.val (.int (M.length : Int))), some (.val (.int (m : Int))), some (.val (vec r0)), some (.val (.list ((wrongs M r0).map mtx))), some (.val (vec a)), some (.val (vec sd)), some (.val (vec c)), some (.val (vec b)), some (.val (.list ((farI M sd).map vec))), none, none, none, none, none] = .nx [s, some (.own false (.lst (zs xs))), some (.val (mtx M)), some (.val (.int (M.length : Int))), some (.val (.int (m : Int))), some (.val (vec r0)), some (.val (.list ((wrongs M r0).map mtx))), some (.val (vec a)), some (.val (vec sd)), some (.val (vec c)), some (.val (vec b)), some (.val (.list ((farI M sd).map vec))), u, v, none, none, none] := by
  obtain ⟨ρ', g1, u, v, rfl, hu, hv⟩ := forD_inv (bind := bTup (bCons (bName 12) (bCons (bName 13) (bNil)))) (body := (gIf (xt2 kNe (xCB kRepr (aCons (xCall f_u_law_before (aCons (xVar 2) (aCons (xVar 9) (aCons (xVar 12) (aCons (xVar 13) (aNil)))))) (aNil))) (xCB kRepr (aCons (x2 (kB kLt) (xCall f_u_law_key (aCons (xVar 9) (aCons (xVar 12) (aNil)))) (xCall f_u_law_key (aCons (xVar 9) (aCons (xVar 13) (aNil))))) (aNil)))) (gRet (xC (.bool false))) (gNext))) (fun _ ρ => ∃ u v, ρ = [s, some (.own false (.lst (zs xs))), some (.val (mtx M)), some (.val (.int (M.length : Int))), some (.val (.int (m : Int))), some (.val (vec r0)), some (.val (.list ((wrongs M r0).map mtx))), some (.val (vec a)), some (.val (vec sd)), some (.val (vec c)), some (.val (vec b)), some (.val (.list ((farI M sd).map vec))), u, v, none, none, none] ∧ VS u ∧ VS v) (ds := [.tuple [vec a, vec b], .tuple [vec b, vec a], .tuple [vec a, vec a]]) (n := 0) (ρ := [s, some (.own false (.lst (zs xs))), some (.val (mtx M)), some (.val (.int (M.length : Int))), some (.val (.int (m : Int))), some (.val (vec r0)), some (.val (.list ((wrongs M r0).map mtx))), some (.val (vec a)), some (.val (vec sd)), some (.val (vec c)), some (.val (vec b)), some (.val (.list ((farI M sd).map vec))), none, none, none, none, none]) ⟨none, none, rfl, .inl rfl, .inl rfl⟩ (fun k d ρ hd ⟨u, v, e, hu, hv⟩ => by
    subst e
    have : ∃ p q, d = .tuple [vec p, vec q] ∧ (p = a ∨ p = b) ∧ (q = a ∨ q = b) := by
      have hm := List.mem_of_getElem? hd
      simp only [List.mem_cons, List.not_mem_nil, or_false] at hm
      rcases hm with rfl | rfl | rfl
      · exact ⟨a, b, rfl, .inl rfl, .inr rfl⟩
      · exact ⟨b, a, rfl, .inr rfl, .inl rfl⟩
      · exact ⟨a, a, rfl, .inl rfl, .inl rfl⟩
    obtain ⟨p, q, rfl, hp, hq⟩ := this
    exact ⟨[s, some (.own false (.lst (zs xs))), some (.val (mtx M)), some (.val (.int (M.length : Int))), some (.val (.int (m : Int))), some (.val (vec r0)), some (.val (.list ((wrongs M r0).map mtx))), some (.val (vec a)), some (.val (vec sd)), some (.val (vec c)), some (.val (vec b)), some (.val (.list ((farI M sd).map vec))), some (.val (vec p)), some (.val (vec q)), none, none, none], [s, some (.own false (.lst (zs xs))), some (.val (mtx M)), some (.val (.int (M.length : Int))), some (.val (.int (m : Int))), some (.val (vec r0)), some (.val (.list ((wrongs M r0).map mtx))), some (.val (vec a)), some (.val (vec sd)), some (.val (vec c)), some (.val (vec b)), some (.val (.list ((farI M sd).map vec))), some (.val (vec p)), some (.val (vec q)), none, none, none], by rcases hu with rfl | ⟨d1, rfl⟩ <;> rcases hv with rfl | ⟨d2, rfl⟩ <;> simp [bCons], st20b (h1 p q hp hq) (h2 p hp) (h2 q hq), _, _, rfl, .val, .val⟩)
  refine ⟨u, v, hu, hv, ?_⟩
  unfold S20
  rw [gFor_ap]
  have hi : iSeq (ofL (xLst (aCons (xTup (aCons (xVar 7) (aCons (xVar 10) (aNil)))) (aCons (xTup (aCons (xVar 10) (aCons (xVar 7) (aNil)))) (aCons (xTup (aCons (xVar 7) (aCons (xVar 7) (aNil)))) (aNil)))))) [s, some (.own false (.lst (zs xs))), some (.val (mtx M)), some (.val (.int (M.length : Int))), some (.val (.int (m : Int))), some (.val (vec r0)), some (.val (.list ((wrongs M r0).map mtx))), some (.val (vec a)), some (.val (vec sd)), some (.val (vec c)), some (.val (vec b)), some (.val (.list ((farI M sd).map vec))), none, none, none, none, none] = .ok [.tuple [vec a, vec b], .tuple [vec b, vec a], .tuple [vec a, vec a]] [s, some (.own false (.lst (zs xs))), some (.val (mtx M)), some (.val (.int (M.length : Int))), some (.val (.int (m : Int))), some (.val (vec r0)), some (.val (.list ((wrongs M r0).map mtx))), some (.val (vec a)), some (.val (vec sd)), some (.val (vec c)), some (.val (vec b)), some (.val (.list ((farI M sd).map vec))), none, none, none, none, none] := by simp
  rw [hi, bindF_ok, g1]
theorem st21 {s u v : Option SV} {xs : List Int} {M : List (List Int)} {r0 sd c a b : List Int} {m : Nat} (l1 : sd.length ≤ 6) (l2 : a.length ≤ 6) (l3 : c.length ≤ 6) (h1 : f_u_law_told [.int 0, mtx M, vec (sd ++ [0]), .tuple []] = .ok (.val (.str "!side"))) (h2 : f_u_law_told [.int 1, mtx M, vec (a ++ [0]), .tuple []] = .ok (.val (.str "!vector"))) (h3 : f_u_law_told [.int 2, mtx M, vec (c ++ [0]), .tuple []] = .ok (.val (.str "!cost"))) (h4 : f_u_law_told [.int 5, mtx M, .tuple [], .tuple []] = .ok (.val (.str "!vector"))) :
    S21 [s, some (.own false (.lst (zs xs))), some (.val (mtx M)), some (.val (.int (M.length : Int))), some (.val (.int (m : Int))), some (.val (vec r0)), some (.val (.list ((wrongs M r0).map mtx))), some (.val (vec a)), some (.val (vec sd)), some (.val (vec c)), some (.val (vec b)), some (.val (.list ((farI M sd).map vec))), u, v, none, none, none] = .nx [s, some (.own false (.lst (zs xs))), some (.val (mtx M)), some (.val (.int (M.length : Int))), some (.val (.int (m : Int))), some (.val (vec r0)), some (.val (.list ((wrongs M r0).map mtx))), some (.val (vec a)), some (.val (vec sd)), some (.val (vec c)), some (.val (vec b)), some (.val (.list ((farI M sd).map vec))), u, v, some (.val (.list [.str "!side", .str "!vector", .str "!cost", .str "!vector"])), none, none] := by
  have e1 : sd.length + 1 ≤ 16777216 := by omega
  have e2 : a.length + 1 ≤ 16777216 := by omega
  have e3 : c.length + 1 ≤ 16777216 := by omega
  simp only [vec, List.map_append, List.map_cons, List.map_nil] at h1 h2 h3
  simp [S21, h1, h2, h3, h4, e1, e2, e3]
theorem st22 {s u v : Option SV} {xs : List Int} {M : List (List Int)} {r0 sd c a b : List Int} {m : Nat} (h1 : f_u_law_told [.int 6, mtx M, .tuple [], .tuple []] = .ok (.val (.str "!side"))) (h2 : f_u_law_told [.int 6, mtx M, vec sd, .tuple []] = .ok (.val (.str "!vector"))) (h3 : f_u_law_told [.int 7, mtx M, .tuple [], .tuple []] = .ok (.val (.str "!cost"))) (h4 : f_u_law_told [.int 7, mtx M, vec c, .tuple []] = .ok (.val (.str "!vector"))) :
    S22 [s, some (.own false (.lst (zs xs))), some (.val (mtx M)), some (.val (.int (M.length : Int))), some (.val (.int (m : Int))), some (.val (vec r0)), some (.val (.list ((wrongs M r0).map mtx))), some (.val (vec a)), some (.val (vec sd)), some (.val (vec c)), some (.val (vec b)), some (.val (.list ((farI M sd).map vec))), u, v, some (.val (.list [.str "!side", .str "!vector", .str "!cost", .str "!vector"])), none, none] = .nx [s, some (.own false (.lst (zs xs))), some (.val (mtx M)), some (.val (.int (M.length : Int))), some (.val (.int (m : Int))), some (.val (vec r0)), some (.val (.list ((wrongs M r0).map mtx))), some (.val (vec a)), some (.val (vec sd)), some (.val (vec c)), some (.val (vec b)), some (.val (.list ((farI M sd).map vec))), u, v, some (.val (.list [.str "!side", .str "!vector", .str "!cost", .str "!vector", .str "!side", .str "!vector", .str "!cost", .str "!vector"])), none, none] := by
  simp [S22, h1, h2, h3, h4]
theorem st23 {s u v : Option SV} {xs : List Int} {M : List (List Int)} {r0 sd c a b : List Int} {m : Nat} (h1 : f_u_law_before [mtx M, .tuple [], .tuple [], .tuple []] = .ok (.val (.str "!cost"))) (h2 : f_u_law_before [mtx M, vec c, .tuple [], .tuple []] = .ok (.val (.str "!vector"))) (h3 : f_u_law_before [mtx M, vec c, vec a, .tuple []] = .ok (.val (.str "!vector"))) :
    S23 [s, some (.own false (.lst (zs xs))), some (.val (mtx M)), some (.val (.int (M.length : Int))), some (.val (.int (m : Int))), some (.val (vec r0)), some (.val (.list ((wrongs M r0).map mtx))), some (.val (vec a)), some (.val (vec sd)), some (.val (vec c)), some (.val (vec b)), some (.val (.list ((farI M sd).map vec))), u, v, some (.val (.list [.str "!side", .str "!vector", .str "!cost", .str "!vector", .str "!side", .str "!vector", .str "!cost", .str "!vector"])), none, none] = .nx [s, some (.own false (.lst (zs xs))), some (.val (mtx M)), some (.val (.int (M.length : Int))), some (.val (.int (m : Int))), some (.val (vec r0)), some (.val (.list ((wrongs M r0).map mtx))), some (.val (vec a)), some (.val (vec sd)), some (.val (vec c)), some (.val (vec b)), some (.val (.list ((farI M sd).map vec))), u, v, some (.val (.list [.str "!side", .str "!vector", .str "!cost", .str "!vector", .str "!side", .str "!vector", .str "!cost", .str "!vector", .str "!cost", .str "!vector", .str "!vector"])), none, none] := by
  simp [S23, h1, h2, h3]
theorem st24 {s u v : Option SV} {xs : List Int} {M : List (List Int)} {r0 sd c a b : List Int} {m : Nat} : S24 [s, some (.own false (.lst (zs xs))), some (.val (mtx M)), some (.val (.int (M.length : Int))), some (.val (.int (m : Int))), some (.val (vec r0)), some (.val (.list ((wrongs M r0).map mtx))), some (.val (vec a)), some (.val (vec sd)), some (.val (vec c)), some (.val (vec b)), some (.val (.list ((farI M sd).map vec))), u, v, some (.val (.list [.str "!side", .str "!vector", .str "!cost", .str "!vector", .str "!side", .str "!vector", .str "!cost", .str "!vector", .str "!cost", .str "!vector", .str "!vector"])), none, none] = .rt (.val (.bool true)) [s, some (.own false (.lst (zs xs))), some (.val (mtx M)), some (.val (.int (M.length : Int))), some (.val (.int (m : Int))), some (.val (vec r0)), some (.val (.list ((wrongs M r0).map mtx))), some (.val (vec a)), some (.val (vec sd)), some (.val (vec c)), some (.val (vec b)), some (.val (.list ((farI M sd).map vec))), u, v, some (.val (.list [.str "!side", .str "!vector", .str "!cost", .str "!vector", .str "!side", .str "!vector", .str "!cost", .str "!vector", .str "!cost", .str "!vector", .str "!vector"])), none, none] := by
  have he : kEq (.list [.str "!side", .str "!vector", .str "!cost", .str "!vector", .str "!side", .str "!vector", .str "!cost", .str "!vector", .str "!cost", .str "!vector", .str "!vector"]) (.list [.str "!side", .str "!vector", .str "!cost", .str "!vector", .str "!side", .str "!vector", .str "!cost", .str "!vector", .str "!cost", .str "!vector", .str "!vector"]) = some true := by decide +kernel
  simp [S24, he]
end K00

namespace K00
open L2 PySem PySem.Spec PyProof.Rows DL

theorem bd_of {v : List Int} {k : Int} (hl : v.length ≤ 1000) (h : ∀ n ∈ v, -k ≤ n ∧ n ≤ k) (hk : k ≤ 1000000) : Bd v := ⟨hl, fun n hn => by have := h n hn; omega⟩
theorem bd_lh {v : List Int} {lo hi : Int} (hl : v.length ≤ 1000) (h : ∀ n ∈ v, lo ≤ n ∧ n ≤ hi) (h1 : -1000000 ≤ lo) (h2 : hi ≤ 1000000) : Bd v := ⟨hl, fun n hn => by have := h n hn; omega⟩
theorem prod_le {x y : Int} (hx : -9 ≤ x ∧ x ≤ 9) (hy : -2 ≤ y ∧ y ≤ 6) : -54 ≤ x * y ∧ x * y ≤ 54 := by
  have e : x = -9 ∨ x = -8 ∨ x = -7 ∨ x = -6 ∨ x = -5 ∨ x = -4 ∨ x = -3 ∨ x = -2 ∨ x = -1 ∨ x = 0 ∨ x = 1 ∨ x = 2 ∨ x = 3 ∨ x = 4 ∨ x = 5 ∨ x = 6 ∨ x = 7 ∨ x = 8 ∨ x = 9 := by omega
  rcases e with rfl | rfl | rfl | rfl | rfl | rfl | rfl | rfl | rfl | rfl | rfl | rfl | rfl | rfl | rfl | rfl | rfl | rfl | rfl <;> omega
theorem dot_le : ∀ (r a : List Int), (∀ n ∈ r, -9 ≤ n ∧ n ≤ 9) → (∀ n ∈ a, -2 ≤ n ∧ n ≤ 6) → -(54 * (r.length : Int)) ≤ dotI r a ∧ dotI r a ≤ 54 * (r.length : Int)
  | [], _, _, _ => by simp [dotI]
  | x :: r, [], _, _ => by simp [dotI]; omega
  | x :: r, y :: a, h, k => by
    have ih := dot_le r a (fun n hn => h n (List.mem_cons_of_mem _ hn)) fun n hn => k n (List.mem_cons_of_mem _ hn)
    have p := prod_le (h x List.mem_cons_self) (k y List.mem_cons_self)
    have e : dotI (x :: r) (y :: a) = x * y + dotI r a := by simp [dotI]
    rw [e]
    simp only [List.length_cons]
    omega
theorem nice_ints : ∀ v : List Int, (∀ n ∈ v, n.natAbs < 2 ^ 64) → niceAll (v.map PyData.int) = true
  | [], _ => rfl
  | n :: v, h => by
    have h1 := h n List.mem_cons_self
    have hl : n.natAbs.log2 < 1920 := by
      by_cases z : n.natAbs = 0
      · rw [z]; decide
      · have := (Nat.log2_lt z).mpr h1; omega
    simp only [List.map_cons, niceAll, nice, decide_eq_true hl, nice_ints v fun m hm => h m (List.mem_cons_of_mem _ hm), Bool.and_self]
theorem log_le {n : Nat} (h : n < 2 ^ 64) : n.log2 < 64 := by
  by_cases z : n = 0
  · rw [z]; decide
  · exact (Nat.log2_lt z).mpr h
theorem weight_int {n : Int} (h : n.natAbs < 2 ^ 64) : PyData.weight (.int n) ≤ 64 := by
  have := log_le h
  simp only [PyData.weight]
  split <;> omega
theorem weight_ints : ∀ v : List Int, (∀ n ∈ v, n.natAbs < 2 ^ 64) → PyData.weightAll (v.map PyData.int) ≤ 65 * v.length
  | [], _ => by simp [PyData.weightAll]
  | n :: v, h => by
    have h1 := weight_ints v fun m hm => h m (List.mem_cons_of_mem _ hm)
    have h2 := weight_int (h n List.mem_cons_self)
    simp only [List.map_cons, PyData.weightAll, List.length_cons]; omega
theorem repr_vec {v : List Int} (hl : v.length ≤ 100) (h : ∀ n ∈ v, n.natAbs < 2 ^ 64) : ∃ z, kRepr [vec v] = some (.str z) :=
  ⟨_, kRepr_nice (by simpa [nice] using nice_ints v h) (by simp [PyData.depth, depth_ints]) (by have := weight_ints v h; simp only [PyData.weight]; omega)⟩
theorem repr_int {n : Int} (h : n.natAbs < 2 ^ 64) : ∃ z, kRepr [.int n] = some (.str z) :=
  ⟨_, kRepr_nice (by have := log_le h; have hl : n.natAbs.log2 < 1920 := by omega
                     simp [nice, hl]) (by simp [PyData.depth]) (by have := weight_int h; omega)⟩
theorem nice_vecs : ∀ C : List (List Int), (∀ v ∈ C, ∀ n ∈ v, n.natAbs < 2 ^ 64) → niceAll (C.map vec) = true
  | [], _ => rfl
  | v :: C, h => by
    have := nice_ints v (h v List.mem_cons_self)
    simp [niceAll, nice, this, nice_vecs C fun w hw => h w (List.mem_cons_of_mem _ hw)]
theorem weight_vecs : ∀ C : List (List Int), (∀ v ∈ C, v.length ≤ 10 ∧ ∀ n ∈ v, n.natAbs < 2 ^ 64) → PyData.weightAll (C.map vec) ≤ 700 * C.length
  | [], _ => by simp [PyData.weightAll]
  | v :: C, h => by
    have h1 := weight_vecs C fun w hw => h w (List.mem_cons_of_mem _ hw)
    have h3 := h v List.mem_cons_self
    have h2 := weight_ints v h3.2
    simp only [List.map_cons, PyData.weightAll, PyData.weight, List.length_cons]; omega
theorem depth_vecs : ∀ C : List (List Int), PyData.depthAll (C.map vec) ≤ 1
  | [] => by simp [PyData.depthAll]
  | v :: C => by
    have := depth_vecs C
    simp [PyData.depthAll, PyData.depth, depth_ints]; omega
theorem repr_cols {C : List (List Int)} (hl : C.length ≤ 10) (h : ∀ v ∈ C, v.length ≤ 10 ∧ ∀ n ∈ v, n.natAbs < 2 ^ 64) : ∃ z, kRepr [.list [.none, .list (C.map vec)]] = some (.str z) := by
  refine ⟨_, kRepr_nice ?_ ?_ ?_⟩
  · simp [nice, niceAll, nice_vecs C fun v hv => (h v hv).2]
  · have := depth_vecs C
    simp [PyData.depth, PyData.depthAll]; omega
  · have := weight_vecs C h
    simp only [PyData.weight, PyData.weightAll]; omega
theorem dot_le2 (A B : Nat) : ∀ (r a : List Int), (∀ n ∈ r, n.natAbs ≤ A) → (∀ n ∈ a, n.natAbs ≤ B) → (dotI r a).natAbs ≤ A * B * r.length
  | [], _, _, _ => by simp [dotI]
  | x :: r, [], _, _ => by simp [dotI]
  | x :: r, y :: a, h, k => by
    have ih := dot_le2 A B r a (fun n hn => h n (List.mem_cons_of_mem _ hn)) fun n hn => k n (List.mem_cons_of_mem _ hn)
    have p : (x * y).natAbs ≤ A * B := by rw [Int.natAbs_mul]; exact Nat.mul_le_mul (h x List.mem_cons_self) (k y List.mem_cons_self)
    have e : dotI (x :: r) (y :: a) = x * y + dotI r a := by simp [dotI]
    rw [e, List.length_cons, Nat.mul_add, Nat.mul_one]
    have := Int.natAbs_add_le (x * y) (dotI r a)
    omega
theorem at_cons {r0 : List Int} {M : List (List Int)} : atI ((r0 :: M).map vec) 0 = some (vec r0) := by simp
theorem all_ent {k : Int} {v : List Int} : v.all (ent k) = true ↔ ∀ n ∈ v, -k ≤ n ∧ n ≤ k := by
  simp [List.all_eq_true, ent]
theorem pure_law : ∀ ns : List Int, ns.length ≤ 63 → (∀ z ∈ ns, Builtin.Int.intBits z ≤ 1048576) → f_law [.list (ns.map PyData.int)] = .ok (.val (.bool true)) := by
  intro ns hl _
  obtain ⟨xs, d1, dx, lx⟩ := draws_eq ns hl
  obtain ⟨ys, zs1, e2, dy, ly, _⟩ := more_eq xs.reverse dx.rev (by rw [List.length_reverse]; exact lx) 120 (by omega)
  obtain ⟨M, m, y2, e3, hM, dy2, _⟩ := any_eq dy
  obtain ⟨r0, M', rfl⟩ : ∃ r0 M', M = r0 :: M' := by
    cases M with
    | nil => have := hM.r1; simp at this
    | cons r0 M' => exact ⟨r0, M', rfl⟩
  generalize hMM : r0 :: M' = M at *
  have a0 : atI (M.map vec) 0 = some (vec r0) := by rw [← hMM]; exact at_cons
  have lr0 : r0.length = m := hM.row r0 (by rw [← hMM]; exact List.mem_cons_self)
  have hw : wid M = m := by rw [← hMM]; exact lr0
  have c1 := hM.c1
  have c6 := hM.c6
  have q1 := hM.r1
  have q3 := hM.r3
  have hm : isMat M = true := by
    rw [← hMM] at hM q3 ⊢
    simp only [isMat, Bool.and_eq_true, decide_eq_true_eq, List.all_eq_true]
    refine ⟨⟨⟨q3, by omega⟩, by omega⟩, fun r hr => ?_⟩
    simp only [rowOk, Bool.and_eq_true, decide_eq_true_eq, List.all_eq_true, inR]
    exact ⟨by rw [hM.row r hr, lr0], fun n hn => hM.ent r hr n hn⟩
  have sm : Sm M := ⟨by omega, fun r hr => by rw [hM.row r hr]; omega⟩
  have bm : Bm M := ⟨sm, fun r hr => bd_lh (by rw [hM.row r hr]; omega) (hM.ent r hr) (by decide) (by decide)⟩
  obtain ⟨sd0, y3, e9, sl0, sb0, dy3, _⟩ := vector_eq dy2 M.length (by omega) (-30) 30 (by decide)
  obtain ⟨c, y4, e10, cl, cb, dy4, _⟩ := vector_eq dy3 m (by omega) (-50) 50 (by decide)
  obtain ⟨a, y5, e11, al, ab, dy5, _⟩ := vector_eq dy4 m (by omega) (-2) 6 (by decide)
  obtain ⟨b, y6, e12, bl, bb, dy6, _⟩ := vector_eq dy5 m (by omega) (-2) 6 (by decide)
  obtain ⟨u, y7, e13, _, _, _, _⟩ := next_ex dy6
  have ba : Bd a := bd_lh (by omega) ab (by decide) (by decide)
  have bb' : Bd b := bd_lh (by omega) bb (by decide) (by decide)
  have bc : Bd c := bd_lh (by omega) cb (by decide) (by decide)
  have hrl : ∀ r ∈ M, r.length ≤ a.length := fun r hr => by rw [hM.row r hr]; omega
  have imgB : ∀ n ∈ imgI M a, -324 ≤ n ∧ n ≤ 324 := by
    intro n hn
    obtain ⟨r, hr, rfl⟩ := List.mem_map.mp hn
    have := dot_le r a (hM.ent r hr) ab
    have hl := hM.row r hr
    omega
  have imgL : (imgI M a).length = M.length := by simp [imgI]
  have li := law_image_eq bm ba hrl
  generalize hsd : (if u.fmod 2 = 0 then imgI M a else sd0) = sd
  have sl : sd.length = M.length := by
    by_cases q : u.fmod 2 = 0
    · rw [← hsd, if_pos q]; exact imgL
    · rw [← hsd, if_neg q]; exact sl0
  have sb : ∀ n ∈ sd, -1000000 ≤ n ∧ n ≤ 1000000 := by
    intro n hn
    rw [← hsd] at hn
    split at hn
    · have := imgB n hn; omega
    · have := sb0 n hn; omega
  have sok : sideOk M sd = true := by simp only [sideOk, Bool.and_eq_true, decide_eq_true_eq, all_ent]; exact ⟨by rw [sl], sb⟩
  have vok : ∀ v : List Int, v.length = m → vecOk M v = true := fun v h => by simp only [vecOk, decide_eq_true_eq, h, hw]
  have vno : ∀ v : List Int, v.length ≠ m → vecOk M v = false := fun v h => by simp only [vecOk, decide_eq_false_iff_not, hw]; omega
  have cok : costOk M c = true := by simp only [costOk, Bool.and_eq_true, decide_eq_true_eq, all_ent]; exact ⟨by rw [cl, hw], cb⟩
  have sno : ∀ v : List Int, v.length ≠ M.length → sideOk M v = false := fun v h => by
    have : ¬ (v.length : Int) = (M.length : Int) := by omega
    simp [sideOk, this]
  have cno : ∀ v : List Int, v.length ≠ m → costOk M v = false := fun v h => by
    have : ¬ (v.length : Int) = (wid M : Int) := by rw [hw]; omega
    simp [costOk, this]
  have et : (PyData.tuple [] : D) = vec [] := rfl
  have av := vok a al
  have bv := vok b bl
  have nv : vecOk M [] = false := vno [] (by simp; omega)
  have ns0 : sideOk M [] = false := sno [] (by simp; omega)
  have nc0 : costOk M [] = false := cno [] (by simp; omega)
  have an : a ≠ [] := fun z => by rw [z] at al; simp at al; omega
  have cmk : f_check_matrix [mtx M] = .ok (.val .none) := by rw [check_matrix_eq sm, hm]; rfl
  have lcols := law_columns_eq sm hm
  obtain ⟨z5, hz5⟩ : ∃ z, kRepr [.list [.none, .list ((colI M).map vec)]] = some (.str z) := by
    refine repr_cols (by simp [colI, hw]; omega) fun v hv => ?_
    obtain ⟨k, hk, rfl⟩ := List.mem_map.mp hv
    refine ⟨by simp; omega, fun n hn => ?_⟩
    obtain ⟨r, hr, rfl⟩ := List.mem_map.mp hn
    have hk' : k < r.length := by rw [hM.row r hr, ← hw]; exact List.mem_range.mp hk
    have := hM.ent r hr _ (getD_mem hk')
    omega
  obtain ⟨z18, hz18⟩ := repr_vec (v := imgI M a) (by rw [imgL]; omega) fun n hn => by have := imgB n hn; omega
  have dcb := dot_le2 50 6 c a (fun n hn => by have := cb n hn; omega) fun n hn => by have := ab n hn; omega
  have dcb2 : (dotI c a).natAbs < 2 ^ 64 := by rw [cl] at dcb; omega
  obtain ⟨z18b, hz18b⟩ := repr_int dcb2
  obtain ⟨z19, hz19⟩ : ∃ z, kRepr [.bool (solvI M sd a)] = some (.str z) := ⟨_, kRepr_nice rfl (by simp [PyData.depth]) (by simp [PyData.weight])⟩
  have f5 := st5 (s := some (.val (.list (zs ns)))) (xs := y2) (m := m) (by rw [is_matrix_eq M sm.len sm.row, hm]) (told3_ok cmk) (told4_ok (by rw [columns_eq sm, hm]; rfl)) lcols hz5
  obtain ⟨x8, hx8, f8⟩ := st8 (s := some (.val (.list (zs ns)))) (xs := y2) (m := m) (wrong_ok (M := M) (r0 := r0) q1 q3 (by omega) (by omega) sm.row)
  have s15 : (farI M sd).map (sideOk M) = [true, true, false, false, false, false] := by
    have g1 : sideOk M (List.replicate M.length 1000000) = true := by
      simp only [sideOk, Bool.and_eq_true, decide_eq_true_eq, all_ent, List.length_replicate]
      exact ⟨trivial, fun n hn => by rw [(List.mem_replicate.mp hn).2]; omega⟩
    have g2 : sideOk M (List.replicate M.length (-1000000)) = true := by
      simp only [sideOk, Bool.and_eq_true, decide_eq_true_eq, all_ent, List.length_replicate]
      exact ⟨trivial, fun n hn => by rw [(List.mem_replicate.mp hn).2]; omega⟩
    have g3 : sideOk M (1000001 :: sd.drop 1) = false := by simp [sideOk, ent]
    have g6 : sideOk M ((-1000001) :: sd.drop 1) = false := by simp [sideOk, ent]
    have g4 := sno (sd ++ [0]) (by simp; omega)
    have g5 := sno (sd.drop 1) (by simp; omega)
    simp only [farI, List.map_cons, List.map_nil, g1, g2, g3, g4, g5, g6]
  have s16 : (badC m c).map (costOk M) = [true, false, false, false] := by
    have g1 : costOk M (List.replicate m 50) = true := by
      simp only [costOk, Bool.and_eq_true, decide_eq_true_eq, all_ent, List.length_replicate, hw]
      exact ⟨trivial, fun n hn => by rw [(List.mem_replicate.mp hn).2]; omega⟩
    have g2 : costOk M (51 :: c.drop 1) = false := by simp [costOk, ent]
    have g3 : costOk M ((-51) :: c.drop 1) = false := by simp [costOk, ent]
    have g4 := cno (c ++ [0]) (by simp; omega)
    simp only [badC, List.map_cons, List.map_nil, g1, g2, g3, g4]
  have s17 : (badV m a).map (vecOk M) = [true, false, false] := by
    have g1 := vok (List.replicate m 1000000000000000000000000000000) (by simp)
    have g2 := vno (a ++ [0]) (by simp; omega)
    have g3 := vno (a.drop 1) (by simp; omega)
    simp only [badV, List.map_cons, List.map_nil, g1, g2, g3]
  obtain ⟨u20, v20, hu20, hv20, f20⟩ := st20 (s := some (.val (.list (zs ns)))) (xs := y7) (M := M) (r0 := r0) (sd := sd) (c := c) (a := a) (b := b) (m := m)
    (fun p q hp hq => before_ok (by
      have bp : Bd p ∧ vecOk M p = true := by rcases hp with rfl | rfl; exact ⟨ba, av⟩; exact ⟨bb', bv⟩
      have bq : Bd q ∧ vecOk M q = true := by rcases hq with rfl | rfl; exact ⟨ba, av⟩; exact ⟨bb', bv⟩
      rw [comes_before_eq sm bc.1 (fun _ _ _ _ => ⟨bc, bp.1, bq.1⟩), hm, cok, bp.2, bq.2]; rfl))
    (fun p hp => by
      have bp : Bd p ∧ p.length = m := by rcases hp with rfl | rfl; exact ⟨ba, al⟩; exact ⟨bb', bl⟩
      exact law_key_eq bc bp.1 (by omega))
  have f13 := st13 (s := some (.val (.list (zs ns)))) (xs := y7) (M := M) (r0 := r0) (sd := sd) (c := c) (a := a) (b := b) (m := m) (by rw [is_side_eq sm (by omega), hm, sok]; rfl) (by rw [is_vector_eq sm, hm, av]; rfl) (by rw [is_cost_eq sm bc.1, hm, cok]; rfl)
  have f14 := st14 (s := some (.val (.list (zs ns)))) (xs := y7) (M := M) (r0 := r0) (sd := sd) (c := c) (a := a) (b := b) (m := m) q3 (by omega)
  have f15 := st15 (s := some (.val (.list (zs ns)))) (xs := y7) (M := M) (r0 := r0) (sd := sd) (c := c) (a := a) (b := b) (m := m) (fun v hv => by
    have : v.length ≤ 1000 := by
      simp only [farI, List.mem_cons, List.not_mem_nil, or_false] at hv
      rcases hv with rfl | rfl | rfl | rfl | rfl | rfl <;> simp <;> omega
    rw [is_side_eq sm this, hm]; rfl) s15
  have f16 := st16 (s := some (.val (.list (zs ns)))) (xs := y7) (M := M) (r0 := r0) (sd := sd) (c := c) (a := a) (b := b) (m := m) c6 (by omega) (fun v hv => by
    have : v.length ≤ 1000 := by
      simp only [badC, List.mem_cons, List.not_mem_nil, or_false] at hv
      rcases hv with rfl | rfl | rfl | rfl <;> simp <;> omega
    rw [is_cost_eq sm this, hm]; rfl) s16
  have f17 := st17 (s := some (.val (.list (zs ns)))) (xs := y7) (M := M) (r0 := r0) (sd := sd) (c := c) (a := a) (b := b) (m := m) c6 (by omega) (fun v hv => by rw [is_vector_eq sm, hm]; rfl) s17
  have f18 := st18 (s := some (.val (.list (zs ns)))) (xs := y7) (M := M) (r0 := r0) (sd := sd) (c := c) (a := a) (b := b) (m := m) (told5_ok (by rw [image_eq sm (fun _ _ => ⟨bm, ba⟩), hm, av]; rfl)) li hz18 (told7_ok (by rw [price_eq sm bc.1 (fun _ _ _ => ⟨bc, ba⟩), hm, cok, av]; rfl)) (law_dot_eq bc ba (by omega)) hz18b
  have f19 := st19 (s := some (.val (.list (zs ns)))) (xs := y7) (M := M) (r0 := r0) (sd := sd) (c := c) (a := a) (b := b) (m := m) (told6_ok (by rw [is_solution_eq sm (by omega) (fun _ _ => ⟨bm, ba, an⟩), hm, sok, av]; rfl)) li hz19 an
  have f21 := st21 (s := some (.val (.list (zs ns)))) (u := u20) (v := v20) (xs := y7) (M := M) (r0 := r0) (sd := sd) (c := c) (a := a) (b := b) (m := m) (by omega) (by omega) (by omega)
    (told0_err (by rw [check_side_eq sm (by simp; omega), hm, sno _ (by simp; omega)]; rfl) hk2) (told1_err (by rw [check_vector_eq sm, hm, vno _ (by simp; omega)]; rfl) hk3) (told2_err (by rw [check_cost_eq sm (by simp; omega), hm, cno _ (by simp; omega)]; rfl) hk4)
    (told5_err (by rw [et, image_eq sm (fun _ q => by rw [nv] at q; cases q), hm, nv]; rfl) hk3)
  have f22 := st22 (s := some (.val (.list (zs ns)))) (u := u20) (v := v20) (xs := y7) (M := M) (r0 := r0) (sd := sd) (c := c) (a := a) (b := b) (m := m)
    (told6_err (by rw [et, is_solution_eq sm (by simp) (fun _ q => by rw [nv] at q; cases q), hm, ns0]; rfl) hk2) (told6_err (by rw [et, is_solution_eq sm (by omega) (fun _ q => by rw [nv] at q; cases q), hm, sok, nv]; rfl) hk3)
    (told7_err (by rw [et, price_eq sm (by simp) (fun _ q => by rw [nc0] at q; cases q), hm, nc0]; rfl) hk4) (told7_err (by rw [et, price_eq sm bc.1 (fun _ _ q => by rw [nv] at q; cases q), hm, cok, nv]; rfl) hk3)
  have f23 := st23 (s := some (.val (.list (zs ns)))) (u := u20) (v := v20) (xs := y7) (M := M) (r0 := r0) (sd := sd) (c := c) (a := a) (b := b) (m := m)
    (before_err (by rw [et, comes_before_eq sm (by simp) (fun _ q => by rw [nc0] at q; cases q), hm, nc0]; rfl) hk4) (before_err (by rw [et, comes_before_eq sm bc.1 (fun _ _ q => by rw [nv] at q; cases q), hm, cok, nv]; rfl) hk3)
    (before_err (by rw [et, comes_before_eq sm bc.1 (fun _ _ _ q => by rw [nv] at q; cases q), hm, cok, av, nv]; rfl) hk3)
  have f12 := st12 (s := some (.val (.list (zs ns)))) (M := M) (r0 := r0) (sd := sd0) (c := c) (a := a) (b := b) (m := m) e13 li
  rw [hsd] at f12
  unfold f_law
  rw [runF_out, b_law_eq]
  show outF (gSeq S0 _ [some (.val (.list (zs ns))), none, none, none, none, none, none, none, none, none, none, none, none, none, none, none, none]) = _
  rw [gSeq_ap, st0 d1, seqF_nx, gSeq_ap, st1, seqF_nx, gSeq_ap, st2 e2, seqF_nx, gSeq_ap, st3 e3, seqF_nx, gSeq_ap, st4 a0 lr0, seqF_nx, gSeq_ap, f5, seqF_nx, gSeq_ap, st6 a0, seqF_nx, gSeq_ap, st7 q3 (by omega), seqF_nx, gSeq_ap, f8, seqF_nx,
    gSeq_ap, st9 e9, seqF_nx, gSeq_ap, st10 e10, seqF_nx, gSeq_ap, st11 hx8 e11 e12, seqF_nx, gSeq_ap, f12, seqF_nx, gSeq_ap, f13, seqF_nx, gSeq_ap, f14, seqF_nx, gSeq_ap, f15, seqF_nx, gSeq_ap, f16, seqF_nx, gSeq_ap, f17, seqF_nx, gSeq_ap, f18, seqF_nx,
    gSeq_ap, f19, seqF_nx, gSeq_ap, f20, seqF_nx, gSeq_ap, f21, seqF_nx, gSeq_ap, f22, seqF_nx, gSeq_ap, f23, seqF_nx, st24]
  rfl
end K00

namespace K00
open L2 PySem PySem.Spec PyProof.Rows DL
theorem walk {l : PySem.W.OpenLaw} {q : Program} {loose : List Str} {XP : (Str → Option Value) → Heap → Prop} {YP : World → Heap → Prop} {d : DefRec} {K : Params → Frg} (hn : l.most = some 63) (hdf : d.params.defaults = [])
    (hY : ∀ (w : World) (h : Heap), YP w h → (K w.params).In h)
    (F : ∀ (w : World) (mg : Mg) (fa : Addr) (h : Heap), (K w.params).In h → h.Ns mainGlobals mg → mg d.name = some (.ref fa) →
      ∃ (fd : FuncData) (Fl : Fn), (∀ (s : Shared) (u : Value), BindsTo s fd ⟨[u], []⟩ [("script", u)]) ∧ (∀ ns : List Int, ns.length ≤ 63 → (∀ z ∈ ns, Builtin.Int.intBits z ≤ 1048576) → Fl [.list (ns.map PyData.int)] = .ok (.val (.bool true))) ∧
        ∀ base : Heap, (K w.params).In base → base.Ns mainGlobals mg → LawRun l.prog w (K w.params) mg base fa fd ["script"] (spP (K w.params) mg 1 Fl)) :
    PySem.W.WalkO q loose XP YP l.row.toRowW d [] (fun f vs => PySem.call f vs) :=
  walk_D hn (by decide) hdf hY F
theorem all_mk {P : Program} {w : World} {K : Frg} {h : Heap} {mg : Mg} {fa C_TallyError C_NotMatrix C_NotPointed C_NotSide C_NotVector C_NotCost C_BadNumber C_NoAnswer C_TooLarge : Addr} (X : K.In h) (G : h.Ns mainGlobals mg) (hfa : mg "law" = some (.ref fa))
    {F_is_matrix : Addr} {od_is_matrix an_is_matrix : Option Addr} {sl_is_matrix : Array (Option Value)} {oc_is_matrix kV_is_matrix dc_is_matrix pm_is_matrix cd_is_matrix ct_is_matrix : Value}
    {F_check_matrix : Addr} {od_check_matrix an_check_matrix : Option Addr} {sl_check_matrix : Array (Option Value)} {oc_check_matrix kV_check_matrix dc_check_matrix pm_check_matrix cd_check_matrix ct_check_matrix : Value}
    {F_has_entries : Addr} {od_has_entries an_has_entries : Option Addr} {sl_has_entries : Array (Option Value)} {oc_has_entries kV_has_entries dc_has_entries pm_has_entries cd_has_entries ct_has_entries : Value}
    {F_is_side : Addr} {od_is_side an_is_side : Option Addr} {sl_is_side : Array (Option Value)} {oc_is_side kV_is_side dc_is_side pm_is_side cd_is_side ct_is_side : Value}
    {F_is_vector : Addr} {od_is_vector an_is_vector : Option Addr} {sl_is_vector : Array (Option Value)} {oc_is_vector kV_is_vector dc_is_vector pm_is_vector cd_is_vector ct_is_vector : Value}
    {F_is_cost : Addr} {od_is_cost an_is_cost : Option Addr} {sl_is_cost : Array (Option Value)} {oc_is_cost kV_is_cost dc_is_cost pm_is_cost cd_is_cost ct_is_cost : Value}
    {F_check_side : Addr} {od_check_side an_check_side : Option Addr} {sl_check_side : Array (Option Value)} {oc_check_side kV_check_side dc_check_side pm_check_side cd_check_side ct_check_side : Value}
    {F_check_vector : Addr} {od_check_vector an_check_vector : Option Addr} {sl_check_vector : Array (Option Value)} {oc_check_vector kV_check_vector dc_check_vector pm_check_vector cd_check_vector ct_check_vector : Value}
    {F_check_cost : Addr} {od_check_cost an_check_cost : Option Addr} {sl_check_cost : Array (Option Value)} {oc_check_cost kV_check_cost dc_check_cost pm_check_cost cd_check_cost ct_check_cost : Value}
    {F_dot : Addr} {od_dot an_dot : Option Addr} {sl_dot : Array (Option Value)} {oc_dot kV_dot dc_dot pm_dot cd_dot ct_dot : Value}
    {F_image_of : Addr} {od_image_of an_image_of : Option Addr} {sl_image_of : Array (Option Value)} {oc_image_of kV_image_of dc_image_of pm_image_of cd_image_of ct_image_of : Value}
    {F_columns_of : Addr} {od_columns_of an_columns_of : Option Addr} {sl_columns_of : Array (Option Value)} {oc_columns_of kV_columns_of dc_columns_of pm_columns_of cd_columns_of ct_columns_of : Value}
    {F_columns : Addr} {od_columns an_columns : Option Addr} {sl_columns : Array (Option Value)} {oc_columns kV_columns dc_columns pm_columns cd_columns ct_columns : Value}
    {F_image : Addr} {od_image an_image : Option Addr} {sl_image : Array (Option Value)} {oc_image kV_image dc_image pm_image cd_image ct_image : Value}
    {F_solves : Addr} {od_solves an_solves : Option Addr} {sl_solves : Array (Option Value)} {oc_solves kV_solves dc_solves pm_solves cd_solves ct_solves : Value}
    {F_is_solution : Addr} {od_is_solution an_is_solution : Option Addr} {sl_is_solution : Array (Option Value)} {oc_is_solution kV_is_solution dc_is_solution pm_is_solution cd_is_solution ct_is_solution : Value}
    {F_price : Addr} {od_price an_price : Option Addr} {sl_price : Array (Option Value)} {oc_price kV_price dc_price pm_price cd_price ct_price : Value}
    {F_key_of : Addr} {od_key_of an_key_of : Option Addr} {sl_key_of : Array (Option Value)} {oc_key_of kV_key_of dc_key_of pm_key_of cd_key_of ct_key_of : Value}
    {F_comes_before : Addr} {od_comes_before an_comes_before : Option Addr} {sl_comes_before : Array (Option Value)} {oc_comes_before kV_comes_before dc_comes_before pm_comes_before cd_comes_before ct_comes_before : Value}
    {F_u_law_number : Addr} {od_u_law_number an_u_law_number : Option Addr} {sl_u_law_number : Array (Option Value)} {oc_u_law_number kV_u_law_number dc_u_law_number pm_u_law_number cd_u_law_number ct_u_law_number : Value}
    {F_u_law_draws : Addr} {od_u_law_draws an_u_law_draws : Option Addr} {sl_u_law_draws : Array (Option Value)} {oc_u_law_draws kV_u_law_draws dc_u_law_draws pm_u_law_draws cd_u_law_draws ct_u_law_draws : Value}
    {F_u_law_next : Addr} {od_u_law_next an_u_law_next : Option Addr} {sl_u_law_next : Array (Option Value)} {oc_u_law_next kV_u_law_next dc_u_law_next pm_u_law_next cd_u_law_next ct_u_law_next : Value}
    {F_u_law_more : Addr} {od_u_law_more an_u_law_more : Option Addr} {sl_u_law_more : Array (Option Value)} {oc_u_law_more kV_u_law_more dc_u_law_more pm_u_law_more cd_u_law_more ct_u_law_more : Value}
    {F_u_law_any : Addr} {od_u_law_any an_u_law_any : Option Addr} {sl_u_law_any : Array (Option Value)} {oc_u_law_any kV_u_law_any dc_u_law_any pm_u_law_any cd_u_law_any ct_u_law_any : Value}
    {F_u_law_dot : Addr} {od_u_law_dot an_u_law_dot : Option Addr} {sl_u_law_dot : Array (Option Value)} {oc_u_law_dot kV_u_law_dot dc_u_law_dot pm_u_law_dot cd_u_law_dot ct_u_law_dot : Value}
    {F_u_law_image : Addr} {od_u_law_image an_u_law_image : Option Addr} {sl_u_law_image : Array (Option Value)} {oc_u_law_image kV_u_law_image dc_u_law_image pm_u_law_image cd_u_law_image ct_u_law_image : Value}
    {F_u_law_columns : Addr} {od_u_law_columns an_u_law_columns : Option Addr} {sl_u_law_columns : Array (Option Value)} {oc_u_law_columns kV_u_law_columns dc_u_law_columns pm_u_law_columns cd_u_law_columns ct_u_law_columns : Value}
    {F_u_law_vector : Addr} {od_u_law_vector an_u_law_vector : Option Addr} {sl_u_law_vector : Array (Option Value)} {oc_u_law_vector kV_u_law_vector dc_u_law_vector pm_u_law_vector cd_u_law_vector ct_u_law_vector : Value}
    {F_u_law_key : Addr} {od_u_law_key an_u_law_key : Option Addr} {sl_u_law_key : Array (Option Value)} {oc_u_law_key kV_u_law_key dc_u_law_key pm_u_law_key cd_u_law_key ct_u_law_key : Value}
    {F_u_law_kind : Addr} {od_u_law_kind an_u_law_kind : Option Addr} {sl_u_law_kind : Array (Option Value)} {oc_u_law_kind kV_u_law_kind dc_u_law_kind pm_u_law_kind cd_u_law_kind ct_u_law_kind : Value}
    {F_u_law_told : Addr} {od_u_law_told an_u_law_told : Option Addr} {sl_u_law_told : Array (Option Value)} {oc_u_law_told kV_u_law_told dc_u_law_told pm_u_law_told cd_u_law_told ct_u_law_told : Value}
    {F_u_law_before : Addr} {od_u_law_before an_u_law_before : Option Addr} {sl_u_law_before : Array (Option Value)} {oc_u_law_before kV_u_law_before dc_u_law_before pm_u_law_before cd_u_law_before ct_u_law_before : Value}
    {F_law : Addr} {od_law an_law : Option Addr} {sl_law : Array (Option Value)} {oc_law kV_law dc_law pm_law cd_law ct_law : Value}
    {tk_MOST_COLUMNS : Tok}
    {tk_MOST_COST : Tok}
    {tk_MOST_ENTRY : Tok}
    {tk_MOST_ROWS : Tok}
    {tk_MOST_SIDE : Tok}
    (a_is_matrix : PySem.W.nsIn K mainGlobals "is_matrix" = some (some (.ref F_is_matrix)))
    (l_is_matrix : K.lookup F_is_matrix = some ⟨oc_is_matrix, od_is_matrix, .func (PySem.W.fnOf "is_matrix" "is_matrix" (defArgs s_is_matrix) (defBody s_is_matrix) (defScope s_is_matrix) .none kV_is_matrix dc_is_matrix pm_is_matrix an_is_matrix cd_is_matrix ct_is_matrix), sl_is_matrix⟩)
    (c_is_matrix : PySem.W.codeIn K cd_is_matrix "is_matrix" = true)
    (k_is_matrix : PySem.W.keepIn K (.ref F_is_matrix) = true)
    (a_check_matrix : PySem.W.nsIn K mainGlobals "check_matrix" = some (some (.ref F_check_matrix)))
    (l_check_matrix : K.lookup F_check_matrix = some ⟨oc_check_matrix, od_check_matrix, .func (PySem.W.fnOf "check_matrix" "check_matrix" (defArgs s_check_matrix) (defBody s_check_matrix) (defScope s_check_matrix) .none kV_check_matrix dc_check_matrix pm_check_matrix an_check_matrix cd_check_matrix ct_check_matrix), sl_check_matrix⟩)
    (c_check_matrix : PySem.W.codeIn K cd_check_matrix "check_matrix" = true)
    (k_check_matrix : PySem.W.keepIn K (.ref F_check_matrix) = true)
    (a_has_entries : PySem.W.nsIn K mainGlobals "has_entries" = some (some (.ref F_has_entries)))
    (l_has_entries : K.lookup F_has_entries = some ⟨oc_has_entries, od_has_entries, .func (PySem.W.fnOf "has_entries" "has_entries" (defArgs s_has_entries) (defBody s_has_entries) (defScope s_has_entries) .none kV_has_entries dc_has_entries pm_has_entries an_has_entries cd_has_entries ct_has_entries), sl_has_entries⟩)
    (c_has_entries : PySem.W.codeIn K cd_has_entries "has_entries" = true)
    (k_has_entries : PySem.W.keepIn K (.ref F_has_entries) = true)
    (a_is_side : PySem.W.nsIn K mainGlobals "is_side" = some (some (.ref F_is_side)))
    (l_is_side : K.lookup F_is_side = some ⟨oc_is_side, od_is_side, .func (PySem.W.fnOf "is_side" "is_side" (defArgs s_is_side) (defBody s_is_side) (defScope s_is_side) .none kV_is_side dc_is_side pm_is_side an_is_side cd_is_side ct_is_side), sl_is_side⟩)
    (c_is_side : PySem.W.codeIn K cd_is_side "is_side" = true)
    (k_is_side : PySem.W.keepIn K (.ref F_is_side) = true)
    (a_is_vector : PySem.W.nsIn K mainGlobals "is_vector" = some (some (.ref F_is_vector)))
    (l_is_vector : K.lookup F_is_vector = some ⟨oc_is_vector, od_is_vector, .func (PySem.W.fnOf "is_vector" "is_vector" (defArgs s_is_vector) (defBody s_is_vector) (defScope s_is_vector) .none kV_is_vector dc_is_vector pm_is_vector an_is_vector cd_is_vector ct_is_vector), sl_is_vector⟩)
    (c_is_vector : PySem.W.codeIn K cd_is_vector "is_vector" = true)
    (k_is_vector : PySem.W.keepIn K (.ref F_is_vector) = true)
    (a_is_cost : PySem.W.nsIn K mainGlobals "is_cost" = some (some (.ref F_is_cost)))
    (l_is_cost : K.lookup F_is_cost = some ⟨oc_is_cost, od_is_cost, .func (PySem.W.fnOf "is_cost" "is_cost" (defArgs s_is_cost) (defBody s_is_cost) (defScope s_is_cost) .none kV_is_cost dc_is_cost pm_is_cost an_is_cost cd_is_cost ct_is_cost), sl_is_cost⟩)
    (c_is_cost : PySem.W.codeIn K cd_is_cost "is_cost" = true)
    (k_is_cost : PySem.W.keepIn K (.ref F_is_cost) = true)
    (a_check_side : PySem.W.nsIn K mainGlobals "check_side" = some (some (.ref F_check_side)))
    (l_check_side : K.lookup F_check_side = some ⟨oc_check_side, od_check_side, .func (PySem.W.fnOf "check_side" "check_side" (defArgs s_check_side) (defBody s_check_side) (defScope s_check_side) .none kV_check_side dc_check_side pm_check_side an_check_side cd_check_side ct_check_side), sl_check_side⟩)
    (c_check_side : PySem.W.codeIn K cd_check_side "check_side" = true)
    (k_check_side : PySem.W.keepIn K (.ref F_check_side) = true)
    (a_check_vector : PySem.W.nsIn K mainGlobals "check_vector" = some (some (.ref F_check_vector)))
    (l_check_vector : K.lookup F_check_vector = some ⟨oc_check_vector, od_check_vector, .func (PySem.W.fnOf "check_vector" "check_vector" (defArgs s_check_vector) (defBody s_check_vector) (defScope s_check_vector) .none kV_check_vector dc_check_vector pm_check_vector an_check_vector cd_check_vector ct_check_vector), sl_check_vector⟩)
    (c_check_vector : PySem.W.codeIn K cd_check_vector "check_vector" = true)
    (k_check_vector : PySem.W.keepIn K (.ref F_check_vector) = true)
    (a_check_cost : PySem.W.nsIn K mainGlobals "check_cost" = some (some (.ref F_check_cost)))
    (l_check_cost : K.lookup F_check_cost = some ⟨oc_check_cost, od_check_cost, .func (PySem.W.fnOf "check_cost" "check_cost" (defArgs s_check_cost) (defBody s_check_cost) (defScope s_check_cost) .none kV_check_cost dc_check_cost pm_check_cost an_check_cost cd_check_cost ct_check_cost), sl_check_cost⟩)
    (c_check_cost : PySem.W.codeIn K cd_check_cost "check_cost" = true)
    (k_check_cost : PySem.W.keepIn K (.ref F_check_cost) = true)
    (a_dot : PySem.W.nsIn K mainGlobals "dot" = some (some (.ref F_dot)))
    (l_dot : K.lookup F_dot = some ⟨oc_dot, od_dot, .func (PySem.W.fnOf "dot" "dot" (defArgs s_dot) (defBody s_dot) (defScope s_dot) .none kV_dot dc_dot pm_dot an_dot cd_dot ct_dot), sl_dot⟩)
    (c_dot : PySem.W.codeIn K cd_dot "dot" = true)
    (k_dot : PySem.W.keepIn K (.ref F_dot) = true)
    (a_image_of : PySem.W.nsIn K mainGlobals "image_of" = some (some (.ref F_image_of)))
    (l_image_of : K.lookup F_image_of = some ⟨oc_image_of, od_image_of, .func (PySem.W.fnOf "image_of" "image_of" (defArgs s_image_of) (defBody s_image_of) (defScope s_image_of) .none kV_image_of dc_image_of pm_image_of an_image_of cd_image_of ct_image_of), sl_image_of⟩)
    (c_image_of : PySem.W.codeIn K cd_image_of "image_of" = true)
    (k_image_of : PySem.W.keepIn K (.ref F_image_of) = true)
    (a_columns_of : PySem.W.nsIn K mainGlobals "columns_of" = some (some (.ref F_columns_of)))
    (l_columns_of : K.lookup F_columns_of = some ⟨oc_columns_of, od_columns_of, .func (PySem.W.fnOf "columns_of" "columns_of" (defArgs s_columns_of) (defBody s_columns_of) (defScope s_columns_of) .none kV_columns_of dc_columns_of pm_columns_of an_columns_of cd_columns_of ct_columns_of), sl_columns_of⟩)
    (c_columns_of : PySem.W.codeIn K cd_columns_of "columns_of" = true)
    (k_columns_of : PySem.W.keepIn K (.ref F_columns_of) = true)
    (a_columns : PySem.W.nsIn K mainGlobals "columns" = some (some (.ref F_columns)))
    (l_columns : K.lookup F_columns = some ⟨oc_columns, od_columns, .func (PySem.W.fnOf "columns" "columns" (defArgs s_columns) (defBody s_columns) (defScope s_columns) .none kV_columns dc_columns pm_columns an_columns cd_columns ct_columns), sl_columns⟩)
    (c_columns : PySem.W.codeIn K cd_columns "columns" = true)
    (k_columns : PySem.W.keepIn K (.ref F_columns) = true)
    (a_image : PySem.W.nsIn K mainGlobals "image" = some (some (.ref F_image)))
    (l_image : K.lookup F_image = some ⟨oc_image, od_image, .func (PySem.W.fnOf "image" "image" (defArgs s_image) (defBody s_image) (defScope s_image) .none kV_image dc_image pm_image an_image cd_image ct_image), sl_image⟩)
    (c_image : PySem.W.codeIn K cd_image "image" = true)
    (k_image : PySem.W.keepIn K (.ref F_image) = true)
    (a_solves : PySem.W.nsIn K mainGlobals "solves" = some (some (.ref F_solves)))
    (l_solves : K.lookup F_solves = some ⟨oc_solves, od_solves, .func (PySem.W.fnOf "solves" "solves" (defArgs s_solves) (defBody s_solves) (defScope s_solves) .none kV_solves dc_solves pm_solves an_solves cd_solves ct_solves), sl_solves⟩)
    (c_solves : PySem.W.codeIn K cd_solves "solves" = true)
    (k_solves : PySem.W.keepIn K (.ref F_solves) = true)
    (a_is_solution : PySem.W.nsIn K mainGlobals "is_solution" = some (some (.ref F_is_solution)))
    (l_is_solution : K.lookup F_is_solution = some ⟨oc_is_solution, od_is_solution, .func (PySem.W.fnOf "is_solution" "is_solution" (defArgs s_is_solution) (defBody s_is_solution) (defScope s_is_solution) .none kV_is_solution dc_is_solution pm_is_solution an_is_solution cd_is_solution ct_is_solution), sl_is_solution⟩)
    (c_is_solution : PySem.W.codeIn K cd_is_solution "is_solution" = true)
    (k_is_solution : PySem.W.keepIn K (.ref F_is_solution) = true)
    (a_price : PySem.W.nsIn K mainGlobals "price" = some (some (.ref F_price)))
    (l_price : K.lookup F_price = some ⟨oc_price, od_price, .func (PySem.W.fnOf "price" "price" (defArgs s_price) (defBody s_price) (defScope s_price) .none kV_price dc_price pm_price an_price cd_price ct_price), sl_price⟩)
    (c_price : PySem.W.codeIn K cd_price "price" = true)
    (k_price : PySem.W.keepIn K (.ref F_price) = true)
    (a_key_of : PySem.W.nsIn K mainGlobals "key_of" = some (some (.ref F_key_of)))
    (l_key_of : K.lookup F_key_of = some ⟨oc_key_of, od_key_of, .func (PySem.W.fnOf "key_of" "key_of" (defArgs s_key_of) (defBody s_key_of) (defScope s_key_of) .none kV_key_of dc_key_of pm_key_of an_key_of cd_key_of ct_key_of), sl_key_of⟩)
    (c_key_of : PySem.W.codeIn K cd_key_of "key_of" = true)
    (k_key_of : PySem.W.keepIn K (.ref F_key_of) = true)
    (a_comes_before : PySem.W.nsIn K mainGlobals "comes_before" = some (some (.ref F_comes_before)))
    (l_comes_before : K.lookup F_comes_before = some ⟨oc_comes_before, od_comes_before, .func (PySem.W.fnOf "comes_before" "comes_before" (defArgs s_comes_before) (defBody s_comes_before) (defScope s_comes_before) .none kV_comes_before dc_comes_before pm_comes_before an_comes_before cd_comes_before ct_comes_before), sl_comes_before⟩)
    (c_comes_before : PySem.W.codeIn K cd_comes_before "comes_before" = true)
    (k_comes_before : PySem.W.keepIn K (.ref F_comes_before) = true)
    (a_u_law_number : PySem.W.nsIn K mainGlobals "_law_number" = some (some (.ref F_u_law_number)))
    (l_u_law_number : K.lookup F_u_law_number = some ⟨oc_u_law_number, od_u_law_number, .func (PySem.W.fnOf "_law_number" "_law_number" (defArgs s_u_law_number) (defBody s_u_law_number) (defScope s_u_law_number) .none kV_u_law_number dc_u_law_number pm_u_law_number an_u_law_number cd_u_law_number ct_u_law_number), sl_u_law_number⟩)
    (c_u_law_number : PySem.W.codeIn K cd_u_law_number "_law_number" = true)
    (k_u_law_number : PySem.W.keepIn K (.ref F_u_law_number) = true)
    (a_u_law_draws : PySem.W.nsIn K mainGlobals "_law_draws" = some (some (.ref F_u_law_draws)))
    (l_u_law_draws : K.lookup F_u_law_draws = some ⟨oc_u_law_draws, od_u_law_draws, .func (PySem.W.fnOf "_law_draws" "_law_draws" (defArgs s_u_law_draws) (defBody s_u_law_draws) (defScope s_u_law_draws) .none kV_u_law_draws dc_u_law_draws pm_u_law_draws an_u_law_draws cd_u_law_draws ct_u_law_draws), sl_u_law_draws⟩)
    (c_u_law_draws : PySem.W.codeIn K cd_u_law_draws "_law_draws" = true)
    (k_u_law_draws : PySem.W.keepIn K (.ref F_u_law_draws) = true)
    (a_u_law_next : PySem.W.nsIn K mainGlobals "_law_next" = some (some (.ref F_u_law_next)))
    (l_u_law_next : K.lookup F_u_law_next = some ⟨oc_u_law_next, od_u_law_next, .func (PySem.W.fnOf "_law_next" "_law_next" (defArgs s_u_law_next) (defBody s_u_law_next) (defScope s_u_law_next) .none kV_u_law_next dc_u_law_next pm_u_law_next an_u_law_next cd_u_law_next ct_u_law_next), sl_u_law_next⟩)
    (c_u_law_next : PySem.W.codeIn K cd_u_law_next "_law_next" = true)
    (k_u_law_next : PySem.W.keepIn K (.ref F_u_law_next) = true)
    (a_u_law_more : PySem.W.nsIn K mainGlobals "_law_more" = some (some (.ref F_u_law_more)))
    (l_u_law_more : K.lookup F_u_law_more = some ⟨oc_u_law_more, od_u_law_more, .func (PySem.W.fnOf "_law_more" "_law_more" (defArgs s_u_law_more) (defBody s_u_law_more) (defScope s_u_law_more) .none kV_u_law_more dc_u_law_more pm_u_law_more an_u_law_more cd_u_law_more ct_u_law_more), sl_u_law_more⟩)
    (c_u_law_more : PySem.W.codeIn K cd_u_law_more "_law_more" = true)
    (k_u_law_more : PySem.W.keepIn K (.ref F_u_law_more) = true)
    (a_u_law_any : PySem.W.nsIn K mainGlobals "_law_any" = some (some (.ref F_u_law_any)))
    (l_u_law_any : K.lookup F_u_law_any = some ⟨oc_u_law_any, od_u_law_any, .func (PySem.W.fnOf "_law_any" "_law_any" (defArgs s_u_law_any) (defBody s_u_law_any) (defScope s_u_law_any) .none kV_u_law_any dc_u_law_any pm_u_law_any an_u_law_any cd_u_law_any ct_u_law_any), sl_u_law_any⟩)
    (c_u_law_any : PySem.W.codeIn K cd_u_law_any "_law_any" = true)
    (k_u_law_any : PySem.W.keepIn K (.ref F_u_law_any) = true)
    (a_u_law_dot : PySem.W.nsIn K mainGlobals "_law_dot" = some (some (.ref F_u_law_dot)))
    (l_u_law_dot : K.lookup F_u_law_dot = some ⟨oc_u_law_dot, od_u_law_dot, .func (PySem.W.fnOf "_law_dot" "_law_dot" (defArgs s_u_law_dot) (defBody s_u_law_dot) (defScope s_u_law_dot) .none kV_u_law_dot dc_u_law_dot pm_u_law_dot an_u_law_dot cd_u_law_dot ct_u_law_dot), sl_u_law_dot⟩)
    (c_u_law_dot : PySem.W.codeIn K cd_u_law_dot "_law_dot" = true)
    (k_u_law_dot : PySem.W.keepIn K (.ref F_u_law_dot) = true)
    (a_u_law_image : PySem.W.nsIn K mainGlobals "_law_image" = some (some (.ref F_u_law_image)))
    (l_u_law_image : K.lookup F_u_law_image = some ⟨oc_u_law_image, od_u_law_image, .func (PySem.W.fnOf "_law_image" "_law_image" (defArgs s_u_law_image) (defBody s_u_law_image) (defScope s_u_law_image) .none kV_u_law_image dc_u_law_image pm_u_law_image an_u_law_image cd_u_law_image ct_u_law_image), sl_u_law_image⟩)
    (c_u_law_image : PySem.W.codeIn K cd_u_law_image "_law_image" = true)
    (k_u_law_image : PySem.W.keepIn K (.ref F_u_law_image) = true)
    (a_u_law_columns : PySem.W.nsIn K mainGlobals "_law_columns" = some (some (.ref F_u_law_columns)))
    (l_u_law_columns : K.lookup F_u_law_columns = some ⟨oc_u_law_columns, od_u_law_columns, .func (PySem.W.fnOf "_law_columns" "_law_columns" (defArgs s_u_law_columns) (defBody s_u_law_columns) (defScope s_u_law_columns) .none kV_u_law_columns dc_u_law_columns pm_u_law_columns an_u_law_columns cd_u_law_columns ct_u_law_columns), sl_u_law_columns⟩)
    (c_u_law_columns : PySem.W.codeIn K cd_u_law_columns "_law_columns" = true)
    (k_u_law_columns : PySem.W.keepIn K (.ref F_u_law_columns) = true)
    (a_u_law_vector : PySem.W.nsIn K mainGlobals "_law_vector" = some (some (.ref F_u_law_vector)))
    (l_u_law_vector : K.lookup F_u_law_vector = some ⟨oc_u_law_vector, od_u_law_vector, .func (PySem.W.fnOf "_law_vector" "_law_vector" (defArgs s_u_law_vector) (defBody s_u_law_vector) (defScope s_u_law_vector) .none kV_u_law_vector dc_u_law_vector pm_u_law_vector an_u_law_vector cd_u_law_vector ct_u_law_vector), sl_u_law_vector⟩)
    (c_u_law_vector : PySem.W.codeIn K cd_u_law_vector "_law_vector" = true)
    (k_u_law_vector : PySem.W.keepIn K (.ref F_u_law_vector) = true)
    (a_u_law_key : PySem.W.nsIn K mainGlobals "_law_key" = some (some (.ref F_u_law_key)))
    (l_u_law_key : K.lookup F_u_law_key = some ⟨oc_u_law_key, od_u_law_key, .func (PySem.W.fnOf "_law_key" "_law_key" (defArgs s_u_law_key) (defBody s_u_law_key) (defScope s_u_law_key) .none kV_u_law_key dc_u_law_key pm_u_law_key an_u_law_key cd_u_law_key ct_u_law_key), sl_u_law_key⟩)
    (c_u_law_key : PySem.W.codeIn K cd_u_law_key "_law_key" = true)
    (k_u_law_key : PySem.W.keepIn K (.ref F_u_law_key) = true)
    (a_u_law_kind : PySem.W.nsIn K mainGlobals "_law_kind" = some (some (.ref F_u_law_kind)))
    (l_u_law_kind : K.lookup F_u_law_kind = some ⟨oc_u_law_kind, od_u_law_kind, .func (PySem.W.fnOf "_law_kind" "_law_kind" (defArgs s_u_law_kind) (defBody s_u_law_kind) (defScope s_u_law_kind) .none kV_u_law_kind dc_u_law_kind pm_u_law_kind an_u_law_kind cd_u_law_kind ct_u_law_kind), sl_u_law_kind⟩)
    (c_u_law_kind : PySem.W.codeIn K cd_u_law_kind "_law_kind" = true)
    (k_u_law_kind : PySem.W.keepIn K (.ref F_u_law_kind) = true)
    (a_u_law_told : PySem.W.nsIn K mainGlobals "_law_told" = some (some (.ref F_u_law_told)))
    (l_u_law_told : K.lookup F_u_law_told = some ⟨oc_u_law_told, od_u_law_told, .func (PySem.W.fnOf "_law_told" "_law_told" (defArgs s_u_law_told) (defBody s_u_law_told) (defScope s_u_law_told) .none kV_u_law_told dc_u_law_told pm_u_law_told an_u_law_told cd_u_law_told ct_u_law_told), sl_u_law_told⟩)
    (c_u_law_told : PySem.W.codeIn K cd_u_law_told "_law_told" = true)
    (k_u_law_told : PySem.W.keepIn K (.ref F_u_law_told) = true)
    (a_u_law_before : PySem.W.nsIn K mainGlobals "_law_before" = some (some (.ref F_u_law_before)))
    (l_u_law_before : K.lookup F_u_law_before = some ⟨oc_u_law_before, od_u_law_before, .func (PySem.W.fnOf "_law_before" "_law_before" (defArgs s_u_law_before) (defBody s_u_law_before) (defScope s_u_law_before) .none kV_u_law_before dc_u_law_before pm_u_law_before an_u_law_before cd_u_law_before ct_u_law_before), sl_u_law_before⟩)
    (c_u_law_before : PySem.W.codeIn K cd_u_law_before "_law_before" = true)
    (k_u_law_before : PySem.W.keepIn K (.ref F_u_law_before) = true)
    (a_law : PySem.W.nsIn K mainGlobals "law" = some (some (.ref F_law)))
    (l_law : K.lookup F_law = some ⟨oc_law, od_law, .func (PySem.W.fnOf "law" "law" (defArgs s_law) (defBody s_law) (defScope s_law) .none kV_law dc_law pm_law an_law cd_law ct_law), sl_law⟩)
    (c_law : PySem.W.codeIn K cd_law "law" = true)
    (k_law : PySem.W.keepIn K (.ref F_law) = true)
    (z_all : PySem.W.nsIn K mainGlobals "all" = some none)
    (z_int : PySem.W.nsIn K mainGlobals "int" = some none)
    (z_isinstance : PySem.W.nsIn K mainGlobals "isinstance" = some none)
    (z_len : PySem.W.nsIn K mainGlobals "len" = some none)
    (z_min : PySem.W.nsIn K mainGlobals "min" = some none)
    (z_range : PySem.W.nsIn K mainGlobals "range" = some none)
    (z_repr : PySem.W.nsIn K mainGlobals "repr" = some none)
    (z_sum : PySem.W.nsIn K mainGlobals "sum" = some none)
    (z_tuple : PySem.W.nsIn K mainGlobals "tuple" = some none)
    (z_zip : PySem.W.nsIn K mainGlobals "zip" = some none)
    (v_MOST_COLUMNS : PySem.W.nsIn K mainGlobals "MOST_COLUMNS" = some (some (.int 6 tk_MOST_COLUMNS)))
    (v_MOST_COST : PySem.W.nsIn K mainGlobals "MOST_COST" = some (some (.int 50 tk_MOST_COST)))
    (v_MOST_ENTRY : PySem.W.nsIn K mainGlobals "MOST_ENTRY" = some (some (.int 9 tk_MOST_ENTRY)))
    (v_MOST_ROWS : PySem.W.nsIn K mainGlobals "MOST_ROWS" = some (some (.int 3 tk_MOST_ROWS)))
    (v_MOST_SIDE : PySem.W.nsIn K mainGlobals "MOST_SIDE" = some (some (.int 1000000 tk_MOST_SIDE)))
    (g_TallyError : PySem.W.nsIn K mainGlobals "TallyError" = some (some (.ref C_TallyError)))
    (g_NotMatrix : PySem.W.nsIn K mainGlobals "NotMatrix" = some (some (.ref C_NotMatrix)))
    (g_NotPointed : PySem.W.nsIn K mainGlobals "NotPointed" = some (some (.ref C_NotPointed)))
    (g_NotSide : PySem.W.nsIn K mainGlobals "NotSide" = some (some (.ref C_NotSide)))
    (g_NotVector : PySem.W.nsIn K mainGlobals "NotVector" = some (some (.ref C_NotVector)))
    (g_NotCost : PySem.W.nsIn K mainGlobals "NotCost" = some (some (.ref C_NotCost)))
    (g_BadNumber : PySem.W.nsIn K mainGlobals "BadNumber" = some (some (.ref C_BadNumber)))
    (g_NoAnswer : PySem.W.nsIn K mainGlobals "NoAnswer" = some (some (.ref C_NoAnswer)))
    (g_TooLarge : PySem.W.nsIn K mainGlobals "TooLarge" = some (some (.ref C_TooLarge)))
    (x_NotMatrix : PySem.W.excIn K C_NotMatrix [.type "ValueError", .type "Exception", .type "BaseException", .type "object"] "ValueError.__new__" = true)
    (kc_NotMatrix : PySem.W.keepIn K (.ref C_NotMatrix) = true)
    (s1_NotMatrix : PySem.W.subIn K (.ref C_NotMatrix) (.type "BaseException") = some true)
    (s2_NotMatrix : PySem.W.typeIn K (.ref C_NotMatrix) = some (.type "type"))
    (e1_NotMatrix : PySem.W.findIn K (.ref C_NotMatrix) "__getattribute__" = some (some (.builtin "BaseException.__getattribute__")))
    (e2_NotMatrix : PySem.W.findIn K (.ref C_NotMatrix) "__getattr__" = some none)
    (e3_NotMatrix : PySem.W.hasDictIn K C_NotMatrix = true)
    (e4_NotMatrix : PySem.W.findIn K (.ref C_NotMatrix) "__class__" = some (some (.builtin "object.__class__")))
    (e5_NotMatrix : PySem.W.mroIn K C_NotMatrix (.type "object") = some true)
    (q_NotMatrix_BadNumber : PySem.W.subIn K (.ref C_NotMatrix) (.ref C_BadNumber) = some false)
    (q_NotMatrix_NoAnswer : PySem.W.subIn K (.ref C_NotMatrix) (.ref C_NoAnswer) = some false)
    (q_NotMatrix_NotCost : PySem.W.subIn K (.ref C_NotMatrix) (.ref C_NotCost) = some false)
    (q_NotMatrix_NotMatrix : PySem.W.subIn K (.ref C_NotMatrix) (.ref C_NotMatrix) = some true)
    (q_NotMatrix_NotPointed : PySem.W.subIn K (.ref C_NotMatrix) (.ref C_NotPointed) = some false)
    (q_NotMatrix_NotSide : PySem.W.subIn K (.ref C_NotMatrix) (.ref C_NotSide) = some false)
    (q_NotMatrix_NotVector : PySem.W.subIn K (.ref C_NotMatrix) (.ref C_NotVector) = some false)
    (q_NotMatrix_TallyError : PySem.W.subIn K (.ref C_NotMatrix) (.ref C_TallyError) = some true)
    (q_NotMatrix_TooLarge : PySem.W.subIn K (.ref C_NotMatrix) (.ref C_TooLarge) = some false)
    (x_NotSide : PySem.W.excIn K C_NotSide [.type "ValueError", .type "Exception", .type "BaseException", .type "object"] "ValueError.__new__" = true)
    (kc_NotSide : PySem.W.keepIn K (.ref C_NotSide) = true)
    (s1_NotSide : PySem.W.subIn K (.ref C_NotSide) (.type "BaseException") = some true)
    (s2_NotSide : PySem.W.typeIn K (.ref C_NotSide) = some (.type "type"))
    (e1_NotSide : PySem.W.findIn K (.ref C_NotSide) "__getattribute__" = some (some (.builtin "BaseException.__getattribute__")))
    (e2_NotSide : PySem.W.findIn K (.ref C_NotSide) "__getattr__" = some none)
    (e3_NotSide : PySem.W.hasDictIn K C_NotSide = true)
    (e4_NotSide : PySem.W.findIn K (.ref C_NotSide) "__class__" = some (some (.builtin "object.__class__")))
    (e5_NotSide : PySem.W.mroIn K C_NotSide (.type "object") = some true)
    (q_NotSide_BadNumber : PySem.W.subIn K (.ref C_NotSide) (.ref C_BadNumber) = some false)
    (q_NotSide_NoAnswer : PySem.W.subIn K (.ref C_NotSide) (.ref C_NoAnswer) = some false)
    (q_NotSide_NotCost : PySem.W.subIn K (.ref C_NotSide) (.ref C_NotCost) = some false)
    (q_NotSide_NotMatrix : PySem.W.subIn K (.ref C_NotSide) (.ref C_NotMatrix) = some false)
    (q_NotSide_NotPointed : PySem.W.subIn K (.ref C_NotSide) (.ref C_NotPointed) = some false)
    (q_NotSide_NotSide : PySem.W.subIn K (.ref C_NotSide) (.ref C_NotSide) = some true)
    (q_NotSide_NotVector : PySem.W.subIn K (.ref C_NotSide) (.ref C_NotVector) = some false)
    (q_NotSide_TallyError : PySem.W.subIn K (.ref C_NotSide) (.ref C_TallyError) = some true)
    (q_NotSide_TooLarge : PySem.W.subIn K (.ref C_NotSide) (.ref C_TooLarge) = some false)
    (x_NotVector : PySem.W.excIn K C_NotVector [.type "ValueError", .type "Exception", .type "BaseException", .type "object"] "ValueError.__new__" = true)
    (kc_NotVector : PySem.W.keepIn K (.ref C_NotVector) = true)
    (s1_NotVector : PySem.W.subIn K (.ref C_NotVector) (.type "BaseException") = some true)
    (s2_NotVector : PySem.W.typeIn K (.ref C_NotVector) = some (.type "type"))
    (e1_NotVector : PySem.W.findIn K (.ref C_NotVector) "__getattribute__" = some (some (.builtin "BaseException.__getattribute__")))
    (e2_NotVector : PySem.W.findIn K (.ref C_NotVector) "__getattr__" = some none)
    (e3_NotVector : PySem.W.hasDictIn K C_NotVector = true)
    (e4_NotVector : PySem.W.findIn K (.ref C_NotVector) "__class__" = some (some (.builtin "object.__class__")))
    (e5_NotVector : PySem.W.mroIn K C_NotVector (.type "object") = some true)
    (q_NotVector_BadNumber : PySem.W.subIn K (.ref C_NotVector) (.ref C_BadNumber) = some false)
    (q_NotVector_NoAnswer : PySem.W.subIn K (.ref C_NotVector) (.ref C_NoAnswer) = some false)
    (q_NotVector_NotCost : PySem.W.subIn K (.ref C_NotVector) (.ref C_NotCost) = some false)
    (q_NotVector_NotMatrix : PySem.W.subIn K (.ref C_NotVector) (.ref C_NotMatrix) = some false)
    (q_NotVector_NotPointed : PySem.W.subIn K (.ref C_NotVector) (.ref C_NotPointed) = some false)
    (q_NotVector_NotSide : PySem.W.subIn K (.ref C_NotVector) (.ref C_NotSide) = some false)
    (q_NotVector_NotVector : PySem.W.subIn K (.ref C_NotVector) (.ref C_NotVector) = some true)
    (q_NotVector_TallyError : PySem.W.subIn K (.ref C_NotVector) (.ref C_TallyError) = some true)
    (q_NotVector_TooLarge : PySem.W.subIn K (.ref C_NotVector) (.ref C_TooLarge) = some false)
    (x_NotCost : PySem.W.excIn K C_NotCost [.type "ValueError", .type "Exception", .type "BaseException", .type "object"] "ValueError.__new__" = true)
    (kc_NotCost : PySem.W.keepIn K (.ref C_NotCost) = true)
    (s1_NotCost : PySem.W.subIn K (.ref C_NotCost) (.type "BaseException") = some true)
    (s2_NotCost : PySem.W.typeIn K (.ref C_NotCost) = some (.type "type"))
    (e1_NotCost : PySem.W.findIn K (.ref C_NotCost) "__getattribute__" = some (some (.builtin "BaseException.__getattribute__")))
    (e2_NotCost : PySem.W.findIn K (.ref C_NotCost) "__getattr__" = some none)
    (e3_NotCost : PySem.W.hasDictIn K C_NotCost = true)
    (e4_NotCost : PySem.W.findIn K (.ref C_NotCost) "__class__" = some (some (.builtin "object.__class__")))
    (e5_NotCost : PySem.W.mroIn K C_NotCost (.type "object") = some true)
    (q_NotCost_BadNumber : PySem.W.subIn K (.ref C_NotCost) (.ref C_BadNumber) = some false)
    (q_NotCost_NoAnswer : PySem.W.subIn K (.ref C_NotCost) (.ref C_NoAnswer) = some false)
    (q_NotCost_NotCost : PySem.W.subIn K (.ref C_NotCost) (.ref C_NotCost) = some true)
    (q_NotCost_NotMatrix : PySem.W.subIn K (.ref C_NotCost) (.ref C_NotMatrix) = some false)
    (q_NotCost_NotPointed : PySem.W.subIn K (.ref C_NotCost) (.ref C_NotPointed) = some false)
    (q_NotCost_NotSide : PySem.W.subIn K (.ref C_NotCost) (.ref C_NotSide) = some false)
    (q_NotCost_NotVector : PySem.W.subIn K (.ref C_NotCost) (.ref C_NotVector) = some false)
    (q_NotCost_TallyError : PySem.W.subIn K (.ref C_NotCost) (.ref C_TallyError) = some true)
    (q_NotCost_TooLarge : PySem.W.subIn K (.ref C_NotCost) (.ref C_TooLarge) = some false)
    (i1_BadNumber : PySem.W.subIn K (.ref C_BadNumber) (.type "BaseException") = some true)
    (i2_BadNumber : PySem.W.hasDictIn K C_BadNumber = true)
    (i3_BadNumber : PySem.W.typeIn K (.ref C_BadNumber) = some (.type "type"))
    (i4_BadNumber : PySem.W.subIn K (.ref C_BadNumber) (.ref C_BadNumber) = some true)
    (i1_NoAnswer : PySem.W.subIn K (.ref C_NoAnswer) (.type "BaseException") = some true)
    (i2_NoAnswer : PySem.W.hasDictIn K C_NoAnswer = true)
    (i3_NoAnswer : PySem.W.typeIn K (.ref C_NoAnswer) = some (.type "type"))
    (i4_NoAnswer : PySem.W.subIn K (.ref C_NoAnswer) (.ref C_NoAnswer) = some true)
    (i1_NotCost : PySem.W.subIn K (.ref C_NotCost) (.type "BaseException") = some true)
    (i2_NotCost : PySem.W.hasDictIn K C_NotCost = true)
    (i3_NotCost : PySem.W.typeIn K (.ref C_NotCost) = some (.type "type"))
    (i4_NotCost : PySem.W.subIn K (.ref C_NotCost) (.ref C_NotCost) = some true)
    (i1_NotMatrix : PySem.W.subIn K (.ref C_NotMatrix) (.type "BaseException") = some true)
    (i2_NotMatrix : PySem.W.hasDictIn K C_NotMatrix = true)
    (i3_NotMatrix : PySem.W.typeIn K (.ref C_NotMatrix) = some (.type "type"))
    (i4_NotMatrix : PySem.W.subIn K (.ref C_NotMatrix) (.ref C_NotMatrix) = some true)
    (i1_NotPointed : PySem.W.subIn K (.ref C_NotPointed) (.type "BaseException") = some true)
    (i2_NotPointed : PySem.W.hasDictIn K C_NotPointed = true)
    (i3_NotPointed : PySem.W.typeIn K (.ref C_NotPointed) = some (.type "type"))
    (i4_NotPointed : PySem.W.subIn K (.ref C_NotPointed) (.ref C_NotPointed) = some true)
    (i1_NotSide : PySem.W.subIn K (.ref C_NotSide) (.type "BaseException") = some true)
    (i2_NotSide : PySem.W.hasDictIn K C_NotSide = true)
    (i3_NotSide : PySem.W.typeIn K (.ref C_NotSide) = some (.type "type"))
    (i4_NotSide : PySem.W.subIn K (.ref C_NotSide) (.ref C_NotSide) = some true)
    (i1_NotVector : PySem.W.subIn K (.ref C_NotVector) (.type "BaseException") = some true)
    (i2_NotVector : PySem.W.hasDictIn K C_NotVector = true)
    (i3_NotVector : PySem.W.typeIn K (.ref C_NotVector) = some (.type "type"))
    (i4_NotVector : PySem.W.subIn K (.ref C_NotVector) (.ref C_NotVector) = some true)
    (i1_TallyError : PySem.W.subIn K (.ref C_TallyError) (.type "BaseException") = some true)
    (i2_TallyError : PySem.W.hasDictIn K C_TallyError = true)
    (i3_TallyError : PySem.W.typeIn K (.ref C_TallyError) = some (.type "type"))
    (i4_TallyError : PySem.W.subIn K (.ref C_TallyError) (.ref C_TallyError) = some true)
    (i1_TooLarge : PySem.W.subIn K (.ref C_TooLarge) (.type "BaseException") = some true)
    (i2_TooLarge : PySem.W.hasDictIn K C_TooLarge = true)
    (i3_TooLarge : PySem.W.typeIn K (.ref C_TooLarge) = some (.type "type"))
    (i4_TooLarge : PySem.W.subIn K (.ref C_TooLarge) (.ref C_TooLarge) = some true)
    (hn : PySem.W.specialIn K (.builtin "object.__class__") "__get__" = some (some (.builtin "getset_descriptor.__get__")))
    (ht : PySem.W.takesIn K (.builtin "object.__class__") = some true)
    (hpure : ∀ ns : List Int, ns.length ≤ 63 → (∀ z ∈ ns, Builtin.Int.intBits z ≤ 1048576) → f_law [.list (ns.map PyData.int)] = .ok (.val (.bool true))) :
    ∃ (fd : FuncData) (Fl : Fn), (∀ (s : Shared) (u : Value), BindsTo s fd ⟨[u], []⟩ [("script", u)]) ∧ (∀ ns : List Int, ns.length ≤ 63 → (∀ z ∈ ns, Builtin.Int.intBits z ≤ 1048576) → Fl [.list (ns.map PyData.int)] = .ok (.val (.bool true))) ∧
      ∀ base : Heap, K.In base → base.Ns mainGlobals mg → LawRun P w K mg base fa fd ["script"] (spP K mg 1 Fl) := by
  cases hfa.symm.trans (PySem.W.mg_of X G a_law)
  have T : Txt K mg C_TallyError C_NotMatrix C_NotPointed C_NotSide C_NotVector C_NotCost C_BadNumber C_NoAnswer C_TooLarge := { b_all := PySem.W.mg_none_of X G z_all, b_int := PySem.W.mg_none_of X G z_int, b_isinstance := PySem.W.mg_none_of X G z_isinstance, b_len := PySem.W.mg_none_of X G z_len, b_min := PySem.W.mg_none_of X G z_min, b_range := PySem.W.mg_none_of X G z_range, b_repr := PySem.W.mg_none_of X G z_repr, b_sum := PySem.W.mg_none_of X G z_sum, b_tuple := PySem.W.mg_none_of X G z_tuple, b_zip := PySem.W.mg_none_of X G z_zip, c_MOST_COLUMNS := ⟨_, PySem.W.mg_of X G v_MOST_COLUMNS⟩, c_MOST_COST := ⟨_, PySem.W.mg_of X G v_MOST_COST⟩, c_MOST_ENTRY := ⟨_, PySem.W.mg_of X G v_MOST_ENTRY⟩, c_MOST_ROWS := ⟨_, PySem.W.mg_of X G v_MOST_ROWS⟩, c_MOST_SIDE := ⟨_, PySem.W.mg_of X G v_MOST_SIDE⟩, g_TallyError := PySem.W.mg_of X G g_TallyError, g_NotMatrix := PySem.W.mg_of X G g_NotMatrix, g_NotPointed := PySem.W.mg_of X G g_NotPointed, g_NotSide := PySem.W.mg_of X G g_NotSide, g_NotVector := PySem.W.mg_of X G g_NotVector, g_NotCost := PySem.W.mg_of X G g_NotCost, g_BadNumber := PySem.W.mg_of X G g_BadNumber, g_NoAnswer := PySem.W.mg_of X G g_NoAnswer, g_TooLarge := PySem.W.mg_of X G g_TooLarge, o_NotMatrix := ⟨x_NotMatrix, PySem.W.mg_of X G g_NotMatrix, kc_NotMatrix, s1_NotMatrix, s2_NotMatrix⟩, e_NotMatrix := ⟨e1_NotMatrix, e2_NotMatrix, s1_NotMatrix, e3_NotMatrix, e4_NotMatrix, hn, ht, e5_NotMatrix⟩, m_NotMatrix_TallyError := PySem.W.exm_ref i1_TallyError i2_TallyError i3_TallyError q_NotMatrix_TallyError, k_NotMatrix_NotMatrix := kit_of i2_NotMatrix i3_NotMatrix q_NotMatrix_NotMatrix i4_NotMatrix, k_NotMatrix_NotPointed := kit_of i2_NotPointed i3_NotPointed q_NotMatrix_NotPointed i4_NotPointed, k_NotMatrix_NotSide := kit_of i2_NotSide i3_NotSide q_NotMatrix_NotSide i4_NotSide, k_NotMatrix_NotVector := kit_of i2_NotVector i3_NotVector q_NotMatrix_NotVector i4_NotVector, k_NotMatrix_NotCost := kit_of i2_NotCost i3_NotCost q_NotMatrix_NotCost i4_NotCost, k_NotMatrix_BadNumber := kit_of i2_BadNumber i3_BadNumber q_NotMatrix_BadNumber i4_BadNumber, k_NotMatrix_NoAnswer := kit_of i2_NoAnswer i3_NoAnswer q_NotMatrix_NoAnswer i4_NoAnswer, k_NotMatrix_TooLarge := kit_of i2_TooLarge i3_TooLarge q_NotMatrix_TooLarge i4_TooLarge, o_NotSide := ⟨x_NotSide, PySem.W.mg_of X G g_NotSide, kc_NotSide, s1_NotSide, s2_NotSide⟩, e_NotSide := ⟨e1_NotSide, e2_NotSide, s1_NotSide, e3_NotSide, e4_NotSide, hn, ht, e5_NotSide⟩, m_NotSide_TallyError := PySem.W.exm_ref i1_TallyError i2_TallyError i3_TallyError q_NotSide_TallyError, k_NotSide_NotMatrix := kit_of i2_NotMatrix i3_NotMatrix q_NotSide_NotMatrix i4_NotMatrix, k_NotSide_NotPointed := kit_of i2_NotPointed i3_NotPointed q_NotSide_NotPointed i4_NotPointed, k_NotSide_NotSide := kit_of i2_NotSide i3_NotSide q_NotSide_NotSide i4_NotSide, k_NotSide_NotVector := kit_of i2_NotVector i3_NotVector q_NotSide_NotVector i4_NotVector, k_NotSide_NotCost := kit_of i2_NotCost i3_NotCost q_NotSide_NotCost i4_NotCost, k_NotSide_BadNumber := kit_of i2_BadNumber i3_BadNumber q_NotSide_BadNumber i4_BadNumber, k_NotSide_NoAnswer := kit_of i2_NoAnswer i3_NoAnswer q_NotSide_NoAnswer i4_NoAnswer, k_NotSide_TooLarge := kit_of i2_TooLarge i3_TooLarge q_NotSide_TooLarge i4_TooLarge, o_NotVector := ⟨x_NotVector, PySem.W.mg_of X G g_NotVector, kc_NotVector, s1_NotVector, s2_NotVector⟩, e_NotVector := ⟨e1_NotVector, e2_NotVector, s1_NotVector, e3_NotVector, e4_NotVector, hn, ht, e5_NotVector⟩, m_NotVector_TallyError := PySem.W.exm_ref i1_TallyError i2_TallyError i3_TallyError q_NotVector_TallyError, k_NotVector_NotMatrix := kit_of i2_NotMatrix i3_NotMatrix q_NotVector_NotMatrix i4_NotMatrix, k_NotVector_NotPointed := kit_of i2_NotPointed i3_NotPointed q_NotVector_NotPointed i4_NotPointed, k_NotVector_NotSide := kit_of i2_NotSide i3_NotSide q_NotVector_NotSide i4_NotSide, k_NotVector_NotVector := kit_of i2_NotVector i3_NotVector q_NotVector_NotVector i4_NotVector, k_NotVector_NotCost := kit_of i2_NotCost i3_NotCost q_NotVector_NotCost i4_NotCost, k_NotVector_BadNumber := kit_of i2_BadNumber i3_BadNumber q_NotVector_BadNumber i4_BadNumber, k_NotVector_NoAnswer := kit_of i2_NoAnswer i3_NoAnswer q_NotVector_NoAnswer i4_NoAnswer, k_NotVector_TooLarge := kit_of i2_TooLarge i3_TooLarge q_NotVector_TooLarge i4_TooLarge, o_NotCost := ⟨x_NotCost, PySem.W.mg_of X G g_NotCost, kc_NotCost, s1_NotCost, s2_NotCost⟩, e_NotCost := ⟨e1_NotCost, e2_NotCost, s1_NotCost, e3_NotCost, e4_NotCost, hn, ht, e5_NotCost⟩, m_NotCost_TallyError := PySem.W.exm_ref i1_TallyError i2_TallyError i3_TallyError q_NotCost_TallyError, k_NotCost_NotMatrix := kit_of i2_NotMatrix i3_NotMatrix q_NotCost_NotMatrix i4_NotMatrix, k_NotCost_NotPointed := kit_of i2_NotPointed i3_NotPointed q_NotCost_NotPointed i4_NotPointed, k_NotCost_NotSide := kit_of i2_NotSide i3_NotSide q_NotCost_NotSide i4_NotSide, k_NotCost_NotVector := kit_of i2_NotVector i3_NotVector q_NotCost_NotVector i4_NotVector, k_NotCost_NotCost := kit_of i2_NotCost i3_NotCost q_NotCost_NotCost i4_NotCost, k_NotCost_BadNumber := kit_of i2_BadNumber i3_BadNumber q_NotCost_BadNumber i4_BadNumber, k_NotCost_NoAnswer := kit_of i2_NoAnswer i3_NoAnswer q_NotCost_NoAnswer i4_NoAnswer, k_NotCost_TooLarge := kit_of i2_TooLarge i3_TooLarge q_NotCost_TooLarge i4_TooLarge }
  refine ⟨PySem.W.fnOf "law" "law" (defArgs s_law) (defBody s_law) (defScope s_law) .none kV_law dc_law pm_law an_law cd_law ct_law, f_law, fun s v => .of_eq rfl, hpure, fun base _ _ => ?_⟩
  have D_is_matrix : Def K mg "is_matrix" s_is_matrix := ⟨F_is_matrix, _, fun_mk (st := s_is_matrix) l_is_matrix c_is_matrix k_is_matrix, PySem.W.mg_of X G a_is_matrix⟩
  have D_check_matrix : Def K mg "check_matrix" s_check_matrix := ⟨F_check_matrix, _, fun_mk (st := s_check_matrix) l_check_matrix c_check_matrix k_check_matrix, PySem.W.mg_of X G a_check_matrix⟩
  have D_has_entries : Def K mg "has_entries" s_has_entries := ⟨F_has_entries, _, fun_mk (st := s_has_entries) l_has_entries c_has_entries k_has_entries, PySem.W.mg_of X G a_has_entries⟩
  have D_is_side : Def K mg "is_side" s_is_side := ⟨F_is_side, _, fun_mk (st := s_is_side) l_is_side c_is_side k_is_side, PySem.W.mg_of X G a_is_side⟩
  have D_is_vector : Def K mg "is_vector" s_is_vector := ⟨F_is_vector, _, fun_mk (st := s_is_vector) l_is_vector c_is_vector k_is_vector, PySem.W.mg_of X G a_is_vector⟩
  have D_is_cost : Def K mg "is_cost" s_is_cost := ⟨F_is_cost, _, fun_mk (st := s_is_cost) l_is_cost c_is_cost k_is_cost, PySem.W.mg_of X G a_is_cost⟩
  have D_check_side : Def K mg "check_side" s_check_side := ⟨F_check_side, _, fun_mk (st := s_check_side) l_check_side c_check_side k_check_side, PySem.W.mg_of X G a_check_side⟩
  have D_check_vector : Def K mg "check_vector" s_check_vector := ⟨F_check_vector, _, fun_mk (st := s_check_vector) l_check_vector c_check_vector k_check_vector, PySem.W.mg_of X G a_check_vector⟩
  have D_check_cost : Def K mg "check_cost" s_check_cost := ⟨F_check_cost, _, fun_mk (st := s_check_cost) l_check_cost c_check_cost k_check_cost, PySem.W.mg_of X G a_check_cost⟩
  have D_dot : Def K mg "dot" s_dot := ⟨F_dot, _, fun_mk (st := s_dot) l_dot c_dot k_dot, PySem.W.mg_of X G a_dot⟩
  have D_image_of : Def K mg "image_of" s_image_of := ⟨F_image_of, _, fun_mk (st := s_image_of) l_image_of c_image_of k_image_of, PySem.W.mg_of X G a_image_of⟩
  have D_columns_of : Def K mg "columns_of" s_columns_of := ⟨F_columns_of, _, fun_mk (st := s_columns_of) l_columns_of c_columns_of k_columns_of, PySem.W.mg_of X G a_columns_of⟩
  have D_columns : Def K mg "columns" s_columns := ⟨F_columns, _, fun_mk (st := s_columns) l_columns c_columns k_columns, PySem.W.mg_of X G a_columns⟩
  have D_image : Def K mg "image" s_image := ⟨F_image, _, fun_mk (st := s_image) l_image c_image k_image, PySem.W.mg_of X G a_image⟩
  have D_solves : Def K mg "solves" s_solves := ⟨F_solves, _, fun_mk (st := s_solves) l_solves c_solves k_solves, PySem.W.mg_of X G a_solves⟩
  have D_is_solution : Def K mg "is_solution" s_is_solution := ⟨F_is_solution, _, fun_mk (st := s_is_solution) l_is_solution c_is_solution k_is_solution, PySem.W.mg_of X G a_is_solution⟩
  have D_price : Def K mg "price" s_price := ⟨F_price, _, fun_mk (st := s_price) l_price c_price k_price, PySem.W.mg_of X G a_price⟩
  have D_key_of : Def K mg "key_of" s_key_of := ⟨F_key_of, _, fun_mk (st := s_key_of) l_key_of c_key_of k_key_of, PySem.W.mg_of X G a_key_of⟩
  have D_comes_before : Def K mg "comes_before" s_comes_before := ⟨F_comes_before, _, fun_mk (st := s_comes_before) l_comes_before c_comes_before k_comes_before, PySem.W.mg_of X G a_comes_before⟩
  have D_u_law_number : Def K mg "_law_number" s_u_law_number := ⟨F_u_law_number, _, fun_mk (st := s_u_law_number) l_u_law_number c_u_law_number k_u_law_number, PySem.W.mg_of X G a_u_law_number⟩
  have D_u_law_draws : Def K mg "_law_draws" s_u_law_draws := ⟨F_u_law_draws, _, fun_mk (st := s_u_law_draws) l_u_law_draws c_u_law_draws k_u_law_draws, PySem.W.mg_of X G a_u_law_draws⟩
  have D_u_law_next : Def K mg "_law_next" s_u_law_next := ⟨F_u_law_next, _, fun_mk (st := s_u_law_next) l_u_law_next c_u_law_next k_u_law_next, PySem.W.mg_of X G a_u_law_next⟩
  have D_u_law_more : Def K mg "_law_more" s_u_law_more := ⟨F_u_law_more, _, fun_mk (st := s_u_law_more) l_u_law_more c_u_law_more k_u_law_more, PySem.W.mg_of X G a_u_law_more⟩
  have D_u_law_any : Def K mg "_law_any" s_u_law_any := ⟨F_u_law_any, _, fun_mk (st := s_u_law_any) l_u_law_any c_u_law_any k_u_law_any, PySem.W.mg_of X G a_u_law_any⟩
  have D_u_law_dot : Def K mg "_law_dot" s_u_law_dot := ⟨F_u_law_dot, _, fun_mk (st := s_u_law_dot) l_u_law_dot c_u_law_dot k_u_law_dot, PySem.W.mg_of X G a_u_law_dot⟩
  have D_u_law_image : Def K mg "_law_image" s_u_law_image := ⟨F_u_law_image, _, fun_mk (st := s_u_law_image) l_u_law_image c_u_law_image k_u_law_image, PySem.W.mg_of X G a_u_law_image⟩
  have D_u_law_columns : Def K mg "_law_columns" s_u_law_columns := ⟨F_u_law_columns, _, fun_mk (st := s_u_law_columns) l_u_law_columns c_u_law_columns k_u_law_columns, PySem.W.mg_of X G a_u_law_columns⟩
  have D_u_law_vector : Def K mg "_law_vector" s_u_law_vector := ⟨F_u_law_vector, _, fun_mk (st := s_u_law_vector) l_u_law_vector c_u_law_vector k_u_law_vector, PySem.W.mg_of X G a_u_law_vector⟩
  have D_u_law_key : Def K mg "_law_key" s_u_law_key := ⟨F_u_law_key, _, fun_mk (st := s_u_law_key) l_u_law_key c_u_law_key k_u_law_key, PySem.W.mg_of X G a_u_law_key⟩
  have D_u_law_kind : Def K mg "_law_kind" s_u_law_kind := ⟨F_u_law_kind, _, fun_mk (st := s_u_law_kind) l_u_law_kind c_u_law_kind k_u_law_kind, PySem.W.mg_of X G a_u_law_kind⟩
  have D_u_law_told : Def K mg "_law_told" s_u_law_told := ⟨F_u_law_told, _, fun_mk (st := s_u_law_told) l_u_law_told c_u_law_told k_u_law_told, PySem.W.mg_of X G a_u_law_told⟩
  have D_u_law_before : Def K mg "_law_before" s_u_law_before := ⟨F_u_law_before, _, fun_mk (st := s_u_law_before) l_u_law_before c_u_law_before k_u_law_before, PySem.W.mg_of X G a_u_law_before⟩
  have C_is_matrix := ok_is_matrix (P := P) (w := w) (base := base) T D_is_matrix 
  have C_check_matrix := ok_check_matrix (P := P) (w := w) (base := base) T D_check_matrix C_is_matrix
  have C_has_entries := ok_has_entries (P := P) (w := w) (base := base) T D_has_entries 
  have C_is_side := ok_is_side (P := P) (w := w) (base := base) T D_is_side C_check_matrix C_has_entries
  have C_is_vector := ok_is_vector (P := P) (w := w) (base := base) T D_is_vector C_check_matrix C_has_entries
  have C_is_cost := ok_is_cost (P := P) (w := w) (base := base) T D_is_cost C_check_matrix C_has_entries
  have C_check_side := ok_check_side (P := P) (w := w) (base := base) T D_check_side C_is_side
  have C_check_vector := ok_check_vector (P := P) (w := w) (base := base) T D_check_vector C_is_vector
  have C_check_cost := ok_check_cost (P := P) (w := w) (base := base) T D_check_cost C_is_cost
  have C_dot := ok_dot (P := P) (w := w) (base := base) T D_dot 
  have C_image_of := ok_image_of (P := P) (w := w) (base := base) T D_image_of C_dot
  have C_columns_of := ok_columns_of (P := P) (w := w) (base := base) T D_columns_of 
  have C_columns := ok_columns (P := P) (w := w) (base := base) T D_columns C_check_matrix C_columns_of
  have C_image := ok_image (P := P) (w := w) (base := base) T D_image C_check_vector C_image_of
  have C_solves := ok_solves (P := P) (w := w) (base := base) T D_solves C_image_of
  have C_is_solution := ok_is_solution (P := P) (w := w) (base := base) T D_is_solution C_check_side C_check_vector C_solves
  have C_price := ok_price (P := P) (w := w) (base := base) T D_price C_check_cost C_check_vector C_dot
  have C_key_of := ok_key_of (P := P) (w := w) (base := base) T D_key_of C_dot
  have C_comes_before := ok_comes_before (P := P) (w := w) (base := base) T D_comes_before C_check_cost C_check_vector C_key_of
  have C_u_law_number := ok_u_law_number (P := P) (w := w) (base := base) T D_u_law_number 
  have C_u_law_draws := ok_u_law_draws (P := P) (w := w) (base := base) T D_u_law_draws C_u_law_number
  have C_u_law_next := ok_u_law_next (P := P) (w := w) (base := base) T D_u_law_next 
  have C_u_law_more := ok_u_law_more (P := P) (w := w) (base := base) T D_u_law_more C_u_law_next
  have C_u_law_any := ok_u_law_any (P := P) (w := w) (base := base) T D_u_law_any C_u_law_next
  have C_u_law_dot := ok_u_law_dot (P := P) (w := w) (base := base) T D_u_law_dot 
  have C_u_law_image := ok_u_law_image (P := P) (w := w) (base := base) T D_u_law_image C_u_law_dot
  have C_u_law_columns := ok_u_law_columns (P := P) (w := w) (base := base) T D_u_law_columns 
  have C_u_law_vector := ok_u_law_vector (P := P) (w := w) (base := base) T D_u_law_vector C_u_law_next
  have C_u_law_key := ok_u_law_key (P := P) (w := w) (base := base) T D_u_law_key C_u_law_dot
  have K_u_law_kind := ok_u_law_kind (P := P) (w := w) (base := base) T D_u_law_kind 
  have C_u_law_told := ok_u_law_told (P := P) (w := w) (base := base) T D_u_law_told C_check_side C_check_vector C_check_cost C_check_matrix C_columns C_image C_is_solution C_price K_u_law_kind
  have C_u_law_before := ok_u_law_before (P := P) (w := w) (base := base) T D_u_law_before C_comes_before K_u_law_kind
  exact ok_law T (fun_mk (st := s_law) l_law c_law k_law) C_u_law_draws C_u_law_more C_u_law_any C_is_matrix C_u_law_told C_u_law_columns C_u_law_before C_u_law_vector C_u_law_next C_u_law_image C_is_side C_is_vector C_is_cost C_u_law_dot C_u_law_key
end K00
open PySem PySem.W PyProof.Rows
set_option maxRecDepth 100000 in
set_option maxHeartbeats 0 in
theorem PySem.Challenge.cw_tallyhull_k00_matrices_sides_and_prices_holds : PySem.Challenge.rw_tallyhull_k00_matrices_sides_and_prices.Holds := by
  w_on; o_law; k_head; (case hw => w_witness2)
  k_fill
  refine K00.walk (l := PySem.Challenge.rw_tallyhull_k00_matrices_sides_and_prices) rfl rfl (fun w h Y => PySem.W.kIn_of Y) ?F
  case F =>
    intro w mg fa h KX G hmg
    refine' K00.all_mk KX G hmg ?a_is_matrix ?l_is_matrix ?c_is_matrix ?k_is_matrix ?a_check_matrix ?l_check_matrix ?c_check_matrix ?k_check_matrix ?a_has_entries ?l_has_entries ?c_has_entries ?k_has_entries ?a_is_side ?l_is_side ?c_is_side ?k_is_side ?a_is_vector ?l_is_vector ?c_is_vector ?k_is_vector ?a_is_cost ?l_is_cost ?c_is_cost ?k_is_cost ?a_check_side ?l_check_side ?c_check_side ?k_check_side ?a_check_vector ?l_check_vector ?c_check_vector ?k_check_vector ?a_check_cost ?l_check_cost ?c_check_cost ?k_check_cost ?a_dot ?l_dot ?c_dot ?k_dot ?a_image_of ?l_image_of ?c_image_of ?k_image_of ?a_columns_of ?l_columns_of ?c_columns_of ?k_columns_of ?a_columns ?l_columns ?c_columns ?k_columns ?a_image ?l_image ?c_image ?k_image ?a_solves ?l_solves ?c_solves ?k_solves ?a_is_solution ?l_is_solution ?c_is_solution ?k_is_solution ?a_price ?l_price ?c_price ?k_price ?a_key_of ?l_key_of ?c_key_of ?k_key_of ?a_comes_before ?l_comes_before ?c_comes_before ?k_comes_before ?a_u_law_number ?l_u_law_number ?c_u_law_number ?k_u_law_number ?a_u_law_draws ?l_u_law_draws ?c_u_law_draws ?k_u_law_draws ?a_u_law_next ?l_u_law_next ?c_u_law_next ?k_u_law_next ?a_u_law_more ?l_u_law_more ?c_u_law_more ?k_u_law_more ?a_u_law_any ?l_u_law_any ?c_u_law_any ?k_u_law_any ?a_u_law_dot ?l_u_law_dot ?c_u_law_dot ?k_u_law_dot ?a_u_law_image ?l_u_law_image ?c_u_law_image ?k_u_law_image ?a_u_law_columns ?l_u_law_columns ?c_u_law_columns ?k_u_law_columns ?a_u_law_vector ?l_u_law_vector ?c_u_law_vector ?k_u_law_vector ?a_u_law_key ?l_u_law_key ?c_u_law_key ?k_u_law_key ?a_u_law_kind ?l_u_law_kind ?c_u_law_kind ?k_u_law_kind ?a_u_law_told ?l_u_law_told ?c_u_law_told ?k_u_law_told ?a_u_law_before ?l_u_law_before ?c_u_law_before ?k_u_law_before ?a_law ?l_law ?c_law ?k_law ?z_all ?z_int ?z_isinstance ?z_len ?z_min ?z_range ?z_repr ?z_sum ?z_tuple ?z_zip ?v_MOST_COLUMNS ?v_MOST_COST ?v_MOST_ENTRY ?v_MOST_ROWS ?v_MOST_SIDE ?g_TallyError ?g_NotMatrix ?g_NotPointed ?g_NotSide ?g_NotVector ?g_NotCost ?g_BadNumber ?g_NoAnswer ?g_TooLarge ?x_NotMatrix ?kc_NotMatrix ?s1_NotMatrix ?s2_NotMatrix ?e1_NotMatrix ?e2_NotMatrix ?e3_NotMatrix ?e4_NotMatrix ?e5_NotMatrix ?q_NotMatrix_BadNumber ?q_NotMatrix_NoAnswer ?q_NotMatrix_NotCost ?q_NotMatrix_NotMatrix ?q_NotMatrix_NotPointed ?q_NotMatrix_NotSide ?q_NotMatrix_NotVector ?q_NotMatrix_TallyError ?q_NotMatrix_TooLarge ?x_NotSide ?kc_NotSide ?s1_NotSide ?s2_NotSide ?e1_NotSide ?e2_NotSide ?e3_NotSide ?e4_NotSide ?e5_NotSide ?q_NotSide_BadNumber ?q_NotSide_NoAnswer ?q_NotSide_NotCost ?q_NotSide_NotMatrix ?q_NotSide_NotPointed ?q_NotSide_NotSide ?q_NotSide_NotVector ?q_NotSide_TallyError ?q_NotSide_TooLarge ?x_NotVector ?kc_NotVector ?s1_NotVector ?s2_NotVector ?e1_NotVector ?e2_NotVector ?e3_NotVector ?e4_NotVector ?e5_NotVector ?q_NotVector_BadNumber ?q_NotVector_NoAnswer ?q_NotVector_NotCost ?q_NotVector_NotMatrix ?q_NotVector_NotPointed ?q_NotVector_NotSide ?q_NotVector_NotVector ?q_NotVector_TallyError ?q_NotVector_TooLarge ?x_NotCost ?kc_NotCost ?s1_NotCost ?s2_NotCost ?e1_NotCost ?e2_NotCost ?e3_NotCost ?e4_NotCost ?e5_NotCost ?q_NotCost_BadNumber ?q_NotCost_NoAnswer ?q_NotCost_NotCost ?q_NotCost_NotMatrix ?q_NotCost_NotPointed ?q_NotCost_NotSide ?q_NotCost_NotVector ?q_NotCost_TallyError ?q_NotCost_TooLarge ?i1_BadNumber ?i2_BadNumber ?i3_BadNumber ?i4_BadNumber ?i1_NoAnswer ?i2_NoAnswer ?i3_NoAnswer ?i4_NoAnswer ?i1_NotCost ?i2_NotCost ?i3_NotCost ?i4_NotCost ?i1_NotMatrix ?i2_NotMatrix ?i3_NotMatrix ?i4_NotMatrix ?i1_NotPointed ?i2_NotPointed ?i3_NotPointed ?i4_NotPointed ?i1_NotSide ?i2_NotSide ?i3_NotSide ?i4_NotSide ?i1_NotVector ?i2_NotVector ?i3_NotVector ?i4_NotVector ?i1_TallyError ?i2_TallyError ?i3_TallyError ?i4_TallyError ?i1_TooLarge ?i2_TooLarge ?i3_TooLarge ?i4_TooLarge ?hn ?ht K00.pure_law
    (case a_is_matrix => k_is)
    (case l_is_matrix => k_is)
    (case c_is_matrix => k_is)
    (case k_is_matrix => k_is)
    (case a_check_matrix => k_is)
    (case l_check_matrix => k_is)
    (case c_check_matrix => k_is)
    (case k_check_matrix => k_is)
    (case a_has_entries => k_is)
    (case l_has_entries => k_is)
    (case c_has_entries => k_is)
    (case k_has_entries => k_is)
    (case a_is_side => k_is)
    (case l_is_side => k_is)
    (case c_is_side => k_is)
    (case k_is_side => k_is)
    (case a_is_vector => k_is)
    (case l_is_vector => k_is)
    (case c_is_vector => k_is)
    (case k_is_vector => k_is)
    (case a_is_cost => k_is)
    (case l_is_cost => k_is)
    (case c_is_cost => k_is)
    (case k_is_cost => k_is)
    (case a_check_side => k_is)
    (case l_check_side => k_is)
    (case c_check_side => k_is)
    (case k_check_side => k_is)
    (case a_check_vector => k_is)
    (case l_check_vector => k_is)
    (case c_check_vector => k_is)
    (case k_check_vector => k_is)
    (case a_check_cost => k_is)
    (case l_check_cost => k_is)
    (case c_check_cost => k_is)
    (case k_check_cost => k_is)
    (case a_dot => k_is)
    (case l_dot => k_is)
    (case c_dot => k_is)
    (case k_dot => k_is)
    (case a_image_of => k_is)
    (case l_image_of => k_is)
    (case c_image_of => k_is)
    (case k_image_of => k_is)
    (case a_columns_of => k_is)
    (case l_columns_of => k_is)
    (case c_columns_of => k_is)
    (case k_columns_of => k_is)
    (case a_columns => k_is)
    (case l_columns => k_is)
    (case c_columns => k_is)
    (case k_columns => k_is)
    (case a_image => k_is)
    (case l_image => k_is)
    (case c_image => k_is)
    (case k_image => k_is)
    (case a_solves => k_is)
    (case l_solves => k_is)
    (case c_solves => k_is)
    (case k_solves => k_is)
    (case a_is_solution => k_is)
    (case l_is_solution => k_is)
    (case c_is_solution => k_is)
    (case k_is_solution => k_is)
    (case a_price => k_is)
    (case l_price => k_is)
    (case c_price => k_is)
    (case k_price => k_is)
    (case a_key_of => k_is)
    (case l_key_of => k_is)
    (case c_key_of => k_is)
    (case k_key_of => k_is)
    (case a_comes_before => k_is)
    (case l_comes_before => k_is)
    (case c_comes_before => k_is)
    (case k_comes_before => k_is)
    (case a_u_law_number => k_is)
    (case l_u_law_number => k_is)
    (case c_u_law_number => k_is)
    (case k_u_law_number => k_is)
    (case a_u_law_draws => k_is)
    (case l_u_law_draws => k_is)
    (case c_u_law_draws => k_is)
    (case k_u_law_draws => k_is)
    (case a_u_law_next => k_is)
    (case l_u_law_next => k_is)
    (case c_u_law_next => k_is)
    (case k_u_law_next => k_is)
    (case a_u_law_more => k_is)
    (case l_u_law_more => k_is)
    (case c_u_law_more => k_is)
    (case k_u_law_more => k_is)
    (case a_u_law_any => k_is)
    (case l_u_law_any => k_is)
    (case c_u_law_any => k_is)
    (case k_u_law_any => k_is)
    (case a_u_law_dot => k_is)
    (case l_u_law_dot => k_is)
    (case c_u_law_dot => k_is)
    (case k_u_law_dot => k_is)
    (case a_u_law_image => k_is)
    (case l_u_law_image => k_is)
    (case c_u_law_image => k_is)
    (case k_u_law_image => k_is)
    (case a_u_law_columns => k_is)
    (case l_u_law_columns => k_is)
    (case c_u_law_columns => k_is)
    (case k_u_law_columns => k_is)
    (case a_u_law_vector => k_is)
    (case l_u_law_vector => k_is)
    (case c_u_law_vector => k_is)
    (case k_u_law_vector => k_is)
    (case a_u_law_key => k_is)
    (case l_u_law_key => k_is)
    (case c_u_law_key => k_is)
    (case k_u_law_key => k_is)
    (case a_u_law_kind => k_is)
    (case l_u_law_kind => k_is)
    (case c_u_law_kind => k_is)
    (case k_u_law_kind => k_is)
    (case a_u_law_told => k_is)
    (case l_u_law_told => k_is)
    (case c_u_law_told => k_is)
    (case k_u_law_told => k_is)
    (case a_u_law_before => k_is)
    (case l_u_law_before => k_is)
    (case c_u_law_before => k_is)
    (case k_u_law_before => k_is)
    (case a_law => k_is)
    (case l_law => k_is)
    (case c_law => k_is)
    (case k_law => k_is)
    (case z_all => k_is)
    (case z_int => k_is)
    (case z_isinstance => k_is)
    (case z_len => k_is)
    (case z_min => k_is)
    (case z_range => k_is)
    (case z_repr => k_is)
    (case z_sum => k_is)
    (case z_tuple => k_is)
    (case z_zip => k_is)
    (case v_MOST_COLUMNS => k_is)
    (case v_MOST_COST => k_is)
    (case v_MOST_ENTRY => k_is)
    (case v_MOST_ROWS => k_is)
    (case v_MOST_SIDE => k_is)
    (case g_TallyError => k_is)
    (case g_NotMatrix => k_is)
    (case g_NotPointed => k_is)
    (case g_NotSide => k_is)
    (case g_NotVector => k_is)
    (case g_NotCost => k_is)
    (case g_BadNumber => k_is)
    (case g_NoAnswer => k_is)
    (case g_TooLarge => k_is)
    (case x_NotMatrix => k_exc)
    (case kc_NotMatrix => k_is)
    (case s1_NotMatrix => k_is)
    (case s2_NotMatrix => k_is)
    (case e1_NotMatrix => k_is)
    (case e2_NotMatrix => k_is)
    (case e3_NotMatrix => k_is)
    (case e4_NotMatrix => k_is)
    (case e5_NotMatrix => k_is)
    (case q_NotMatrix_BadNumber => k_is)
    (case q_NotMatrix_NoAnswer => k_is)
    (case q_NotMatrix_NotCost => k_is)
    (case q_NotMatrix_NotMatrix => k_is)
    (case q_NotMatrix_NotPointed => k_is)
    (case q_NotMatrix_NotSide => k_is)
    (case q_NotMatrix_NotVector => k_is)
    (case q_NotMatrix_TallyError => k_is)
    (case q_NotMatrix_TooLarge => k_is)
    (case x_NotSide => k_exc)
    (case kc_NotSide => k_is)
    (case s1_NotSide => k_is)
    (case s2_NotSide => k_is)
    (case e1_NotSide => k_is)
    (case e2_NotSide => k_is)
    (case e3_NotSide => k_is)
    (case e4_NotSide => k_is)
    (case e5_NotSide => k_is)
    (case q_NotSide_BadNumber => k_is)
    (case q_NotSide_NoAnswer => k_is)
    (case q_NotSide_NotCost => k_is)
    (case q_NotSide_NotMatrix => k_is)
    (case q_NotSide_NotPointed => k_is)
    (case q_NotSide_NotSide => k_is)
    (case q_NotSide_NotVector => k_is)
    (case q_NotSide_TallyError => k_is)
    (case q_NotSide_TooLarge => k_is)
    (case x_NotVector => k_exc)
    (case kc_NotVector => k_is)
    (case s1_NotVector => k_is)
    (case s2_NotVector => k_is)
    (case e1_NotVector => k_is)
    (case e2_NotVector => k_is)
    (case e3_NotVector => k_is)
    (case e4_NotVector => k_is)
    (case e5_NotVector => k_is)
    (case q_NotVector_BadNumber => k_is)
    (case q_NotVector_NoAnswer => k_is)
    (case q_NotVector_NotCost => k_is)
    (case q_NotVector_NotMatrix => k_is)
    (case q_NotVector_NotPointed => k_is)
    (case q_NotVector_NotSide => k_is)
    (case q_NotVector_NotVector => k_is)
    (case q_NotVector_TallyError => k_is)
    (case q_NotVector_TooLarge => k_is)
    (case x_NotCost => k_exc)
    (case kc_NotCost => k_is)
    (case s1_NotCost => k_is)
    (case s2_NotCost => k_is)
    (case e1_NotCost => k_is)
    (case e2_NotCost => k_is)
    (case e3_NotCost => k_is)
    (case e4_NotCost => k_is)
    (case e5_NotCost => k_is)
    (case q_NotCost_BadNumber => k_is)
    (case q_NotCost_NoAnswer => k_is)
    (case q_NotCost_NotCost => k_is)
    (case q_NotCost_NotMatrix => k_is)
    (case q_NotCost_NotPointed => k_is)
    (case q_NotCost_NotSide => k_is)
    (case q_NotCost_NotVector => k_is)
    (case q_NotCost_TallyError => k_is)
    (case q_NotCost_TooLarge => k_is)
    (case i1_BadNumber => k_is)
    (case i2_BadNumber => k_is)
    (case i3_BadNumber => k_is)
    (case i4_BadNumber => first | rfl | k_is)
    (case i1_NoAnswer => k_is)
    (case i2_NoAnswer => k_is)
    (case i3_NoAnswer => k_is)
    (case i4_NoAnswer => first | rfl | k_is)
    (case i1_NotCost => k_is)
    (case i2_NotCost => k_is)
    (case i3_NotCost => k_is)
    (case i4_NotCost => first | rfl | k_is)
    (case i1_NotMatrix => k_is)
    (case i2_NotMatrix => k_is)
    (case i3_NotMatrix => k_is)
    (case i4_NotMatrix => first | rfl | k_is)
    (case i1_NotPointed => k_is)
    (case i2_NotPointed => k_is)
    (case i3_NotPointed => k_is)
    (case i4_NotPointed => first | rfl | k_is)
    (case i1_NotSide => k_is)
    (case i2_NotSide => k_is)
    (case i3_NotSide => k_is)
    (case i4_NotSide => first | rfl | k_is)
    (case i1_NotVector => k_is)
    (case i2_NotVector => k_is)
    (case i3_NotVector => k_is)
    (case i4_NotVector => first | rfl | k_is)
    (case i1_TallyError => k_is)
    (case i2_TallyError => k_is)
    (case i3_TallyError => k_is)
    (case i4_TallyError => first | rfl | k_is)
    (case i1_TooLarge => k_is)
    (case i2_TooLarge => k_is)
    (case i3_TooLarge => k_is)
    (case i4_TooLarge => first | rfl | k_is)
    (case hn => k_is)
    (case ht => k_is)
