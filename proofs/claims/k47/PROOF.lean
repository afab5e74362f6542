import PyProof.Rows.All
import Wide.All
import OpenK.AllK
import Wide.FinOn
import HandS.ForMost
import HandS.ForExc
import HandS.Flow
import HandS.TupAny
import HandS.Wide
import HandS.Gcd
import KE.DataCmp
import HandS.Walk
import HandS.Zip
import HandS.ExcCtx
import HandS.HotCalls
import HandS.TupMul
import HandS.Deep
import HandS.RaiseMore
import KE.DataAny
import PyProof.ReprRoads
import HandS.Style
import HandS.SortInts
import KE.KTupSum
import HandS.ExcIs
import PyProof.ExcBaseAll.ValueError
import KE.DataFind
import HandS.EndBits
import PyProof.ReprLen
import HandS.Dict
import HandS.Remove
import KE.SortData
import HandS.Conv
import HandS.Star
import PySem.Challenge.RW_tallyhull_k47_gaps_of_coins
set_option Elab.async false
set_option linter.all false
set_option maxRecDepth 100000
set_option maxHeartbeats 4000001
/-! DL: what a piece of Python computes on plain data, over the hand layer. -/
namespace DL
open L2 PySem PySem.Spec PyProof.Rows

abbrev D := PyData
/-- what a name may own alone -/
inductive Cell where
  | lst (ds : List D)
  | dK (kvs : List (Key × D))
  | dT (kvs : List (List Key × D))
/-- what a name holds: data, or a thing that it owns (io: handed in by the caller, who sees the changes) -/
inductive SV where
  | val (d : D)
  | own (io : Bool) (c : Cell)
  | raw (a : Addr)
abbrev DEnv := List (Option SV)
structure Exn where
  cls : Str
  arg : Option Int := none
/-- what an expression gives: data, or the thing that the name i owns -/
inductive EV where
  | val (d : D)
  | bor (i : Nat)
inductive Res (α : Type) where
  | ok (a : α) (ρ : DEnv)
  | err (x : Exn) (ρ : DEnv)
  | bad
inductive RV where
  | val (d : D)
  | own (c : Cell)
inductive Fl where
  | nx (ρ : DEnv)
  | rt (v : RV) (ρ : DEnv)
  | bk (ρ : DEnv)
  | ct (ρ : DEnv)
  | err (x : Exn) (ρ : DEnv)
  | bad

abbrev Frg := PySem.W.Frag
abbrev Mg := Str → Option Value

/-! ### data in a heap: more of it stays -/
section
variable {K : Frg} {G G' : Hp}
theorem SqL.mono (h : ∀ a o, G a = some o → G' a = some o) {a : Addr} {xs : List V} (s : SqL K G a xs) : SqL K G' a xs := by
  rcases s with (s | ⟨o, s⟩) | s
  · exact .inl (.inl (h _ _ s))
  · exact .inl (.inr ⟨o, h _ _ s⟩)
  · exact .inr s
theorem SqT.mono (h : ∀ a o, G a = some o → G' a = some o) {a : Addr} {xs : List V} (s : SqT K G a xs) : SqT K G' a xs := by
  rcases s with (s | ⟨o, s⟩) | s
  · exact .inl (.inl (h _ _ s))
  · exact .inl (.inr ⟨o, h _ _ s⟩)
  · exact .inr s
mutual
theorem dp_mono (h : ∀ a o, G a = some o → G' a = some o) : ∀ (d : PyData) (v : V), Dp K G v d → Dp K G' v d
  | .none, _, q => by cases q; exact .non
  | .bool b, _, q => by cases q; exact .bl b
  | .int i, _, q => by cases q; exact .int i
  | .str x, _, q => by cases q; exact .str x
  | .list ds, _, q => by
    cases q with
    | lst s a => exact .lst (SqL.mono h s) (dpAll_mono h ds _ a)
  | .tuple ds, _, q => by
    cases q with
    | tup s a => exact .tup (SqT.mono h s) (dpAll_mono h ds _ a)
  | .dict _, _, q => by cases q
theorem dpAll_mono (h : ∀ a o, G a = some o → G' a = some o) : ∀ (ds : List PyData) (vs : List V), DpAll K G vs ds → DpAll K G' vs ds
  | [], _, q => by cases q; exact .nil
  | d :: ds, _, q => by
    cases q with
    | cons a b => exact .cons (dp_mono h d _ a) (dpAll_mono h ds _ b)
end
theorem DpAll.length : ∀ {vs : List V} {ds : List PyData}, DpAll K G vs ds → vs.length = ds.length
  | _, [], q => by cases q; rfl
  | _, d :: ds, q => by
    cases q with
    | cons a b => simp [DpAll.length b]
theorem DpAll.at : ∀ {vs : List V} {ds : List PyData} {i : Nat} {d : PyData}, DpAll K G vs ds → ds[i]? = some d → ∃ v, vs[i]? = some v ∧ Dp K G v d
  | _, [], i, d, q, e => by simp at e
  | _, d' :: ds, i, d, q, e => by
    cases q with
    | cons a b =>
      cases i with
      | zero => simp at e; subst e; exact ⟨_, by simp, a⟩
      | succ i =>
        obtain ⟨v, h1, h2⟩ := DpAll.at (i := i) b (by simpa using e)
        exact ⟨v, by simpa using h1, h2⟩
theorem DpAll.atV : ∀ {vs : List V} {ds : List PyData} {i : Nat} {v : V}, DpAll K G vs ds → vs[i]? = some v → ∃ d, ds[i]? = some d ∧ Dp K G v d
  | _, [], i, d, q, e => by cases q; simp at e
  | _, d' :: ds, i, d, q, e => by
    cases q with
    | cons a b =>
      cases i with
      | zero => simp at e; subst e; exact ⟨_, by simp, a⟩
      | succ i =>
        obtain ⟨v, h1, h2⟩ := DpAll.atV (i := i) b (by simpa using e)
        exact ⟨v, by simpa using h1, h2⟩
theorem DpAll.append : ∀ {vs ws : List V} {ds es : List PyData}, DpAll K G vs ds → DpAll K G ws es → DpAll K G (vs ++ ws) (ds ++ es)
  | _, _, [], _, q, r => by cases q; exact r
  | _, _, d :: ds, _, q, r => by
    cases q with
    | cons a b => exact .cons a (DpAll.append b r)
theorem DpAll.take : ∀ {vs : List V} {ds : List PyData} (n : Nat), DpAll K G vs ds → DpAll K G (vs.take n) (ds.take n)
  | _, [], n, q => by cases q; simp; exact .nil
  | _, d :: ds, 0, q => by simp; exact .nil
  | _, d :: ds, n + 1, q => by
    cases q with
    | cons a b => simp; exact .cons a (DpAll.take n b)
theorem DpAll.drop : ∀ {vs : List V} {ds : List PyData} (n : Nat), DpAll K G vs ds → DpAll K G (vs.drop n) (ds.drop n)
  | _, [], n, q => by cases q; simp; exact .nil
  | _, d :: ds, 0, q => q
  | _, d :: ds, n + 1, q => by
    cases q with
    | cons a b => simp; exact DpAll.drop n b
theorem DpAll.reverse : ∀ {vs : List V} {ds : List PyData}, DpAll K G vs ds → DpAll K G vs.reverse ds.reverse
  | _, [], q => by cases q; exact .nil
  | _, d :: ds, q => by
    cases q with
    | cons a b => simp; exact DpAll.append (DpAll.reverse b) (.cons a .nil)
theorem DpAll.set : ∀ {vs : List V} {ds : List PyData} {v : V} {d : PyData} (i : Nat), DpAll K G vs ds → Dp K G v d → DpAll K G (vs.set i v) (ds.set i d)
  | _, [], _, _, i, q, r => by cases q; exact .nil
  | _, d :: ds, _, _, 0, q, r => by
    cases q with
    | cons a b => exact .cons r b
  | _, d :: ds, _, _, i + 1, q, r => by
    cases q with
    | cons a b => exact .cons a (DpAll.set i b r)
theorem DpAll.ints : ∀ {vs : List V} {ns : List Int}, DpAll K G vs (ns.map PyData.int) → vs = ns.map V.int
  | _, [], q => by cases q; rfl
  | _, n :: ns, q => by
    cases q with
    | cons a b => cases a; rw [DpAll.ints b]; rfl
theorem DpAll.of_ints : ∀ (ns : List Int), DpAll K G (ns.map V.int) (ns.map PyData.int)
  | [] => .nil
  | n :: ns => .cons (.int n) (DpAll.of_ints ns)
end

/-- data without an address -/
def flat : PyData → Option V
  | .none => some .non
  | .bool b => some (.bl b)
  | .int i => some (.int i)
  | .str x => some (.str x)
  | _ => none
theorem flat_dp {K : Frg} {G : Hp} : ∀ {d : PyData} {v : V}, flat d = some v → Dp K G v d
  | .none, _, e => by cases e; exact .non
  | .bool b, _, e => by cases e; exact .bl b
  | .int i, _, e => by cases e; exact .int i
  | .str x, _, e => by cases e; exact .str x
  | .list _, _, e => by cases e
  | .tuple _, _, e => by cases e
  | .dict _, _, e => by cases e
theorem flat_eq {K : Frg} {G : Hp} : ∀ {d : PyData} {v w : V}, flat d = some v → Dp K G w d → w = v
  | .none, _, _, e, q => by cases e; cases q; rfl
  | .bool b, _, _, e, q => by cases e; cases q; rfl
  | .int i, _, _, e, q => by cases e; cases q; rfl
  | .str x, _, _, e, q => by cases e; cases q; rfl
  | .list _, _, _, e, _ => by cases e
  | .tuple _, _, _, e, _ => by cases e
  | .dict _, _, _, e, _ => by cases e
theorem dp_any {K : Frg} {G G' : Hp} {d : PyData} {v w : V} (h : Dp K G v d) (f : flat d = some w) : Dp K G' v d := by
  rw [flat_eq f h]; exact flat_dp f

/-! ### what is owned, what is seen -/
def Ow (σ : L2.St) (ρ : DEnv) (a : Addr) : Prop := ∃ (i : Nat) (b : Bool) (c : Cell), ρ[i]? = some (some (.own b c)) ∧ σ[i]? = some (some (V.ref a))
open Classical in
noncomputable def Gv (O : Addr → Prop) (σ : L2.St) (ρ : DEnv) (H : Hp) : Hp := fun a => if O a ∨ Ow σ ρ a then none else H a
theorem Gv_of {O : Addr → Prop} {σ : L2.St} {ρ : DEnv} {H : Hp} {a : Addr} {o : HO} (h1 : ¬ O a) (h2 : ¬ Ow σ ρ a) (h : H a = some o) : Gv O σ ρ H a = some o := by
  unfold Gv; rw [if_neg (fun q => q.elim h1 h2)]; exact h
theorem of_Gv {O : Addr → Prop} {σ : L2.St} {ρ : DEnv} {H : Hp} {a : Addr} {o : HO} (h : Gv O σ ρ H a = some o) : ¬ O a ∧ ¬ Ow σ ρ a ∧ H a = some o := by
  unfold Gv at h
  split at h
  · cases h
  · rename_i q; exact ⟨fun z => q (.inl z), fun z => q (.inr z), h⟩
theorem Gv_sub {O : Addr → Prop} {σ : L2.St} {ρ : DEnv} {H : Hp} : ∀ a o, Gv O σ ρ H a = some o → H a = some o := fun _ _ h => (of_Gv h).2.2

def CellOk (K : Frg) (G H : Hp) (a : Addr) : Cell → Prop
  | .lst ds => ∃ vs, H a = some (.lst vs) ∧ DpAll K G vs ds
  | .dK kvs => ∃ vvs : List (Key × V), H a = some (.dK vvs) ∧ vvs.map (·.1) = kvs.map (·.1) ∧ DpAll K G (vvs.map (·.2)) (kvs.map (·.2))
  | .dT kvs => ∃ vvs : List (List Key × V), H a = some (.dT vvs) ∧ vvs.map (·.1) = kvs.map (·.1) ∧ DpAll K G (vvs.map (·.2)) (kvs.map (·.2))
theorem CellOk.mono {K : Frg} {G G' H H' : Hp} {a : Addr} {c : Cell} (h : CellOk K G H a c) (hg : ∀ a o, G a = some o → G' a = some o) (ha : ∀ o, H a = some o → H' a = some o) : CellOk K G' H' a c := by
  cases c with
  | lst ds => obtain ⟨vs, e, q⟩ := h; exact ⟨vs, ha _ e, dpAll_mono hg _ _ q⟩
  | dK kvs => obtain ⟨vs, e, k, q⟩ := h; exact ⟨vs, ha _ e, k, dpAll_mono hg _ _ q⟩
  | dT kvs => obtain ⟨vs, e, k, q⟩ := h; exact ⟨vs, ha _ e, k, dpAll_mono hg _ _ q⟩
theorem CellOk.some {K : Frg} {G H : Hp} {a : Addr} {c : Cell} (h : CellOk K G H a c) : ∃ o, H a = some o := by
  cases c with
  | lst ds => obtain ⟨vs, e, q⟩ := h; exact ⟨_, e⟩
  | dK kvs => obtain ⟨vs, e, k, q⟩ := h; exact ⟨_, e⟩
  | dT kvs => obtain ⟨vs, e, k, q⟩ := h; exact ⟨_, e⟩

structure RelEnv (K : Frg) (O : Addr → Prop) (σ : L2.St) (H : Hp) (ρ : DEnv) : Prop where
  len : σ.length = ρ.length
  oa : ∀ a, O a → H a ≠ none
  val : ∀ (i : Nat) (d : D), ρ[i]? = some (some (.val d)) → ∃ v, σ[i]? = some (some v) ∧ Dp K (Gv O σ ρ H) v d
  own : ∀ (i : Nat) (b : Bool) (c : Cell), ρ[i]? = some (some (.own b c)) → ∃ a, σ[i]? = some (some (.ref a)) ∧ ¬ O a ∧ CellOk K (Gv O σ ρ H) H a c
  inj : ∀ (i j : Nat) (a : Addr) (b : Bool) (c : Cell) (b' : Bool) (c' : Cell), ρ[i]? = some (some (.own b c)) → ρ[j]? = some (some (.own b' c')) → σ[i]? = some (some (.ref a)) → σ[j]? = some (some (.ref a)) → i = j
  raw : ∀ (i : Nat) (a : Addr), ρ[i]? = some (some (.raw a)) → σ[i]? = some (some (.ref a))

/-- a step of an expression: what this frame does not own stays -/
structure EStp (σ : L2.St) (ρ : DEnv) (H : Hp) (ρ' : DEnv) (H' : Hp) : Prop where
  ext : ∀ b o, H b = some o → ¬ Ow σ ρ b → H' b = some o
  al : ∀ b, H b ≠ none → H' b ≠ none
  own : ∀ b, Ow σ ρ' b → Ow σ ρ b
  io : ∀ (i : Nat) (c : Cell), ρ[i]? = some (some (.own true c)) → ∃ c', ρ'[i]? = some (some (.own true c'))
theorem EStp.refl {σ : L2.St} {ρ : DEnv} {H : Hp} : EStp σ ρ H ρ H := ⟨fun _ _ h _ => h, fun _ h => h, fun _ h => h, fun _ c h => ⟨c, h⟩⟩
theorem EStp.trans {σ : L2.St} {ρ ρ1 ρ2 : DEnv} {H H1 H2 : Hp} (a : EStp σ ρ H ρ1 H1) (b : EStp σ ρ1 H1 ρ2 H2) : EStp σ ρ H ρ2 H2 :=
  ⟨fun c o h n => b.ext c o (a.ext c o h n) fun q => n (a.own c q), fun c h => b.al c (a.al c h), fun c h => a.own c (b.own c h), fun i c h => let ⟨c', h'⟩ := a.io i c h; b.io i c' h'⟩
theorem EStp.same {σ : L2.St} {ρ : DEnv} {H H' : Hp} (h : Same H H') : EStp σ ρ H ρ H' := by
  refine ⟨fun b o e _ => h b o e, fun b e q => ?_, fun _ h => h, fun _ c h => ⟨c, h⟩⟩
  cases z : H b with
  | none => exact e z
  | some o => rw [h b o z] at q; cases q
theorem EStp.gv {O : Addr → Prop} {σ : L2.St} {ρ ρ' : DEnv} {H H' : Hp} (s : EStp σ ρ H ρ' H') : ∀ a o, Gv O σ ρ H a = some o → Gv O σ ρ' H' a = some o := fun a o h => by
  obtain ⟨h1, h2, h3⟩ := of_Gv h
  exact Gv_of h1 (fun q => h2 (s.own a q)) (s.ext a o h3 h2)
theorem same_gv {O : Addr → Prop} {σ : L2.St} {ρ : DEnv} {H H' : Hp} (s : Same H H') : ∀ a o, Gv O σ ρ H a = some o → Gv O σ ρ H' a = some o := (EStp.same s).gv
theorem RelEnv.same {K : Frg} {O : Addr → Prop} {σ : L2.St} {ρ : DEnv} {H H' : Hp} (r : RelEnv K O σ H ρ) (s : Same H H') : RelEnv K O σ H' ρ :=
  ⟨r.len, fun a q => (EStp.same (σ := σ) (ρ := ρ) s).al a (r.oa a q), fun i d e => let ⟨v, h1, h2⟩ := r.val i d e; ⟨v, h1, dp_mono (same_gv s) _ _ h2⟩,
   fun i b c e => let ⟨a, h1, h2, h3⟩ := r.own i b c e; ⟨a, h1, h2, h3.mono (same_gv s) fun o q => s _ _ q⟩, r.inj, r.raw⟩
theorem RelEnv.owSome {K : Frg} {O : Addr → Prop} {σ : L2.St} {ρ : DEnv} {H : Hp} (r : RelEnv K O σ H ρ) {a : Addr} (h : Ow σ ρ a) : ∃ o, H a = some o := by
  obtain ⟨i, b, c, e1, e2⟩ := h
  obtain ⟨a', h1, h2, h3⟩ := r.own i b c e1
  rw [e2] at h1; cases h1
  exact h3.some
theorem RelEnv.owO {K : Frg} {O : Addr → Prop} {σ : L2.St} {ρ : DEnv} {H : Hp} (r : RelEnv K O σ H ρ) {a : Addr} (h : Ow σ ρ a) : ¬ O a := by
  obtain ⟨i, b, c, e1, e2⟩ := h
  obtain ⟨a', h1, h2, h3⟩ := r.own i b c e1
  rw [e2] at h1; cases h1
  exact h2
theorem RelEnv.fresh {K : Frg} {O : Addr → Prop} {σ : L2.St} {ρ : DEnv} {H : Hp} (r : RelEnv K O σ H ρ) {p : Addr} (h : H p = none) : ¬ O p ∧ ¬ Ow σ ρ p :=
  ⟨fun q => r.oa p q h, fun q => by obtain ⟨o, e⟩ := r.owSome q; rw [h] at e; cases e⟩

/-- what an expression has given -/
def RelE (K : Frg) (O : Addr → Prop) (σ : L2.St) (ρ : DEnv) (H : Hp) (u : V) : EV → Prop
  | .val d => Dp K (Gv O σ ρ H) u d
  | .bor i => σ[i]? = some (some u)
theorem RelE.mono {K : Frg} {O : Addr → Prop} {σ : L2.St} {ρ ρ' : DEnv} {H H' : Hp} {u : V} {v : EV} (h : RelE K O σ ρ H u v) (s : EStp σ ρ H ρ' H') : RelE K O σ ρ' H' u v := by
  cases v with
  | val d => exact dp_mono s.gv _ _ h
  | bor i => exact h
def RelEs (K : Frg) (O : Addr → Prop) (σ : L2.St) (ρ : DEnv) (H : Hp) : List V → List EV → Prop
  | [], [] => True
  | u :: us, v :: vs => RelE K O σ ρ H u v ∧ RelEs K O σ ρ H us vs
  | _, _ => False
theorem RelEs.mono {K : Frg} {O : Addr → Prop} {σ : L2.St} {ρ ρ' : DEnv} {H H' : Hp} (s : EStp σ ρ H ρ' H') : ∀ {us : List V} {vs : List EV}, RelEs K O σ ρ H us vs → RelEs K O σ ρ' H' us vs
  | [], [], _ => trivial
  | u :: us, v :: vs, h => ⟨h.1.mono s, RelEs.mono s h.2⟩
  | [], _ :: _, h => h
  | _ :: _, [], h => h

/-- the data of what an expression gives -/
def deref (ρ : DEnv) : EV → Option D
  | .val d => some d
  | .bor i => match ρ[i]? with
    | some (some (.own _ (.lst ds))) => some (.list ds)
    | some (some (.val d)) => some d
    | _ => none
theorem RelE.dp {K : Frg} {O : Addr → Prop} {σ : L2.St} {ρ : DEnv} {H : Hp} {u : V} {v : EV} {d : D} (h : RelE K O σ ρ H u v) (r : RelEnv K O σ H ρ) (e : deref ρ v = some d) : Dp K H u d := by
  cases v with
  | val d' => cases e; exact dp_mono Gv_sub _ _ h
  | bor i =>
    have h' : σ[i]? = some (some u) := h
    unfold deref at e
    dsimp only at e
    split at e
    · rename_i b ds q
      cases e
      obtain ⟨a, h1, h2, vs, h3, h4⟩ := r.own i b _ q
      rw [h'] at h1; cases h1
      exact .lst (SqL.of h3) (dpAll_mono Gv_sub _ _ h4)
    · rename_i d' q
      cases e
      obtain ⟨w, h1, h2⟩ := r.val i _ q
      rw [h'] at h1; cases h1
      exact dp_mono Gv_sub _ _ h2
    · cases e
/-- a sequence: the list or tuple itself, its items seen -/
theorem RelE.lst {K : Frg} {O : Addr → Prop} {σ : L2.St} {ρ : DEnv} {H : Hp} {u : V} {v : EV} {ds : List D} (h : RelE K O σ ρ H u v) (r : RelEnv K O σ H ρ) (e : deref ρ v = some (.list ds)) :
    ∃ a vs, u = .ref a ∧ SqL K H a vs ∧ DpAll K (Gv O σ ρ H) vs ds := by
  cases v with
  | val d' =>
    cases e
    have h' : Dp K (Gv O σ ρ H) u (.list ds) := h
    cases h' with
    | lst s a => exact ⟨_, _, rfl, SqL.mono Gv_sub s, a⟩
  | bor i =>
    have h' : σ[i]? = some (some u) := h
    unfold deref at e
    dsimp only at e
    split at e
    · rename_i b ds q
      cases e
      obtain ⟨a, h1, h2, vs, h3, h4⟩ := r.own i b _ q
      rw [h'] at h1; cases h1
      exact ⟨_, _, rfl, SqL.of h3, h4⟩
    · rename_i d' q
      cases e
      obtain ⟨w, h1, h2⟩ := r.val i _ q
      rw [h'] at h1; cases h1
      cases h2 with
      | lst s a => exact ⟨_, _, rfl, SqL.mono Gv_sub s, a⟩
    · cases e
theorem RelE.tup {K : Frg} {O : Addr → Prop} {σ : L2.St} {ρ : DEnv} {H : Hp} {u : V} {v : EV} {ds : List D} (h : RelE K O σ ρ H u v) (r : RelEnv K O σ H ρ) (e : deref ρ v = some (.tuple ds)) :
    ∃ a vs, u = .ref a ∧ SqT K (Gv O σ ρ H) a vs ∧ DpAll K (Gv O σ ρ H) vs ds := by
  cases v with
  | val d' =>
    cases e
    have h' : Dp K (Gv O σ ρ H) u (.tuple ds) := h
    cases h' with
    | tup s a => exact ⟨_, _, rfl, s, a⟩
  | bor i =>
    have h' : σ[i]? = some (some u) := h
    unfold deref at e
    dsimp only at e
    split at e
    · cases e
    · rename_i d' q
      cases e
      obtain ⟨w, h1, h2⟩ := r.val i _ q
      rw [h'] at h1; cases h1
      cases h2 with
      | tup s a => exact ⟨_, _, rfl, s, a⟩
    · cases e

/-! ### giving up what is owned -/
/-- the name i keeps its list as data from now on -/
def frzAt (i : Nat) (ρ : DEnv) : Option (D × DEnv) := match ρ[i]? with
  | some (some (.own false (.lst ds))) => some (.list ds, ρ.set i (some (.val (.list ds))))
  | some (some (.val d)) => some (d, ρ)
  | _ => none
theorem ow_set {σ : L2.St} {ρ : DEnv} {i : Nat} {d : D} {b : Addr} (h : Ow σ (ρ.set i (some (.val d))) b) : Ow σ ρ b := by
  obtain ⟨j, b, c, e1, e2⟩ := h
  by_cases hj : i = j
  · subst hj
    rw [List.getElem?_set] at e1
    simp only [if_true] at e1
    split at e1 <;> cases e1
  · rw [List.getElem?_set_ne hj] at e1
    exact ⟨j, b, c, e1, e2⟩
theorem frz_ok {K : Frg} {O : Addr → Prop} {σ : L2.St} {ρ : DEnv} {H : Hp} {i : Nat} {ds : List D} (r : RelEnv K O σ H ρ) (e : ρ[i]? = some (some (.own false (.lst ds)))) :
    RelEnv K O σ H (ρ.set i (some (.val (.list ds)))) ∧ EStp σ ρ H (ρ.set i (some (.val (.list ds)))) H := by
  have hi : i < ρ.length := (List.getElem?_eq_some_iff.mp e).1
  have st : EStp σ ρ H (ρ.set i (some (.val (.list ds)))) H := ⟨fun _ _ h _ => h, fun _ h => h, fun b h => ow_set h, fun j c h => ⟨c, by
    have hj : i ≠ j := by rintro rfl; rw [e] at h; cases h
    rw [List.getElem?_set_ne hj]; exact h⟩⟩
  refine ⟨⟨by rw [List.length_set]; exact r.len, r.oa, fun j d h => ?_, fun j b c h => ?_, fun j k a b c b' c' h1 h2 h3 h4 => ?_, fun j a h => r.raw j a (by
    have hj : i ≠ j := by rintro rfl; rw [List.getElem?_set_self hi] at h; cases h
    rw [List.getElem?_set_ne hj] at h; exact h)⟩, st⟩
  · by_cases hj : i = j
    · subst hj
      rw [List.getElem?_set_self hi] at h
      cases h
      obtain ⟨a, h1, h2, vs, h3, h4⟩ := r.own i _ _ e
      refine ⟨_, h1, .lst (SqL.of (Gv_of h2 ?_ h3)) (dpAll_mono st.gv _ _ h4)⟩
      rintro ⟨k, b, c, e1, e2⟩
      by_cases hk : i = k
      · subst hk
        rw [List.getElem?_set_self hi] at e1
        cases e1
      · rw [List.getElem?_set_ne hk] at e1
        exact hk (r.inj i k a _ _ _ _ e e1 h1 e2)
    · rw [List.getElem?_set_ne hj] at h
      obtain ⟨v, h1, h2⟩ := r.val j d h
      exact ⟨v, h1, dp_mono st.gv _ _ h2⟩
  · by_cases hj : i = j
    · subst hj
      rw [List.getElem?_set_self hi] at h
      cases h
    · rw [List.getElem?_set_ne hj] at h
      obtain ⟨a, h1, h2, h3⟩ := r.own j b c h
      exact ⟨a, h1, h2, h3.mono st.gv fun _ q => q⟩
  · have n1 : i ≠ j := by rintro rfl; rw [List.getElem?_set_self hi] at h1; cases h1
    have n2 : i ≠ k := by rintro rfl; rw [List.getElem?_set_self hi] at h2; cases h2
    rw [List.getElem?_set_ne n1] at h1
    rw [List.getElem?_set_ne n2] at h2
    exact r.inj j k a _ _ _ _ h1 h2 h3 h4
/-- data, given up if it was owned -/
def keep (v : EV) (ρ : DEnv) : Option (D × DEnv) := match v with
  | .val d => some (d, ρ)
  | .bor i => frzAt i ρ
theorem keep_ok {K : Frg} {O : Addr → Prop} {σ : L2.St} {ρ ρ' : DEnv} {H : Hp} {u : V} {v : EV} {d : D} (r : RelEnv K O σ H ρ) (h : RelE K O σ ρ H u v) (e : keep v ρ = some (d, ρ')) :
    RelEnv K O σ H ρ' ∧ EStp σ ρ H ρ' H ∧ Dp K (Gv O σ ρ' H) u d := by
  cases v with
  | val d' => cases e; exact ⟨r, .refl, h⟩
  | bor i =>
    have h' : σ[i]? = some (some u) := h
    unfold keep frzAt at e
    dsimp only at e
    split at e
    · rename_i ds q
      cases e
      obtain ⟨a, b⟩ := frz_ok r q
      have hi : i < ρ.length := (List.getElem?_eq_some_iff.mp q).1
      obtain ⟨w, h1, h2⟩ := a.val i (.list ds) (List.getElem?_set_self hi)
      rw [h'] at h1; cases h1
      exact ⟨a, b, h2⟩
    · rename_i d' q
      cases e
      obtain ⟨w, h1, h2⟩ := r.val i _ q
      rw [h'] at h1; cases h1
      exact ⟨r, .refl, h2⟩
    · cases e
def keeps : List EV → DEnv → Option (List D × DEnv)
  | [], ρ => some ([], ρ)
  | v :: vs, ρ => match keep v ρ with
    | some (d, ρ1) => match keeps vs ρ1 with
      | some (ds, ρ2) => some (d :: ds, ρ2)
      | none => none
    | none => none
theorem keeps_ok {K : Frg} {O : Addr → Prop} {σ : L2.St} {H : Hp} : ∀ {us : List V} {vs : List EV} {ds : List D} {ρ ρ' : DEnv}, RelEnv K O σ H ρ → RelEs K O σ ρ H us vs → keeps vs ρ = some (ds, ρ') →
    RelEnv K O σ H ρ' ∧ EStp σ ρ H ρ' H ∧ DpAll K (Gv O σ ρ' H) us ds
  | [], [], ds, ρ, ρ', r, h, e => by cases e; exact ⟨r, .refl, .nil⟩
  | u :: us, v :: vs, ds, ρ, ρ', r, h, e => by
    unfold keeps at e
    split at e
    · rename_i d ρ1 q
      split at e
      · rename_i ds' ρ2 q2
        cases e
        obtain ⟨a1, b1, c1⟩ := keep_ok r h.1 q
        obtain ⟨a2, b2, c2⟩ := keeps_ok a1 (h.2.mono b1) q2
        exact ⟨a2, b1.trans b2, .cons (dp_mono b2.gv _ _ c1) c2⟩
      · cases e
    · cases e
  | [], _ :: _, _, _, _, _, h, _ => h.elim
  | _ :: _, [], _, _, _, _, h, _ => h.elim
end DL

namespace DL
open L2 PySem PySem.Spec PyProof.Rows

/-- the exception x as it lies -/
def ExnAt (mg : Mg) (x : Exn) (cls : Value) (d : Option Addr) (H : Hp) : Prop :=
  ∃ C, mg x.cls = some (.ref C) ∧ cls = .ref C ∧ match x.arg with
    | none => d = none
    | some n => ∃ dd fs, d = some dd ∧ H dd = some (.xd fs) ∧ List.lookup ("at" : Str) fs = some (.int n)

def bindR {α β : Type} (r : Res α) (k : α → DEnv → Res β) : Res β := match r with
  | .ok a ρ => k a ρ
  | .err x ρ => .err x ρ
  | .bad => .bad
@[simp] theorem bindR_ok {α β : Type} (a : α) (ρ : DEnv) (k : α → DEnv → Res β) : bindR (.ok a ρ) k = k a ρ := (Eq.refl _).trans (Eq.refl _)
@[simp] theorem bindR_err {α β : Type} (x : Exn) (ρ : DEnv) (k : α → DEnv → Res β) : bindR (.err x ρ : Res α) k = .err x ρ := (Eq.refl _).trans (Eq.refl _)
@[simp] theorem bindR_bad {α β : Type} (k : α → DEnv → Res β) : bindR (.bad : Res α) k = .bad := (Eq.refl _).trans (Eq.refl _)
def optR {α β : Type} (o : Option α) (k : α → Res β) : Res β := match o with
  | some a => k a
  | none => .bad
@[simp] theorem optR_some {α β : Type} (a : α) (k : α → Res β) : optR (some a) k = k a := (Eq.refl _).trans (Eq.refl _)
@[simp] theorem optR_none {α β : Type} (k : α → Res β) : optR none k = .bad := (Eq.refl _).trans (Eq.refl _)

section sat
variable {α β γ δ : Type}
def Sat (K : Frg) (mg : Mg) (O : Addr → Prop) (σ : L2.St) (ρ : DEnv) (H : Hp) (W : WX) (rel : DEnv → Hp → β → α → Prop) (Q : β → Hp → Prop) : Res α → Prop
  | .ok a ρ' => ∀ u H', EStp σ ρ H ρ' H' → RelEnv K O σ H' ρ' → rel ρ' H' u a → Q u H'
  | .err x ρ' => ∀ cls d H', EStp σ ρ H ρ' H' → RelEnv K O σ H' ρ' → ExnAt mg x cls d H' → W cls d σ H'
  | .bad => False
variable {K : Frg} {mg : Mg} {O : Addr → Prop} {σ : L2.St} {ρ ρ1 : DEnv} {H H1 : Hp} {W : WX} {rel : DEnv → Hp → β → α → Prop} {rel2 : DEnv → Hp → δ → γ → Prop} {Q Q' : β → Hp → Prop} {Q2 : δ → Hp → Prop}
theorem Sat.imp {r : Res α} (h : Sat K mg O σ ρ H W rel Q r) (i : ∀ u H', Q u H' → Q' u H') : Sat K mg O σ ρ H W rel Q' r := by
  cases r with
  | ok a ρ' => exact fun u H' s e q => i _ _ (h u H' s e q)
  | err x ρ' => exact h
  | bad => exact h
theorem Sat.shift {r : Res α} (h : Sat K mg O σ ρ H W rel Q r) (s : EStp σ ρ H ρ1 H1) : Sat K mg O σ ρ1 H1 W rel Q r := by
  cases r with
  | ok a ρ' => exact fun u H' s' e q => h u H' (s.trans s') e q
  | err x ρ' => exact fun c d H' s' e q => h c d H' (s.trans s') e q
  | bad => exact h
/-- what is known behind a part -/
def Mid (K : Frg) (mg : Mg) (O : Addr → Prop) (σ : L2.St) (W : WX) (rel : DEnv → Hp → β → α → Prop) (rel2 : DEnv → Hp → δ → γ → Prop) (Q2 : δ → Hp → Prop) (k : α → DEnv → Res γ) (u : β) (H1 : Hp) : Prop :=
  ∃ a ρ1, RelEnv K O σ H1 ρ1 ∧ rel ρ1 H1 u a ∧ Sat K mg O σ ρ1 H1 W rel2 Q2 (k a ρ1)
theorem Sat.bind {r : Res α} {k : α → DEnv → Res γ} (h : Sat K mg O σ ρ H W rel2 Q2 (bindR r k)) : Sat K mg O σ ρ H W rel (Mid K mg O σ W rel rel2 Q2 k) r := by
  cases r with
  | ok a ρ' => exact fun u H' s e q => ⟨a, ρ', e, q, Sat.shift h s⟩
  | err x ρ' => exact h
  | bad => exact h
end sat

abbrev DX := DEnv → Res EV
def SatE (K : Frg) (mg : Mg) (O : Addr → Prop) (σ : L2.St) (ρ : DEnv) (H : Hp) (W : WX) (Q : VK) : Res EV → Prop := Sat K mg O σ ρ H W (fun ρ' H' u a => RelE K O σ ρ' H' u a) Q
def tDX (K : Frg) (mg : Mg) (W : WX) (f : DX) : TE := fun σ H Q => ∃ O ρ, RelEnv K O σ H ρ ∧ Sat K mg O σ ρ H W (fun ρ' H' u a => RelE K O σ ρ' H' u a) Q (f ρ)
def tDT (K : Frg) (mg : Mg) (W : WX) (f : DEnv → Res Bool) : TT := fun σ H Q => ∃ O ρ, RelEnv K O σ H ρ ∧ Sat K mg O σ ρ H W (fun _ _ u a => u = a) Q (f ρ)
def tDA (K : Frg) (mg : Mg) (W : WX) (f : DEnv → Res (List EV)) : TA := fun σ H Q => ∃ O ρ, RelEnv K O σ H ρ ∧ Sat K mg O σ ρ H W (fun ρ' H' u a => RelEs K O σ ρ' H' u a) Q (f ρ)
/-- a new thing at p, seen by nobody -/
def NewAt (K : Frg) (O : Addr → Prop) (σ : L2.St) (ρ : DEnv) (H : Hp) (p : Addr) (c : Cell) : Prop :=
  RelEnv K (fun a => O a ∨ a = p) σ H ρ ∧ ¬ O p ∧ ¬ Ow σ ρ p ∧ CellOk K (Gv (fun a => O a ∨ a = p) σ ρ H) H p c
def SatL (K : Frg) (mg : Mg) (O : Addr → Prop) (σ : L2.St) (ρ : DEnv) (H : Hp) (W : WX) (Q : VK) : Res Cell → Prop
  | .ok c ρ' => ∀ p H', EStp σ ρ H ρ' H' → H p = none → NewAt K O σ ρ' H' p c → Q (.ref p) H'
  | .err x ρ' => ∀ cls d H', EStp σ ρ H ρ' H' → RelEnv K O σ H' ρ' → ExnAt mg x cls d H' → W cls d σ H'
  | .bad => False
def tDL (K : Frg) (mg : Mg) (W : WX) (f : DEnv → Res Cell) : TE := fun σ H Q => ∃ O ρ, RelEnv K O σ H ρ ∧ SatL K mg O σ ρ H W Q (f ρ)

structure DE (X : Cx) (W : WX) (e : Expr) (f : DX) : Prop where
  pe : PE X e (tDX X.K X.mg W f)
structure DT (X : Cx) (W : WX) (e : Expr) (f : DEnv → Res Bool) : Prop where
  pt : PT X e (tDT X.K X.mg W f)
structure DA (X : Cx) (W : WX) (es : List Expr) (f : DEnv → Res (List EV)) : Prop where
  pa : PA X es (tDA X.K X.mg W f)
structure DLs (X : Cx) (W : WX) (e : Expr) (f : DEnv → Res Cell) : Prop where
  pe : PE X e (tDL X.K X.mg W f)
theorem pe_imp {X : Cx} {e : Expr} {t t' : TE} (h : PE X e t) (i : ∀ σ H Q, t' σ H Q → t σ H Q) : PE X e t' := ⟨fun pins s σ H Q I q => h.run pins s σ H Q I (i _ _ _ q)⟩
theorem pt_imp {X : Cx} {e : Expr} {t t' : TT} (h : PT X e t) (i : ∀ σ H Q, t' σ H Q → t σ H Q) : PT X e t' := ⟨fun pins s σ H Q I q => h.run pins s σ H Q I (i _ _ _ q)⟩
theorem pw_imp {X : Cx} {e : Expr} {t t' : TT} (h : PW X e t) (i : ∀ σ H Q, t' σ H Q → t σ H Q) : PW X e t' := ⟨fun wh pins s σ H Q I q => h.run wh pins s σ H Q I (i _ _ _ q)⟩
theorem pa_imp {X : Cx} {e : List Expr} {t t' : TA} (h : PA X e t) (i : ∀ σ H Q, t' σ H Q → t σ H Q) : PA X e t' := ⟨fun pos pins s σ H Q I q => h.run pos pins s σ H Q I (i _ _ _ q)⟩

section alloc
variable {K : Frg} {O : Addr → Prop} {σ : L2.St} {ρ : DEnv} {H : Hp} {p : Addr} {o : HO}
theorem same_upd (h : H p = none) : Same H (upd H p o) := fun b u e => by rw [upd_ne (ne_of_none e h)]; exact e
theorem gv_new (r : RelEnv K O σ H ρ) (h : H p = none) : ∀ a u, Gv O σ ρ H a = some u → Gv (fun a => O a ∨ a = p) σ ρ (upd H p o) a = some u := fun a u e => by
  obtain ⟨h1, h2, h3⟩ := of_Gv e
  have n : a ≠ p := ne_of_none h3 h
  exact Gv_of (fun q => q.elim h1 n) h2 (by rw [upd_ne n]; exact h3)
theorem gv_hide : ∀ a u, Gv (fun a => O a ∨ a = p) σ ρ H a = some u → Gv O σ ρ H a = some u := fun a u e => by
  obtain ⟨h1, h2, h3⟩ := of_Gv e
  exact Gv_of (fun q => h1 (.inl q)) h2 h3
theorem RelEnv.hidden (r : RelEnv K O σ H ρ) (h : H p = none) : RelEnv K (fun a => O a ∨ a = p) σ (upd H p o) ρ := by
  refine ⟨r.len, fun a q => ?_, fun i d e => ?_, fun i b c e => ?_, r.inj, r.raw⟩
  · rcases q with q | q
    · have := r.oa a q
      rw [upd_ne (fun z => this (by rw [z]; exact h))]; exact this
    · rw [q, upd_same]; exact fun z => nomatch z
  · obtain ⟨v, h1, h2⟩ := r.val i d e
    exact ⟨v, h1, dp_mono (gv_new r h) _ _ h2⟩
  · obtain ⟨a, h1, h2, h3⟩ := r.own i b c e
    obtain ⟨u, hu⟩ := h3.some
    refine ⟨a, h1, fun q => q.elim h2 (ne_of_none hu h), h3.mono (gv_new r h) fun u e => ?_⟩
    rw [upd_ne (ne_of_none e h)]; exact e
theorem RelEnv.unhide (r : RelEnv K (fun a => O a ∨ a = p) σ H ρ) : RelEnv K O σ H ρ :=
  ⟨r.len, fun a q => r.oa a (.inl q), fun i d e => let ⟨v, h1, h2⟩ := r.val i d e; ⟨v, h1, dp_mono gv_hide _ _ h2⟩,
    fun i b c e => let ⟨a, h1, h2, h3⟩ := r.own i b c e; ⟨a, h1, fun q => h2 (.inl q), h3.mono gv_hide fun _ q => q⟩, r.inj, r.raw⟩
theorem NewAt.mk' {vs : List V} {ds : List D} (r : RelEnv K O σ H ρ) (h : H p = none) (a : DpAll K (Gv O σ ρ H) vs ds) : NewAt K O σ ρ (upd H p (.lst vs)) p (.lst ds) :=
  ⟨r.hidden h, (r.fresh h).1, (r.fresh h).2, vs, upd_same, dpAll_mono (gv_new r h) _ _ a⟩
/-- a new list, as data -/
theorem NewAt.data {ds : List D} (n : NewAt K O σ ρ H p (.lst ds)) : RelEnv K O σ H ρ ∧ Dp K (Gv O σ ρ H) (.ref p) (.list ds) := by
  obtain ⟨r, h1, h2, vs, h3, h4⟩ := n
  exact ⟨r.unhide, .lst (SqL.of (Gv_of h1 h2 h3)) (dpAll_mono gv_hide _ _ h4)⟩
end alloc

/-- a new list taken as data -/
def ofL (f : DEnv → Res Cell) : DX := fun ρ => bindR (f ρ) fun c ρ' => match c with
  | .lst ds => .ok (.val (.list ds)) ρ'
  | _ => .bad
theorem de_of {X : Cx} {W : WX} {e : Expr} {f : DEnv → Res Cell} (h : DLs X W e f) : DE X W e (ofL f) := by
  refine ⟨pe_imp h.pe fun σ H Q ⟨O, ρ, r, s⟩ => ⟨O, ρ, r, ?_⟩⟩
  unfold ofL at s
  cases q : f ρ with
  | ok c ρ' =>
    rw [q] at s
    cases c with
    | lst ds =>
      intro p H' st _ n
      obtain ⟨a, b⟩ := n.data
      exact s _ H' st a b
    | dK _ => exact s.elim
    | dT _ => exact s.elim
  | err x ρ' => rw [q] at s; exact s
  | bad => rw [q] at s; exact s

/-! ### names and constants -/
def xVar (i : Nat) : DX := fun ρ => match ρ[i]? with
  | some (some (.val d)) => .ok (.val d) ρ
  | some (some (.own _ _)) => .ok (.bor i) ρ
  | _ => .bad
def xC (d : D) : DX := fun ρ => .ok (.val d) ρ
section
variable {X : Cx} {W : WX}
theorem de_var' {i : Nat} {e : Expr} (h : PE X e (tVar i)) : DE X W e (xVar i) := by
  refine ⟨pe_imp h fun σ H Q ⟨O, ρ, r, s⟩ => ?_⟩
  unfold xVar at s
  split at s
  · rename_i d q
    obtain ⟨v, h1, h2⟩ := r.val i d q
    exact ⟨v, h1, s v H .refl r h2⟩
  · rename_i b c q
    obtain ⟨a, h1, h2, h3⟩ := r.own i b c q
    exact ⟨_, h1, s _ H .refl r h1⟩
  · exact s.elim
theorem de_c' {e : Expr} {v : V} {d : D} (h : PE X e (tC v)) (hd : ∀ G, Dp X.K G v d) : DE X W e (xC d) :=
  ⟨pe_imp h fun σ H Q ⟨O, ρ, r, s⟩ => s v H .refl r (hd _)⟩
theorem de_int {i j pos} : DE X W (.Constant (.int i) j pos) (xC (.int i)) := de_c' pe_int fun _ => .int i
theorem de_bl {b j pos} : DE X W (.Constant (.bool b) j pos) (xC (.bool b)) := de_c' pe_bl fun _ => .bl b
theorem de_non {j pos} : DE X W (.Constant .none j pos) (xC .none) := de_c' pe_non fun _ => .non
theorem de_str {x j pos} : DE X W (.Constant (.str x) j pos) (xC (.str x)) := de_c' pe_str fun _ => .str x
theorem dv (i : Nat) {x : Str} {pos : Pos} (hN : X.N[i]? = some x := by rfl) (hv : Vis X.env.scope x := by first | exact Or.inl rfl | exact Or.inr (Or.inl rfl) | exact Or.inr (Or.inr rfl)) (hd : (x == ("__debug__" : Str)) = false := by decide)
    (hcd : (x == ("__classdict__" : Str)) = false := by decide) : DE X W (.Name x pos) (xVar i) := de_var' (pe_var hN hv hd hcd)
theorem de_glob {x : Str} {v : V} {u : Value} {d : D} {pos : Pos} (hm : X.mg x = some u) (r : RelV v u) (hd' : ∀ G, Dp X.K G v d) (hg : Gl X x := by rfl) (hd : (x == ("__debug__" : Str)) = false := by decide) : DE X W (.Name x pos) (xC d) :=
  de_c' (pe_glob hg hm r hd) hd'
end

/-! ### operations on data -/
def derefs (ρ : DEnv) : List EV → Option (List D)
  | [] => some []
  | v :: vs => match deref ρ v with
    | some d => match derefs ρ vs with
      | some ds => some (d :: ds)
      | none => none
    | none => none
def x2 (k : D → D → Option D) (fa fb : DX) : DX := fun ρ => bindR (fa ρ) fun a ρ1 => bindR (fb ρ1) fun b ρ2 => optR (deref ρ2 a) fun d => optR (deref ρ2 b) fun e => optR (k d e) fun z => .ok (.val z) ρ2
def x2L (k : D → D → Option (List D)) (fa fb : DX) : DEnv → Res Cell := fun ρ => bindR (fa ρ) fun a ρ1 => bindR (fb ρ1) fun b ρ2 => optR (deref ρ2 a) fun d => optR (deref ρ2 b) fun e => optR (k d e) fun z => .ok (.lst z) ρ2
def x1 (k : D → Option D) (fa : DX) : DX := fun ρ => bindR (fa ρ) fun a ρ1 => optR (deref ρ1 a) fun d => optR (k d) fun z => .ok (.val z) ρ1
def xt2 (k : D → D → Option Bool) (fa fb : DX) : DEnv → Res Bool := fun ρ => bindR (fa ρ) fun a ρ1 => bindR (fb ρ1) fun b ρ2 => optR (deref ρ2 a) fun d => optR (deref ρ2 b) fun e => optR (k d e) fun z => .ok z ρ2
/-- what the rules of two-place operations are asked -/
def rD2 (K : Frg) (k : D → D → Option D) : R2 := fun x y H Q => ∃ O σ ρ a b d e z, RelEnv K O σ H ρ ∧ RelE K O σ ρ H x a ∧ RelE K O σ ρ H y b ∧ deref ρ a = some d ∧ deref ρ b = some e ∧ k d e = some z ∧
  ∀ u H', Same H H' → Dp K (Gv O σ ρ H') u z → Q u H'
def rD2L (K : Frg) (k : D → D → Option (List D)) : R2 := fun x y H Q => ∃ O σ ρ a b d e z, RelEnv K O σ H ρ ∧ RelE K O σ ρ H x a ∧ RelE K O σ ρ H y b ∧ deref ρ a = some d ∧ deref ρ b = some e ∧ k d e = some z ∧
  ∀ p vs, H p = none → DpAll K (Gv O σ ρ H) vs z → Q (.ref p) (upd H p (.lst vs))
def rD1 (K : Frg) (k : D → Option D) : V → Hp → VK → Prop := fun x H Q => ∃ O σ ρ a d z, RelEnv K O σ H ρ ∧ RelE K O σ ρ H x a ∧ deref ρ a = some d ∧ k d = some z ∧
  ∀ u H', Same H H' → Dp K (Gv O σ ρ H') u z → Q u H'
section
variable {X : Cx} {W : WX} {a b c : Expr} {fa fb fc : DX}
theorem optR_sat {α β γ : Type} {K : Frg} {mg : Mg} {O : Addr → Prop} {σ : L2.St} {ρ : DEnv} {H : Hp} {rel : DEnv → Hp → β → α → Prop} {Q : β → Hp → Prop} {o : Option γ} {k : γ → Res α}
    (h : Sat K mg O σ ρ H W rel Q (optR o k)) : ∃ z, o = some z ∧ Sat K mg O σ ρ H W rel Q (k z) := by
  cases o with
  | some z => exact ⟨z, rfl, h⟩
  | none => exact h.elim
theorem optR_satL {γ : Type} {K : Frg} {mg : Mg} {O : Addr → Prop} {σ : L2.St} {ρ : DEnv} {H : Hp} {Q : VK} {o : Option γ} {k : γ → Res Cell}
    (h : SatL K mg O σ ρ H W Q (optR o k)) : ∃ z, o = some z ∧ SatL K mg O σ ρ H W Q (k z) := by
  cases o with
  | some z => exact ⟨z, rfl, h⟩
  | none => exact h.elim
theorem SatL.shift {K : Frg} {mg : Mg} {O : Addr → Prop} {σ : L2.St} {ρ ρ1 : DEnv} {H H1 : Hp} {Q : VK} {r : Res Cell} (h : SatL K mg O σ ρ H W Q r) (s : EStp σ ρ H ρ1 H1) (n : ∀ p, H1 p = none → H p = none) : SatL K mg O σ ρ1 H1 W Q r := by
  cases r with
  | ok a ρ' => exact fun p H' s' e q => h p H' (s.trans s') (n p e) q
  | err x ρ' => exact fun c d H' s' e q => h c d H' (s.trans s') e q
  | bad => exact h
theorem EStp.none {σ : L2.St} {ρ ρ1 : DEnv} {H H1 : Hp} (s : EStp σ ρ H ρ1 H1) (p : Addr) (h : H1 p = none) : H p = none := by
  cases q : H p with
  | none => rfl
  | some o => exact absurd h (s.al p (by rw [q]; exact fun z => nomatch z))
theorem SatL.bind {α β : Type} {K : Frg} {mg : Mg} {O : Addr → Prop} {σ : L2.St} {ρ : DEnv} {H : Hp} {Q : VK} {rel : DEnv → Hp → β → α → Prop} {r : Res α} {k : α → DEnv → Res Cell} (h : SatL K mg O σ ρ H W Q (bindR r k)) :
    Sat K mg O σ ρ H W rel (fun u H1 => ∃ a ρ1, RelEnv K O σ H1 ρ1 ∧ rel ρ1 H1 u a ∧ EStp σ ρ H ρ1 H1 ∧ SatL K mg O σ ρ1 H1 W Q (k a ρ1)) r := by
  cases r with
  | ok a ρ' => exact fun u H' s e q => ⟨a, ρ', e, q, s, SatL.shift h s s.none⟩
  | err x ρ' => exact h
  | bad => exact h
theorem op2_core {k : D → D → Option D} {σ : L2.St} {H : Hp} {Q : VK} (h : tDX X.K X.mg W (x2 k fa fb) σ H Q) : tOp (rD2 X.K k) (tDX X.K X.mg W fa) (tDX X.K X.mg W fb) σ H Q := by
  obtain ⟨O, ρ, r, s⟩ := h
  refine ⟨O, ρ, r, (Sat.bind s).imp fun u H1 ⟨v, ρ1, r1, e1, s1⟩ => ⟨O, ρ1, r1, ?_⟩⟩
  try dsimp only at s1
  cases q : fb ρ1 with
  | ok b ρ2 =>
    rw [q] at s1
    intro w H2 st r2 e2
    have s2 := s1.shift st
    obtain ⟨d, hd, s3⟩ := optR_sat s2
    obtain ⟨e, he, s4⟩ := optR_sat s3
    obtain ⟨z, hz, s5⟩ := optR_sat s4
    exact ⟨O, σ, ρ2, v, b, d, e, z, r2, e1.mono st, e2, hd, he, hz, fun u' H' sm q' => s5 u' H' (.same sm) (r2.same sm) q'⟩
  | err x ρ2 => rw [q] at s1; exact s1
  | bad => rw [q] at s1; exact s1
theorem op2_coreL {k : D → D → Option (List D)} {σ : L2.St} {H : Hp} {Q : VK} (h : tDL X.K X.mg W (x2L k fa fb) σ H Q) : tOp (rD2L X.K k) (tDX X.K X.mg W fa) (tDX X.K X.mg W fb) σ H Q := by
  obtain ⟨O, ρ, r, s⟩ := h
  refine ⟨O, ρ, r, (SatL.bind s).imp fun u H1 ⟨v, ρ1, r1, e1, st1, s1⟩ => ⟨O, ρ1, r1, ?_⟩⟩
  try dsimp only at s1
  cases q : fb ρ1 with
  | ok b ρ2 =>
    rw [q] at s1
    intro w H2 st r2 e2
    have s2 := s1.shift st st.none
    obtain ⟨d, hd, s3⟩ := optR_satL s2
    obtain ⟨e, he, s4⟩ := optR_satL s3
    obtain ⟨z, hz, s5⟩ := optR_satL s4
    exact ⟨O, σ, ρ2, v, b, d, e, z, r2, e1.mono st, e2, hd, he, hz, fun p vs hp q' => s5 p _ (.same (same_upd hp)) hp (.mk' r2 hp q')⟩
  | err x ρ2 => rw [q] at s1; exact s1
  | bad => rw [q] at s1; exact s1
theorem de_bin {op : Operator} {k : D → D → Option D} {pos : Pos} (ho : OpR X (binaryOp op) (rD2 X.K k)) (ha : DE X W a fa) (hb : DE X W b fb) : DE X W (.BinOp a op b pos) (x2 k fa fb) :=
  ⟨pe_imp (pe_op ho ha.pe hb.pe) fun _ _ _ h => op2_core h⟩
theorem dl_bin {op : Operator} {k : D → D → Option (List D)} {pos : Pos} (ho : OpR X (binaryOp op) (rD2L X.K k)) (ha : DE X W a fa) (hb : DE X W b fb) : DLs X W (.BinOp a op b pos) (x2L k fa fb) :=
  ⟨pe_imp (pe_op ho ha.pe hb.pe) fun _ _ _ h => op2_coreL h⟩
theorem de_cmp {op : CmpOp} {k : D → D → Option D} {pos : Pos} (ho : OpR X (compareOp op) (rD2 X.K k)) (ha : DE X W a fa) (hb : DE X W b fb) (hm : behindInMarks op b = false := by rfl) : DE X W (.Compare a [op] [b] pos) (x2 k fa fb) :=
  ⟨pe_imp (pe_cmpR ho ha.pe hb.pe hm) fun _ _ _ h => op2_core h⟩
theorem de_ix {k : D → D → Option D} {pos : Pos} (ho : IxR X (rD2 X.K k)) (ha : DE X W a fa) (hb : DE X W b fb) (hs : PlainIx b := by exact fun _ _ => rfl) : DE X W (.Subscript a b pos) (x2 k fa fb) :=
  ⟨pe_imp (pe_ix ho ha.pe hb.pe hs) fun _ _ _ h => op2_core h⟩
theorem op1_core {k : D → Option D} {σ : L2.St} {H : Hp} {Q : VK} (h : tDX X.K X.mg W (x1 k fa) σ H Q) : tUn (rD1 X.K k) (tDX X.K X.mg W fa) σ H Q := by
  obtain ⟨O, ρ, r, s⟩ := h
  refine ⟨O, ρ, r, (Sat.bind s).imp fun u H1 ⟨v, ρ1, r1, e1, s1⟩ => ?_⟩
  obtain ⟨d, hd, s3⟩ := optR_sat s1
  obtain ⟨z, hz, s5⟩ := optR_sat s3
  exact ⟨O, σ, ρ1, v, d, z, r1, e1, hd, hz, fun u' H' sm q' => s5 u' H' (.same sm) (r1.same sm) q'⟩
theorem de_un {op : UnaryOp} {k : D → Option D} {pos : Pos} (ho : UnR X (unaryOp op) (rD1 X.K k)) (ha : DE X W a fa) : DE X W (.UnaryOp op a pos) (x1 k fa) :=
  ⟨pe_imp (pe_un ho ha.pe) fun _ _ _ h => op1_core h⟩

/-! ### truth -/
def truthD : D → Option Bool
  | .none => some false
  | .bool b => some b
  | .int i => some (i != 0)
  | .str x => if x.length ≤ sizeLine then some (x.length != 0) else none
  | .list ds => some (!ds.isEmpty)
  | .tuple ds => some (!ds.isEmpty)
  | .dict _ => none
theorem isEmpty_of {α β : Type} {xs : List α} {ys : List β} (h : xs.length = ys.length) : (!ys.isEmpty) = !xs.isEmpty := by
  cases xs with
  | nil => cases ys with
    | nil => rfl
    | cons _ _ => simp at h
  | cons _ _ => cases ys with
    | nil => simp at h
    | cons _ _ => rfl
theorem truV_of {K : Frg} {H : Hp} {x : V} {d : D} {k : Bool} (h : Dp K H x d) (e : truthD d = some k) : TruV K x H k := by
  cases d with
  | none => cases h; cases e; rfl
  | bool b => cases h; cases e; rfl
  | int i => cases h; cases e; rfl
  | str x =>
    cases h
    by_cases q : x.length ≤ sizeLine
    · rw [truthD, if_pos q] at e; cases e; exact ⟨q, by cases x.length <;> simp <;> omega⟩
    · rw [truthD, if_neg q] at e; cases e
  | list ds =>
    cases h with
    | lst s a =>
      cases e
      refine .inl ⟨_, s, ?_⟩
      have := DL.DpAll.length a
      exact isEmpty_of this
  | tuple ds =>
    cases h with
    | tup s a =>
      cases e
      refine .inr (.inl ⟨_, s, ?_⟩)
      have := DL.DpAll.length a
      exact isEmpty_of this
  | dict _ => cases h
end
end DL

namespace DL
open L2 PySem PySem.Spec PyProof.Rows
section
variable {X : Cx} {W : WX} {a b c : Expr} {fa fb fc : DX} {ta tb : DEnv → Res Bool}

/-! ### tests -/
def xTr (fa : DX) : DEnv → Res Bool := fun ρ => bindR (fa ρ) fun a ρ1 => optR (deref ρ1 a) fun d => optR (truthD d) fun k => .ok k ρ1
theorem dt_of (ha : DE X W a fa) (he : ∀ whole, isTrue a X.env whole = (do let v ← whole; standAt a.pos; holding [v] (truthy v)) := by intro _; rfl) : DT X W a (xTr fa) := by
  refine ⟨pt_imp (pt_truth ha.pe he) fun σ H Q ⟨O, ρ, r, s⟩ => ⟨O, ρ, r, (Sat.bind s).imp fun u H1 ⟨v, ρ1, r1, e1, s1⟩ => ?_⟩⟩
  obtain ⟨d, hd, s2⟩ := optR_sat s1
  obtain ⟨k, hk, s3⟩ := optR_sat s2
  exact ⟨k, truV_of (e1.dp r1 hd) hk, s3 k H1 .refl r1 rfl⟩
def kB (k : D → D → Option Bool) : D → D → Option D := fun d e => (k d e).map .bool
theorem dt_cmp {op : CmpOp} {k : D → D → Option Bool} {pos : Pos} (ho : OpR X (compareOp op) (rD2 X.K (kB k))) (ha : DE X W a fa) (hb : DE X W b fb) (hm : behindInMarks op b = false := by rfl) : DT X W (.Compare a [op] [b] pos) (xt2 k fa fb) := by
  refine ⟨pt_imp (pt_cmpR ho ha.pe hb.pe hm) fun σ H Q ⟨O, ρ, r, s⟩ => ⟨O, ρ, r, (Sat.bind s).imp fun u H1 ⟨v, ρ1, r1, e1, s1⟩ => ⟨O, ρ1, r1, ?_⟩⟩⟩
  try dsimp only at s1
  cases q : fb ρ1 with
  | ok b ρ2 =>
    rw [q] at s1
    intro w H2 st r2 e2
    have s2 := s1.shift st
    obtain ⟨d, hd, s3⟩ := optR_sat s2
    obtain ⟨e, he, s4⟩ := optR_sat s3
    obtain ⟨z, hz, s5⟩ := optR_sat s4
    refine ⟨O, σ, ρ2, v, b, d, e, .bool z, r2, e1.mono st, e2, hd, he, by unfold kB; rw [hz]; rfl, fun u' H' sm q' => ?_⟩
    cases q'
    exact ⟨z, rfl, s5 z H' (.same sm) (r2.same sm) rfl⟩
  | err x ρ2 => rw [q] at s1; exact s1
  | bad => rw [q] at s1; exact s1
/-- a op b op' c -/
def xChain (k k' : D → D → Option Bool) (fa fb fc : DX) : DEnv → Res Bool := fun ρ => bindR (fa ρ) fun a ρ1 => bindR (fb ρ1) fun b ρ2 => optR (deref ρ2 a) fun d => optR (deref ρ2 b) fun e => optR (k d e) fun z =>
  if z = true then bindR (fc ρ2) fun c ρ3 => optR (deref ρ3 b) fun e' => optR (deref ρ3 c) fun f => optR (k' e' f) fun z' => .ok z' ρ3 else .ok false ρ2
theorem chain_core {k k' : D → D → Option Bool} {σ : L2.St} {H : Hp} {Q : Bool → Hp → Prop} {Q' : VK} (i : ∀ k H', Q k H' → Q' (.bl k) H') (h : tDT X.K X.mg W (xChain k k' fa fb fc) σ H Q) :
    tChain (rD2 X.K (kB k)) (rD2 X.K (kB k')) (tDX X.K X.mg W fa) (tDX X.K X.mg W fb) (tDX X.K X.mg W fc) σ H Q' := by
  obtain ⟨O, ρ, r, s⟩ := h
  refine ⟨O, ρ, r, (Sat.bind s).imp fun u H1 ⟨v, ρ1, r1, e1, s1⟩ => ⟨O, ρ1, r1, ?_⟩⟩
  try dsimp only at s1
  cases q : fb ρ1 with
  | ok b ρ2 =>
    rw [q] at s1
    intro w H2 st r2 e2
    have s2 := s1.shift st
    obtain ⟨d, hd, s3⟩ := optR_sat s2
    obtain ⟨e, he, s4⟩ := optR_sat s3
    obtain ⟨z, hz, s5⟩ := optR_sat s4
    refine ⟨O, σ, ρ2, v, b, d, e, .bool z, r2, e1.mono st, e2, hd, he, by unfold kB; rw [hz]; rfl, fun u' H' sm q' => ?_⟩
    cases q'
    refine ⟨z, rfl, ?_⟩
    cases z with
    | false =>
      rw [if_neg Bool.false_ne_true] at s5 ⊢
      exact i _ _ (s5 false H' (.same sm) (r2.same sm) rfl)
    | true =>
      rw [if_pos rfl] at s5 ⊢
      have s6 := s5.shift (.same sm)
      refine ⟨O, ρ2, r2.same sm, ?_⟩
      cases qc : fc ρ2 with
      | ok c ρ3 =>
        rw [qc] at s6
        intro y H3 st3 r3 e3
        have s7 := s6.shift st3
        obtain ⟨e', he', s8⟩ := optR_sat s7
        obtain ⟨f', hf', s9⟩ := optR_sat s8
        obtain ⟨z', hz', s10⟩ := optR_sat s9
        refine ⟨O, σ, ρ3, b, c, e', f', .bool z', r3, (e2.mono (.same sm)).mono st3, e3, he', hf', by unfold kB; rw [hz']; rfl, fun u4 H4 sm4 q4 => ?_⟩
        cases q4
        exact i _ _ (s10 z' H4 (.same sm4) (r3.same sm4) rfl)
      | err x ρ3 => rw [qc] at s6; exact s6
      | bad => rw [qc] at s6; exact s6
  | err x ρ2 => rw [q] at s1; exact s1
  | bad => rw [q] at s1; exact s1
theorem dt_chain {op op' : CmpOp} {k k' : D → D → Option Bool} {pos : Pos} (ho : OpR X (compareOp op) (rD2 X.K (kB k))) (ho' : OpR X (compareOp op') (rD2 X.K (kB k'))) (ha : DE X W a fa) (hb : DE X W b fb) (hc : DE X W c fc)
    (hm : lastMarks [op, op'] [b, c] = false := by with_unfolding_all rfl) : DT X W (.Compare a [op, op'] [b, c] pos) (xChain k k' fa fb fc) := ⟨pt_imp (pt_chain ho ho' ha.pe hb.pe hc.pe hm) fun _ _ _ h => chain_core (fun k _ q => ⟨k, rfl, q⟩) h⟩
/-- a test's answer as a value -/
def xOfT (t : DEnv → Res Bool) : DX := fun ρ => bindR (t ρ) fun k ρ1 => .ok (.val (.bool k)) ρ1
theorem de_chain {op op' : CmpOp} {k k' : D → D → Option Bool} {pos : Pos} (ho : OpR X (compareOp op) (rD2 X.K (kB k))) (ho' : OpR X (compareOp op') (rD2 X.K (kB k'))) (ha : DE X W a fa) (hb : DE X W b fb) (hc : DE X W c fc)
    (hm : lastMarks [op, op'] [b, c] = false := by with_unfolding_all rfl) : DE X W (.Compare a [op, op'] [b, c] pos) (xOfT (xChain k k' fa fb fc)) := by
  refine ⟨pe_imp (pe_chain ho ho' ha.pe hb.pe hc.pe hm) fun σ H Q ⟨O, ρ, r, s⟩ => ?_⟩
  have h : tDT X.K X.mg W (xChain k k' fa fb fc) σ H (fun k H' => Q (.bl k) H') := by
    refine ⟨O, ρ, r, (Sat.bind s).imp fun u H1 ⟨v, ρ1, r1, e1, s1⟩ => ?_⟩
    cases e1
    exact s1 _ H1 .refl r1 (.bl _)
  exact chain_core (fun _ _ q => q) h
def xtNot (t : DEnv → Res Bool) : DEnv → Res Bool := fun ρ => bindR (t ρ) fun k ρ1 => .ok (!k) ρ1
theorem dt_not {pos : Pos} (ha : DT X W a ta) : DT X W (.UnaryOp .Not a pos) (xtNot ta) := by
  refine ⟨pt_imp (pt_not ha.pt) fun σ H Q ⟨O, ρ, r, s⟩ => ⟨O, ρ, r, (Sat.bind s).imp fun u H1 ⟨v, ρ1, r1, e1, s1⟩ => ?_⟩⟩
  cases e1
  exact s1 _ H1 .refl r1 rfl
def xtAnd (t u : DEnv → Res Bool) : DEnv → Res Bool := fun ρ => bindR (t ρ) fun k ρ1 => if k = true then u ρ1 else .ok false ρ1
def xtOr (t u : DEnv → Res Bool) : DEnv → Res Bool := fun ρ => bindR (t ρ) fun k ρ1 => if k = true then .ok true ρ1 else u ρ1
structure DW (X : Cx) (W : WX) (e : Expr) (f : DEnv → Res Bool) : Prop where
  pw : PW X e (tDT X.K X.mg W f)
theorem dt_w {e : Expr} {t : DEnv → Res Bool} (h : DW X W e t) : DT X W e t := ⟨h.pw.pt⟩
theorem dw_and1 {pos : Pos} (h : DT X W a ta) : DW X W (.BoolOp .And [a] pos) ta := ⟨pw_and1 h.pt⟩
theorem dw_or1 {pos : Pos} (h : DT X W a ta) : DW X W (.BoolOp .Or [a] pos) ta := ⟨pw_or1 h.pt⟩
theorem dw_and {pos : Pos} {rest : List Expr} (h : DT X W a ta) (h2 : DW X W (.BoolOp .And (b :: rest) pos) tb) : DW X W (.BoolOp .And (a :: b :: rest) pos) (xtAnd ta tb) := by
  refine ⟨pw_imp (pw_and h.pt h2.pw) fun σ H Q ⟨O, ρ, r, s⟩ => ⟨O, ρ, r, (Sat.bind s).imp fun u H1 ⟨v, ρ1, r1, e1, s1⟩ => ?_⟩⟩
  cases e1
  cases u with
  | true => exact iteT ⟨O, ρ1, r1, by simpa using s1⟩
  | false => exact iteF (by simp at s1; exact s1 _ H1 .refl r1 rfl)
theorem dw_or {pos : Pos} {rest : List Expr} (h : DT X W a ta) (h2 : DW X W (.BoolOp .Or (b :: rest) pos) tb) : DW X W (.BoolOp .Or (a :: b :: rest) pos) (xtOr ta tb) := by
  refine ⟨pw_imp (pw_or h.pt h2.pw) fun σ H Q ⟨O, ρ, r, s⟩ => ⟨O, ρ, r, (Sat.bind s).imp fun u H1 ⟨v, ρ1, r1, e1, s1⟩ => ?_⟩⟩
  cases e1
  cases u with
  | false => exact iteF ⟨O, ρ1, r1, by simpa using s1⟩
  | true => exact iteT (by simp at s1; exact s1 _ H1 .refl r1 rfl)

/-! ### and, or, not, if as values -/
def xAnd (fa fb : DX) : DX := fun ρ => bindR (fa ρ) fun a ρ1 => optR (deref ρ1 a) fun d => optR (truthD d) fun k => if k = true then fb ρ1 else .ok a ρ1
def xOr (fa fb : DX) : DX := fun ρ => bindR (fa ρ) fun a ρ1 => optR (deref ρ1 a) fun d => optR (truthD d) fun k => if k = true then .ok a ρ1 else fb ρ1
def xNot (fa : DX) : DX := fun ρ => bindR (fa ρ) fun a ρ1 => optR (deref ρ1 a) fun d => optR (truthD d) fun k => .ok (.val (.bool (!k))) ρ1
def xIf (t : DEnv → Res Bool) (fa fb : DX) : DX := fun ρ => bindR (t ρ) fun k ρ1 => if k = true then fa ρ1 else fb ρ1
theorem de_one {op : BoolOp} {pos : Pos} (h : DE X W a fa) : DE X W (.BoolOp op [a] pos) fa := ⟨pe_one h.pe⟩
theorem de_and {pos : Pos} {rest : List Expr} (ha : DE X W a fa) (hb : DE X W (.BoolOp .And (b :: rest) pos) fb) : DE X W (.BoolOp .And (a :: b :: rest) pos) (xAnd fa fb) := by
  refine ⟨pe_imp (pe_andT ha.pe hb.pe) fun σ H Q ⟨O, ρ, r, s⟩ => ⟨O, ρ, r, (Sat.bind s).imp fun u H1 ⟨v, ρ1, r1, e1, s1⟩ => ?_⟩⟩
  obtain ⟨d, hd, s2⟩ := optR_sat s1
  obtain ⟨k, hk, s3⟩ := optR_sat s2
  refine ⟨k, truV_of (RelE.dp e1 r1 hd) hk, ?_⟩
  cases k with
  | true => exact iteT ⟨O, ρ1, r1, by simpa using s3⟩
  | false => exact iteF (by simp at s3; exact s3 _ H1 .refl r1 e1)
theorem de_or {pos : Pos} {rest : List Expr} (ha : DE X W a fa) (hb : DE X W (.BoolOp .Or (b :: rest) pos) fb) : DE X W (.BoolOp .Or (a :: b :: rest) pos) (xOr fa fb) := by
  refine ⟨pe_imp (pe_orT ha.pe hb.pe) fun σ H Q ⟨O, ρ, r, s⟩ => ⟨O, ρ, r, (Sat.bind s).imp fun u H1 ⟨v, ρ1, r1, e1, s1⟩ => ?_⟩⟩
  obtain ⟨d, hd, s2⟩ := optR_sat s1
  obtain ⟨k, hk, s3⟩ := optR_sat s2
  refine ⟨k, truV_of (RelE.dp e1 r1 hd) hk, ?_⟩
  cases k with
  | false => exact iteF ⟨O, ρ1, r1, by simpa using s3⟩
  | true => exact iteT (by simp at s3; exact s3 _ H1 .refl r1 e1)
theorem de_not {pos : Pos} (ha : DE X W a fa) : DE X W (.UnaryOp .Not a pos) (xNot fa) := by
  refine ⟨pe_imp (pe_notT ha.pe) fun σ H Q ⟨O, ρ, r, s⟩ => ⟨O, ρ, r, (Sat.bind s).imp fun u H1 ⟨v, ρ1, r1, e1, s1⟩ => ?_⟩⟩
  obtain ⟨d, hd, s2⟩ := optR_sat s1
  obtain ⟨k, hk, s3⟩ := optR_sat s2
  exact ⟨k, truV_of (RelE.dp e1 r1 hd) hk, s3 _ H1 .refl r1 (.bl _)⟩
theorem de_if {pos : Pos} (hc : DT X W c ta) (ha : DE X W a fa) (hb : DE X W b fb) : DE X W (.IfExp c a b pos) (xIf ta fa fb) := by
  refine ⟨pe_imp (pe_ifExp hc.pt ha.pe hb.pe) fun σ H Q ⟨O, ρ, r, s⟩ => ⟨O, ρ, r, (Sat.bind s).imp fun u H1 ⟨v, ρ1, r1, e1, s1⟩ => ?_⟩⟩
  cases e1
  cases u with
  | true => exact iteT ⟨O, ρ1, r1, by simpa using s1⟩
  | false => exact iteF ⟨O, ρ1, r1, by simpa using s1⟩

/-! ### argument lists -/
def aNil : DEnv → Res (List EV) := fun ρ => .ok [] ρ
def aCons (f : DX) (g : DEnv → Res (List EV)) : DEnv → Res (List EV) := fun ρ => bindR (f ρ) fun v ρ1 => bindR (g ρ1) fun vs ρ2 => .ok (v :: vs) ρ2
theorem da_nil : DA X W [] aNil := ⟨pa_imp pa_nil fun σ H Q ⟨O, ρ, r, s⟩ => s [] H .refl r trivial⟩
theorem da_cons {es : List Expr} {g : DEnv → Res (List EV)} (ha : DE X W a fa) (hr : DA X W es g) (hs : starEach (a :: es) X.env = (false, eval a X.env) :: starEach es X.env := by rfl) : DA X W (a :: es) (aCons fa g) := by
  refine ⟨pa_imp (pa_cons ha.pe hr.pa hs) fun σ H Q ⟨O, ρ, r, s⟩ => ⟨O, ρ, r, (Sat.bind s).imp fun u H1 ⟨v, ρ1, r1, e1, s1⟩ => ⟨O, ρ1, r1, ?_⟩⟩⟩
  try dsimp only at s1
  cases q : g ρ1 with
  | ok vs ρ2 =>
    rw [q] at s1
    intro us H2 st r2 e2
    exact s1 (u :: us) H2 st r2 ⟨RelE.mono e1 st, e2⟩
  | err x ρ2 => rw [q] at s1; exact s1
  | bad => rw [q] at s1; exact s1
/-- a display's items: what is owned is given up -/
def xTup (g : DEnv → Res (List EV)) : DX := fun ρ => bindR (g ρ) fun vs ρ1 => optR (keeps vs ρ1) fun p => if p.1.length ≤ sizeLine then .ok (.val (.tuple p.1)) p.2 else .bad
def xLst (g : DEnv → Res (List EV)) : DEnv → Res Cell := fun ρ => bindR (g ρ) fun vs ρ1 => optR (keeps vs ρ1) fun p => if p.1.length ≤ sizeLine then .ok (.lst p.1) p.2 else .bad
theorem de_tup {es : List Expr} {x1} {pos : Pos} {g : DEnv → Res (List EV)} (h : DA X W es g) : DE X W (.Tuple es x1 pos) (xTup g) := by
  refine ⟨pe_imp (pe_tup h.pa) fun σ H Q ⟨O, ρ, r, s⟩ => ⟨O, ρ, r, (Sat.bind s).imp fun us H1 ⟨vs, ρ1, r1, e1, s1⟩ => ?_⟩⟩
  obtain ⟨⟨ds, ρ2⟩, hk, s2⟩ := optR_sat s1
  obtain ⟨r2, st, a⟩ := keeps_ok r1 e1 hk
  have hl := DL.DpAll.length a
  dsimp only at s2
  split at s2
  · rename_i hz
    refine ⟨by omega, fun p hp => ?_⟩
    have sm := same_upd (o := .tup us) hp
    refine s2 _ _ (st.trans (.same sm)) (r2.same sm) (L2.Dp.tup (SqT.of (Gv_of (r2.fresh hp).1 (r2.fresh hp).2 upd_same)) (dpAll_mono (same_gv sm) _ _ a))
  · exact s2.elim
theorem dl_lst {es : List Expr} {pos : Pos} {g : DEnv → Res (List EV)} (h : DA X W es g) : DLs X W (.List es pos) (xLst g) := by
  refine ⟨pe_imp (pe_lst h.pa) fun σ H Q ⟨O, ρ, r, s⟩ => ⟨O, ρ, r, (SatL.bind s).imp fun us H1 ⟨vs, ρ1, r1, e1, st1, s1⟩ => ?_⟩⟩
  obtain ⟨⟨ds, ρ2⟩, hk, s2⟩ := optR_satL s1
  obtain ⟨r2, st, a⟩ := keeps_ok r1 e1 hk
  have hl := DL.DpAll.length a
  dsimp only at s2
  split at s2
  · rename_i hz
    refine ⟨by omega, fun p hp => ?_⟩
    exact s2 p _ (st.trans (.same (same_upd hp))) hp (.mk' r2 hp a)
  · exact s2.elim

/-! ### calls of what is built in -/
def xCB (k : List D → Option D) (g : DEnv → Res (List EV)) : DX := fun ρ => bindR (g ρ) fun vs ρ1 => optR (derefs ρ1 vs) fun ds => optR (k ds) fun z => .ok (.val z) ρ1
def xCBL (k : List D → Option (List D)) (g : DEnv → Res (List EV)) : DEnv → Res Cell := fun ρ => bindR (g ρ) fun vs ρ1 => optR (derefs ρ1 vs) fun ds => optR (k ds) fun z => .ok (.lst z) ρ1
def rDn (K : Frg) (k : List D → Option D) : List V → Hp → VK → Prop := fun xs H Q => ∃ O σ ρ vs ds z, RelEnv K O σ H ρ ∧ RelEs K O σ ρ H xs vs ∧ derefs ρ vs = some ds ∧ k ds = some z ∧ ∀ u H', Same H H' → Dp K (Gv O σ ρ H') u z → Q u H'
def rDnL (K : Frg) (k : List D → Option (List D)) : List V → Hp → VK → Prop := fun xs H Q => ∃ O σ ρ vs ds z, RelEnv K O σ H ρ ∧ RelEs K O σ ρ H xs vs ∧ derefs ρ vs = some ds ∧ k ds = some z ∧
  ∀ p us, H p = none → DpAll K (Gv O σ ρ H) us z → Q (.ref p) (upd H p (.lst us))
theorem cb_core {k : List D → Option D} {g : DEnv → Res (List EV)} {σ : L2.St} {H : Hp} {Q : VK} (h : tDX X.K X.mg W (xCB k g) σ H Q) : tCB (rDn X.K k) (tDA X.K X.mg W g) σ H Q := by
  obtain ⟨O, ρ, r, s⟩ := h
  refine ⟨O, ρ, r, (Sat.bind s).imp fun us H1 ⟨vs, ρ1, r1, e1, s1⟩ => ?_⟩
  obtain ⟨ds, hd, s2⟩ := optR_sat s1
  obtain ⟨z, hz, s3⟩ := optR_sat s2
  exact ⟨O, σ, ρ1, vs, ds, z, r1, e1, hd, hz, fun u H' sm q => s3 u H' (.same sm) (r1.same sm) q⟩
theorem cb_coreL {k : List D → Option (List D)} {g : DEnv → Res (List EV)} {σ : L2.St} {H : Hp} {Q : VK} (h : tDL X.K X.mg W (xCBL k g) σ H Q) : tCB (rDnL X.K k) (tDA X.K X.mg W g) σ H Q := by
  obtain ⟨O, ρ, r, s⟩ := h
  refine ⟨O, ρ, r, (SatL.bind s).imp fun us H1 ⟨vs, ρ1, r1, e1, st, s1⟩ => ?_⟩
  obtain ⟨ds, hd, s2⟩ := optR_satL s1
  obtain ⟨z, hz, s3⟩ := optR_satL s2
  exact ⟨O, σ, ρ1, vs, ds, z, r1, e1, hd, hz, fun p us hp q => s3 p _ (.same (same_upd hp)) hp (.mk' r1 hp q)⟩
section
variable {x : Str} {p pos : Pos} {e : Expr} {es : List Expr} {g : DEnv → Res (List EV)}
theorem de_cb {id : String} {k : List D → Option D} (hc : CallR X (.builtin id) (rDn X.K k)) (hm : X.mg x = none) (hv : bootBuiltins x = some (.builtin id)) (ha : DA X W (e :: es) g) (hg : Gl X x := by rfl) (hn : x ≠ "__name__" := by decide) (hdb : (x == ("__debug__" : Str)) = false := by decide)
    (he : starEach (e :: es) X.env = (false, eval e X.env) :: starEach es X.env := by rfl) (hpl : (backTo pos (starEach es X.env)).any (·.1) = false := by rfl) : DE X W (.Call (.Name x p) (e :: es) [] pos) (xCB k g) :=
  ⟨pe_imp (pe_callB hc hg hm hv ha.pa hn hdb he hpl) fun _ _ _ h => cb_core h⟩
theorem de_ct {T : String} {k : List D → Option D} (hc : CallR X (.type T) (rDn X.K k)) (hm : X.mg x = none) (hv : bootBuiltins x = some (.type T)) (ha : DA X W (e :: es) g) (hg : Gl X x := by rfl) (hn : x ≠ "__name__" := by decide) (hdb : (x == ("__debug__" : Str)) = false := by decide)
    (he : starEach (e :: es) X.env = (false, eval e X.env) :: starEach es X.env := by rfl) (hpl : (backTo pos (starEach es X.env)).any (·.1) = false := by rfl) : DE X W (.Call (.Name x p) (e :: es) [] pos) (xCB k g) :=
  ⟨pe_imp (pe_callTy hc hg hm hv ha.pa hn hdb he hpl) fun _ _ _ h => cb_core h⟩
theorem dl_cb {id : String} {k : List D → Option (List D)} (hc : CallR X (.builtin id) (rDnL X.K k)) (hm : X.mg x = none) (hv : bootBuiltins x = some (.builtin id)) (ha : DA X W (e :: es) g) (hg : Gl X x := by rfl) (hn : x ≠ "__name__" := by decide) (hdb : (x == ("__debug__" : Str)) = false := by decide)
    (he : starEach (e :: es) X.env = (false, eval e X.env) :: starEach es X.env := by rfl) (hpl : (backTo pos (starEach es X.env)).any (·.1) = false := by rfl) : DLs X W (.Call (.Name x p) (e :: es) [] pos) (xCBL k g) :=
  ⟨pe_imp (pe_callB hc hg hm hv ha.pa hn hdb he hpl) fun _ _ _ h => cb_coreL h⟩
theorem dl_ct {T : String} {k : List D → Option (List D)} (hc : CallR X (.type T) (rDnL X.K k)) (hm : X.mg x = none) (hv : bootBuiltins x = some (.type T)) (ha : DA X W (e :: es) g) (hg : Gl X x := by rfl) (hn : x ≠ "__name__" := by decide) (hdb : (x == ("__debug__" : Str)) = false := by decide)
    (he : starEach (e :: es) X.env = (false, eval e X.env) :: starEach es X.env := by rfl) (hpl : (backTo pos (starEach es X.env)).any (·.1) = false := by rfl) : DLs X W (.Call (.Name x p) (e :: es) [] pos) (xCBL k g) :=
  ⟨pe_imp (pe_callTy hc hg hm hv ha.pa hn hdb he hpl) fun _ _ _ h => cb_coreL h⟩
end
end
end DL

namespace DL
open L2 PySem PySem.Spec PyProof.Rows

abbrev DSt := DEnv → Fl
/-- a step of a statement -/
structure SStp (σ : L2.St) (ρ : DEnv) (H : Hp) (σ' : L2.St) (ρ' : DEnv) (H' : Hp) : Prop where
  ext : ∀ b o, H b = some o → ¬ Ow σ ρ b → H' b = some o
  al : ∀ b, H b ≠ none → H' b ≠ none
  own : ∀ b, Ow σ' ρ' b → Ow σ ρ b ∨ H b = none
  io : ∀ (i : Nat) (c : Cell), ρ[i]? = some (some (.own true c)) → σ'[i]? = σ[i]? ∧ ∃ c', ρ'[i]? = some (some (.own true c'))
theorem SStp.refl {σ : L2.St} {ρ : DEnv} {H : Hp} : SStp σ ρ H σ ρ H := ⟨fun _ _ h _ => h, fun _ h => h, fun _ h => .inl h, fun _ c h => ⟨rfl, c, h⟩⟩
theorem SStp.trans {σ σ1 σ2 : L2.St} {ρ ρ1 ρ2 : DEnv} {H H1 H2 : Hp} (a : SStp σ ρ H σ1 ρ1 H1) (b : SStp σ1 ρ1 H1 σ2 ρ2 H2) : SStp σ ρ H σ2 ρ2 H2 where
  ext := fun c o h n => b.ext c o (a.ext c o h n) fun q => (a.own c q).elim n fun z => by rw [h] at z; cases z
  al := fun c h => b.al c (a.al c h)
  own := fun c h => (b.own c h).elim (fun q => a.own c q) fun z => .inr (by
    cases q : H c with
    | none => rfl
    | some o => exact absurd z (a.al c (by rw [q]; exact fun z => nomatch z)))
  io := fun i c h => by
    obtain ⟨e1, c1, h1⟩ := a.io i c h
    obtain ⟨e2, c2, h2⟩ := b.io i c1 h1
    exact ⟨e2.trans e1, c2, h2⟩
theorem EStp.s {σ : L2.St} {ρ ρ' : DEnv} {H H' : Hp} (a : EStp σ ρ H ρ' H') : SStp σ ρ H σ ρ' H' := ⟨a.ext, a.al, fun b h => .inl (a.own b h), fun i c h => ⟨rfl, a.io i c h⟩⟩
theorem SStp.gv {O : Addr → Prop} {σ σ' : L2.St} {ρ ρ' : DEnv} {H H' : Hp} (s : SStp σ ρ H σ' ρ' H') : ∀ a o, Gv O σ ρ H a = some o → Gv O σ' ρ' H' a = some o := fun a o h => by
  obtain ⟨h1, h2, h3⟩ := of_Gv h
  exact Gv_of h1 (fun q => (s.own a q).elim h2 fun z => by rw [h3] at z; cases z) (s.ext a o h3 h2)

/-- what is handed back: seen data, or a thing that nobody else holds -/
def RelR (K : Frg) (O : Addr → Prop) (σ : L2.St) (ρ : DEnv) (H : Hp) (σ' : L2.St) (ρ' : DEnv) (H' : Hp) (u : V) : RV → Prop
  | .val d => RelEnv K O σ' H' ρ' ∧ Dp K (Gv O σ' ρ' H') u d
  | .own c => ∃ p, u = .ref p ∧ NewAt K O σ' ρ' H' p c ∧ (Ow σ ρ p ∨ H p = none)
def SatS (K : Frg) (mg : Mg) (O : Addr → Prop) (σ : L2.St) (ρ : DEnv) (H : Hp) (W : WX) (E : Ends) : Fl → Prop
  | .nx ρ' => ∀ σ' H', SStp σ ρ H σ' ρ' H' → RelEnv K O σ' H' ρ' → E.nx σ' H'
  | .rt v ρ' => ∀ u σ' H', SStp σ ρ H σ' ρ' H' → RelR K O σ ρ H σ' ρ' H' u v → E.rt u H'
  | .bk ρ' => ∀ σ' H', SStp σ ρ H σ' ρ' H' → RelEnv K O σ' H' ρ' → E.bk σ' H'
  | .ct ρ' => ∀ σ' H', SStp σ ρ H σ' ρ' H' → RelEnv K O σ' H' ρ' → E.ct σ' H'
  | .err x ρ' => ∀ cls d σ' H', SStp σ ρ H σ' ρ' H' → RelEnv K O σ' H' ρ' → ExnAt mg x cls d H' → W cls d σ' H'
  | .bad => False
theorem RelR.back {K : Frg} {O : Addr → Prop} {σ σ1 σ' : L2.St} {ρ ρ1 ρ' : DEnv} {H H1 H' : Hp} {u : V} {v : RV} (s : SStp σ ρ H σ1 ρ1 H1) (r : RelR K O σ1 ρ1 H1 σ' ρ' H' u v) : RelR K O σ ρ H σ' ρ' H' u v := by
  cases v with
  | val d => exact r
  | own c =>
    obtain ⟨p, h1, h2, h3⟩ := r
    refine ⟨p, h1, h2, h3.elim (fun q => s.own p q) fun z => .inr ?_⟩
    cases q : H p with
    | none => rfl
    | some o => exact absurd z (s.al p (by rw [q]; exact fun z => nomatch z))
theorem SatS.shift {K : Frg} {mg : Mg} {O : Addr → Prop} {σ σ1 : L2.St} {ρ ρ1 : DEnv} {H H1 : Hp} {W : WX} {E : Ends} {r : Fl} (h : SatS K mg O σ ρ H W E r) (s : SStp σ ρ H σ1 ρ1 H1) : SatS K mg O σ1 ρ1 H1 W E r := by
  cases r with
  | nx ρ' => exact fun σ' H' s' e => h σ' H' (s.trans s') e
  | rt v ρ' => exact fun u σ' H' s' e => h u σ' H' (s.trans s') (e.back s)
  | bk ρ' => exact fun σ' H' s' e => h σ' H' (s.trans s') e
  | ct ρ' => exact fun σ' H' s' e => h σ' H' (s.trans s') e
  | err x ρ' => exact fun c d σ' H' s' e q => h c d σ' H' (s.trans s') e q
  | bad => exact h
def tDS (K : Frg) (mg : Mg) (W : WX) (g : DSt) : TS := fun E σ H => ∃ O ρ, RelEnv K O σ H ρ ∧ SatS K mg O σ ρ H W E (g ρ)
structure DS (X : Cx) (W : WX) (st : Stmt) (g : DSt) : Prop where
  ps : PS X st (tDS X.K X.mg W g)
structure DSs (X : Cx) (W : WX) (st : List Stmt) (g : DSt) : Prop where
  pss : PSs X st (tDS X.K X.mg W g)
theorem ps_imp {X : Cx} {e : Stmt} {t t' : TS} (h : PS X e t) (i : ∀ D σ H, t' D σ H → t D σ H) : PS X e t' := ⟨fun pins s σ H D I q => h.run pins s σ H D I (i _ _ _ q)⟩
theorem pss_imp {X : Cx} {e : List Stmt} {t t' : TS} (h : PSs X e t) (i : ∀ D σ H, t' D σ H → t D σ H) : PSs X e t' := ⟨fun pins s σ H D I q => h.run pins s σ H D I (i _ _ _ q)⟩
theorem pg_imp {X : Cx} {e : Expr} {t t' : TG} (h : PG X e t) (i : ∀ v σ H Q, t' v σ H Q → t v σ H Q) : PG X e t' := ⟨fun pins s σ H v u Q I r q => h.run pins s σ H v u Q I r (i _ _ _ _ q)⟩

def bindF {α : Type} (r : Res α) (k : α → DEnv → Fl) : Fl := match r with
  | .ok a ρ => k a ρ
  | .err x ρ => .err x ρ
  | .bad => .bad
@[simp] theorem bindF_ok {α : Type} (a : α) (ρ : DEnv) (k : α → DEnv → Fl) : bindF (.ok a ρ) k = k a ρ := (Eq.refl _).trans (Eq.refl _)
@[simp] theorem bindF_err {α : Type} (x : Exn) (ρ : DEnv) (k : α → DEnv → Fl) : bindF (.err x ρ : Res α) k = .err x ρ := (Eq.refl _).trans (Eq.refl _)
@[simp] theorem bindF_bad {α : Type} (k : α → DEnv → Fl) : bindF (.bad : Res α) k = .bad := (Eq.refl _).trans (Eq.refl _)
def optF {α : Type} (o : Option α) (k : α → Fl) : Fl := match o with
  | some a => k a
  | none => .bad
@[simp] theorem optF_some {α : Type} (a : α) (k : α → Fl) : optF (some a) k = k a := (Eq.refl _).trans (Eq.refl _)
@[simp] theorem optF_none {α : Type} (k : α → Fl) : optF none k = .bad := (Eq.refl _).trans (Eq.refl _)
def seqF (f : Fl) (g : DSt) : Fl := match f with
  | .nx ρ => g ρ
  | z => z
@[simp] theorem seqF_nx (ρ : DEnv) (g : DSt) : seqF (.nx ρ) g = g ρ := (Eq.refl _).trans (Eq.refl _)
@[simp] theorem seqF_rt (v : RV) (ρ : DEnv) (g : DSt) : seqF (.rt v ρ) g = .rt v ρ := (Eq.refl _).trans (Eq.refl _)
@[simp] theorem seqF_bk (ρ : DEnv) (g : DSt) : seqF (.bk ρ) g = .bk ρ := (Eq.refl _).trans (Eq.refl _)
@[simp] theorem seqF_ct (ρ : DEnv) (g : DSt) : seqF (.ct ρ) g = .ct ρ := (Eq.refl _).trans (Eq.refl _)
@[simp] theorem seqF_err (x : Exn) (ρ : DEnv) (g : DSt) : seqF (.err x ρ) g = .err x ρ := (Eq.refl _).trans (Eq.refl _)
@[simp] theorem seqF_bad (g : DSt) : seqF .bad g = .bad := (Eq.refl _).trans (Eq.refl _)

section
variable {K : Frg} {mg : Mg} {O : Addr → Prop} {σ : L2.St} {ρ : DEnv} {H : Hp} {W : WX} {E : Ends}
theorem SatS.bind {α β : Type} {rel : DEnv → Hp → β → α → Prop} {r : Res α} {k : α → DEnv → Fl} (h : SatS K mg O σ ρ H W E (bindF r k)) :
    Sat K mg O σ ρ H W rel (fun u H1 => ∃ a ρ1, RelEnv K O σ H1 ρ1 ∧ rel ρ1 H1 u a ∧ EStp σ ρ H ρ1 H1 ∧ SatS K mg O σ ρ1 H1 W E (k a ρ1)) r := by
  cases r with
  | ok a ρ' => exact fun u H' s e q => ⟨a, ρ', e, q, s, SatS.shift h s.s⟩
  | err x ρ' => exact fun c d H' s e q => h c d σ H' s.s e q
  | bad => exact h
theorem SatS.bindL {r : Res Cell} {k : Cell → DEnv → Fl} (h : SatS K mg O σ ρ H W E (bindF r k)) :
    SatL K mg O σ ρ H W (fun u H1 => ∃ c ρ1 p, u = .ref p ∧ NewAt K O σ ρ1 H1 p c ∧ H p = none ∧ EStp σ ρ H ρ1 H1 ∧ SatS K mg O σ ρ1 H1 W E (k c ρ1)) r := by
  cases r with
  | ok a ρ' => exact fun p H' s e q => ⟨a, ρ', p, rfl, q, e, s, SatS.shift h s.s⟩
  | err x ρ' => exact fun c d H' s e q => h c d σ H' s.s e q
  | bad => exact h
theorem optF_sat {γ : Type} {o : Option γ} {k : γ → Fl} (h : SatS K mg O σ ρ H W E (optF o k)) : ∃ z, o = some z ∧ SatS K mg O σ ρ H W E (k z) := by
  cases o with
  | some z => exact ⟨z, rfl, h⟩
  | none => exact h.elim
theorem SatL.imp {Q Q' : VK} {r : Res Cell} (h : SatL K mg O σ ρ H W Q r) (i : ∀ u H', Q u H' → Q' u H') : SatL K mg O σ ρ H W Q' r := by
  cases r with
  | ok a ρ' => exact fun p H' s e q => i _ _ (h p H' s e q)
  | err x ρ' => exact h
  | bad => exact h

/-! ### storing at a name -/
def isIo (o : Option (Option SV)) : Bool := match o with
  | some (some (.own true _)) => true
  | _ => false
theorem ow_setV {v : Option V} {i : Nat} {x : Option SV} {b : Addr} (hx : ∀ io c, x ≠ some (.own io c)) (h : Ow (σ.set i v) (ρ.set i x) b) : Ow σ ρ b := by
  obtain ⟨j, io, c, e1, e2⟩ := h
  by_cases hj : i = j
  · subst hj
    rw [List.getElem?_set] at e1
    simp only [if_true] at e1
    split at e1
    · exact absurd (Option.some.inj e1) (hx io c)
    · cases e1
  · rw [List.getElem?_set_ne hj] at e1 e2
    exact ⟨j, io, c, e1, e2⟩
theorem set_val {u : V} {d : D} {i : Nat} (r : RelEnv K O σ H ρ) (hio : isIo ρ[i]? = false) (hd : Dp K (Gv O σ ρ H) u d) :
    RelEnv K O (σ.set i (some u)) H (ρ.set i (some (.val d))) ∧ SStp σ ρ H (σ.set i (some u)) (ρ.set i (some (.val d))) H := by
  have ow : ∀ b, Ow (σ.set i (some u)) (ρ.set i (some (.val d))) b → Ow σ ρ b := fun b h => ow_setV (by intro _ _ z; cases z) h
  have st : SStp σ ρ H (σ.set i (some u)) (ρ.set i (some (.val d))) H := ⟨fun _ _ h _ => h, fun _ h => h, fun b h => .inl (ow b h), fun j c h => by
    have hj : i ≠ j := by rintro rfl; rw [h] at hio; cases hio
    rw [List.getElem?_set_ne hj, List.getElem?_set_ne hj]; exact ⟨rfl, c, h⟩⟩
  refine ⟨⟨by rw [List.length_set, List.length_set]; exact r.len, r.oa, fun j d' h => ?_, fun j b c h => ?_, fun j k a b c b' c' h1 h2 h3 h4 => ?_, fun j a h => ?_⟩, st⟩
  · by_cases hj : i = j
    · subst hj
      have hi : i < ρ.length := by
        have := (List.getElem?_eq_some_iff.mp h).1
        rw [List.length_set] at this; exact this
      rw [List.getElem?_set_self hi] at h
      cases h
      exact ⟨u, List.getElem?_set_self (by rw [r.len]; exact hi), dp_mono st.gv _ _ hd⟩
    · rw [List.getElem?_set_ne hj] at h ⊢
      obtain ⟨v, h1, h2⟩ := r.val j d' h
      exact ⟨v, h1, dp_mono st.gv _ _ h2⟩
  · by_cases hj : i = j
    · subst hj
      have hi : i < ρ.length := by
        have := (List.getElem?_eq_some_iff.mp h).1
        rw [List.length_set] at this; exact this
      rw [List.getElem?_set_self hi] at h
      cases h
    · rw [List.getElem?_set_ne hj] at h ⊢
      obtain ⟨a, h1, h2, h3⟩ := r.own j b c h
      exact ⟨a, h1, h2, h3.mono st.gv fun _ q => q⟩
  · have n1 : i ≠ j := by
      rintro rfl
      have hi := (List.getElem?_eq_some_iff.mp h1).1
      rw [List.length_set] at hi
      rw [List.getElem?_set_self hi] at h1; cases h1
    have n2 : i ≠ k := by
      rintro rfl
      have hi := (List.getElem?_eq_some_iff.mp h2).1
      rw [List.length_set] at hi
      rw [List.getElem?_set_self hi] at h2; cases h2
    rw [List.getElem?_set_ne n1] at h1 h3
    rw [List.getElem?_set_ne n2] at h2 h4
    exact r.inj j k a _ _ _ _ h1 h2 h3 h4
  · have hj : i ≠ j := by
      rintro rfl
      have hi := (List.getElem?_eq_some_iff.mp h).1
      rw [List.length_set] at hi
      rw [List.getElem?_set_self hi] at h; cases h
    rw [List.getElem?_set_ne hj] at h ⊢
    exact r.raw j a h
theorem set_own {p : Addr} {c : Cell} {i : Nat} (n : NewAt K O σ ρ H p c) (hio : isIo ρ[i]? = false) :
    RelEnv K O (σ.set i (some (.ref p))) H (ρ.set i (some (.own false c))) ∧ (∀ b, Ow (σ.set i (some (.ref p))) (ρ.set i (some (.own false c))) b → Ow σ ρ b ∨ b = p) := by
  obtain ⟨r, np, no, hc⟩ := n
  have ow : ∀ b, Ow (σ.set i (some (.ref p))) (ρ.set i (some (.own false c))) b → Ow σ ρ b ∨ b = p := fun b h => by
    obtain ⟨j, io, c', e1, e2⟩ := h
    by_cases hj : i = j
    · subst hj
      have hi : i < σ.length := by
        have := (List.getElem?_eq_some_iff.mp e2).1
        rw [List.length_set] at this; exact this
      rw [List.getElem?_set_self hi] at e2
      cases e2; exact .inr rfl
    · rw [List.getElem?_set_ne hj] at e1 e2
      exact .inl ⟨j, io, c', e1, e2⟩
  have gv : ∀ a o, Gv (fun a => O a ∨ a = p) σ ρ H a = some o → Gv O (σ.set i (some (.ref p))) (ρ.set i (some (.own false c))) H a = some o := fun a o h => by
    obtain ⟨h1, h2, h3⟩ := of_Gv h
    exact Gv_of (fun q => h1 (.inl q)) (fun q => (ow a q).elim h2 fun z => h1 (.inr z)) h3
  refine ⟨⟨by rw [List.length_set, List.length_set]; exact r.len, fun a q => r.oa a (.inl q), fun j d' h => ?_, fun j b c h => ?_, fun j k a b1 c1 b' c' h1 h2 h3 h4 => ?_, fun j a h => ?_⟩, ow⟩
  · by_cases hj : i = j
    · subst hj
      have hi : i < ρ.length := by
        have := (List.getElem?_eq_some_iff.mp h).1
        rw [List.length_set] at this; exact this
      rw [List.getElem?_set_self hi] at h
      cases h
    · rw [List.getElem?_set_ne hj] at h ⊢
      obtain ⟨v, h1, h2⟩ := r.val j d' h
      exact ⟨v, h1, dp_mono gv _ _ h2⟩
  · by_cases hj : i = j
    · subst hj
      have hi : i < ρ.length := by
        have := (List.getElem?_eq_some_iff.mp h).1
        rw [List.length_set] at this; exact this
      rw [List.getElem?_set_self hi] at h
      cases h
      exact ⟨p, List.getElem?_set_self (by rw [r.len]; exact hi), np, hc.mono gv fun _ q => q⟩
    · rw [List.getElem?_set_ne hj] at h ⊢
      obtain ⟨a, h1, h2, h3⟩ := r.own j b c h
      exact ⟨a, h1, fun q => h2 (.inl q), h3.mono gv fun _ q => q⟩
  · have key : ∀ {m : Nat} {b0 : Bool} {c0 : Cell}, (ρ.set i (some (.own false c)))[m]? = some (some (.own b0 c0)) → (σ.set i (some (V.ref p)))[m]? = some (some (.ref a)) → (m = i ∧ a = p) ∨ (m ≠ i ∧ ρ[m]? = some (some (.own b0 c0)) ∧ σ[m]? = some (some (.ref a)) ∧ a ≠ p) := by
      intro m b0 c0 e1 e2
      by_cases hm : i = m
      · subst hm
        have hi : i < σ.length := by
          have := (List.getElem?_eq_some_iff.mp e2).1
          rw [List.length_set] at this; exact this
        rw [List.getElem?_set_self hi] at e2
        cases e2
        exact .inl ⟨rfl, rfl⟩
      · rw [List.getElem?_set_ne hm] at e1 e2
        refine .inr ⟨fun z => hm z.symm, e1, e2, ?_⟩
        rintro rfl
        exact no ⟨m, b0, c0, e1, e2⟩
    rcases key h1 h3 with ⟨e1, e2⟩ | ⟨n1, q1, q2, q3⟩
    · rcases key h2 h4 with ⟨f1, f2⟩ | ⟨m1, p1, p2, p3⟩
      · rw [e1, f1]
      · exact absurd e2 p3
    · rcases key h2 h4 with ⟨f1, f2⟩ | ⟨m1, p1, p2, p3⟩
      · exact absurd f2 q3
      · exact r.inj j k a _ _ _ _ q1 p1 q2 p2
  · have hj : i ≠ j := by
      rintro rfl
      have hi := (List.getElem?_eq_some_iff.mp h).1
      rw [List.length_set] at hi
      rw [List.getElem?_set_self hi] at h; cases h
    rw [List.getElem?_set_ne hj] at h ⊢
    exact r.raw j a h
theorem set_ownS {p : Addr} {c : Cell} {i : Nat} {ρ0 : DEnv} {H0 : Hp} (st : EStp σ ρ0 H0 ρ H) (hp : H0 p = none) (n : NewAt K O σ ρ H p c) (hio : isIo ρ[i]? = false) :
    SStp σ ρ0 H0 (σ.set i (some (.ref p))) (ρ.set i (some (.own false c))) H := by
  have ow := (set_own n hio).2
  refine ⟨st.ext, st.al, fun b h => (ow b h).elim (fun q => .inl (st.own b q)) fun z => .inr (by rw [z]; exact hp), fun j c' h => ?_⟩
  obtain ⟨c1, h1⟩ := st.io j c' h
  have hj : i ≠ j := by rintro rfl; rw [h1] at hio; cases hio
  rw [List.getElem?_set_ne hj, List.getElem?_set_ne hj]; exact ⟨rfl, c1, h1⟩
end

/-! ### blocks -/
section
variable {X : Cx} {W : WX} {st : Stmt} {sts : List Stmt} {g h : DSt}
def gNext : DSt := fun ρ => .nx ρ
def gSeq (g h : DSt) : DSt := fun ρ => seqF (g ρ) h
theorem dss_nil : DSs X W [] gNext := ⟨pss_imp pss_nil fun E σ H ⟨O, ρ, r, s⟩ => s σ H .refl r⟩
theorem dss_cons (a : DS X W st g) (b : DSs X W sts h) : DSs X W (st :: sts) (gSeq g h) := by
  refine ⟨pss_imp (pss_cons a.ps b.pss) fun E σ H ⟨O, ρ, r, s⟩ => ⟨O, ρ, r, ?_⟩⟩
  unfold gSeq at s
  cases q : g ρ with
  | nx ρ1 => rw [q] at s; exact fun σ' H' st' r' => ⟨O, ρ1, r', SatS.shift s st'⟩
  | rt v ρ1 => rw [q] at s; exact s
  | bk ρ1 => rw [q] at s; exact s
  | ct ρ1 => rw [q] at s; exact s
  | err x ρ1 => rw [q] at s; exact s
  | bad => rw [q] at s; exact s
theorem dss_one (a : DS X W st g) : DSs X W [st] g := ⟨pss_imp (pss_one a.ps) fun E σ H s => s⟩
theorem ds_pass {pos : Pos} : DS X W (.Pass pos) gNext := ⟨ps_imp ps_pass fun E σ H ⟨O, ρ, r, s⟩ => s σ H .refl r⟩
def gBreak : DSt := fun ρ => .bk ρ
def gCont : DSt := fun ρ => .ct ρ
theorem ds_break {pos : Pos} : DS X W (.Break pos) gBreak := ⟨ps_imp ps_break fun E σ H ⟨O, ρ, r, s⟩ => s σ H .refl r⟩
theorem ds_cont {pos : Pos} : DS X W (.Continue pos) gCont := ⟨ps_imp ps_continue fun E σ H ⟨O, ρ, r, s⟩ => s σ H .refl r⟩
def gIf (t : DEnv → Res Bool) (g h : DSt) : DSt := fun ρ => bindF (t ρ) fun k ρ1 => if k = true then g ρ1 else h ρ1
theorem ds_if {c : Expr} {as bs : List Stmt} {pos : Pos} {t : DEnv → Res Bool} (hc : DT X W c t) (ha : DSs X W as g) (hb : DSs X W bs h) : DS X W (.If c as bs pos) (gIf t g h) := by
  refine ⟨ps_imp (ps_if hc.pt ha.pss hb.pss) fun E σ H ⟨O, ρ, r, s⟩ => ⟨O, ρ, r, (SatS.bind s).imp fun u H1 ⟨v, ρ1, r1, e1, st, s1⟩ => ?_⟩⟩
  cases e1
  cases u with
  | true => exact iteT ⟨O, ρ1, r1, by simpa using s1⟩
  | false => exact iteF ⟨O, ρ1, r1, by simpa using s1⟩

/-! ### expressions, returns, assignments -/
def gExpr (f : DX) : DSt := fun ρ => bindF (f ρ) fun _ ρ1 => .nx ρ1
theorem ds_expr {e : Expr} {f : DX} {pos : Pos} (he : DE X W e f) (hs : swapsWith e none pos.line X.env = pure false := by rfl) : DS X W (.Expr e pos) (gExpr f) := by
  refine ⟨ps_imp (ps_expr he.pe hs) fun E σ H ⟨O, ρ, r, s⟩ => ⟨O, ρ, r, (SatS.bind s).imp fun u H1 ⟨v, ρ1, r1, e1, st, s1⟩ => ?_⟩⟩
  exact s1 σ H1 .refl r1
def gRet (f : DX) : DSt := fun ρ => bindF (f ρ) fun v ρ1 => optF (keep v ρ1) fun p => .rt (.val p.1) p.2
theorem ds_ret {e : Expr} {f : DX} {pos : Pos} (he : DE X W e f) : DS X W (.Return (some e) pos) (gRet f) := by
  refine ⟨ps_imp (ps_ret he.pe) fun E σ H ⟨O, ρ, r, s⟩ => ⟨O, ρ, r, (SatS.bind s).imp fun u H1 ⟨v, ρ1, r1, e1, st, s1⟩ => ?_⟩⟩
  obtain ⟨⟨d, ρ2⟩, hk, s2⟩ := optF_sat s1
  obtain ⟨r2, st2, hd⟩ := keep_ok r1 e1 hk
  exact s2 u σ H1 st2.s ⟨r2, hd⟩
def gRetL (f : DEnv → Res Cell) : DSt := fun ρ => bindF (f ρ) fun c ρ1 => .rt (.own c) ρ1
theorem ds_retL {e : Expr} {f : DEnv → Res Cell} {pos : Pos} (he : DLs X W e f) : DS X W (.Return (some e) pos) (gRetL f) := by
  refine ⟨ps_imp (ps_ret he.pe) fun E σ H ⟨O, ρ, r, s⟩ => ⟨O, ρ, r, ?_⟩⟩
  unfold gRetL at s
  cases q : f ρ with
  | ok c ρ1 =>
    rw [q] at s
    exact fun p H' st hp n => s _ σ H' st.s ⟨p, rfl, n, .inr hp⟩
  | err x ρ1 => rw [q] at s; exact fun c d H' st e z => s c d σ H' st.s e z
  | bad => rw [q] at s; exact s
def gRetN : DSt := fun ρ => .rt (.val .none) ρ
theorem ds_retN {pos : Pos} : DS X W (.Return none pos) gRetN := ⟨ps_imp ps_retN fun E σ H ⟨O, ρ, r, s⟩ => s .non σ H .refl ⟨r, .non⟩⟩
/-- return of a name that owns its thing -/
def gRetOwn (i : Nat) : DSt := fun ρ => match ρ[i]? with
  | some (some (.own false c)) => .rt (.own c) (ρ.set i none)
  | _ => .bad
def gSet (i : Nat) (f : DX) : DSt := fun ρ => bindF (f ρ) fun v ρ1 => optF (keep v ρ1) fun p => if isIo p.2[i]? = true then .bad else .nx (p.2.set i (some (.val p.1)))
def gSetL (i : Nat) (f : DEnv → Res Cell) : DSt := fun ρ => bindF (f ρ) fun c ρ1 => if isIo ρ1[i]? = true then .bad else .nx (ρ1.set i (some (.own false c)))
theorem set_core {i : Nat} {f : DX} {E : Ends} {σ : L2.St} {H : Hp} (h : tDS X.K X.mg W (gSet i f) E σ H) : tAsg (tDX X.K X.mg W f) (gName i) E σ H := by
  obtain ⟨O, ρ, r, s⟩ := h
  refine ⟨O, ρ, r, (SatS.bind s).imp fun u H1 ⟨v, ρ1, r1, e1, st, s1⟩ => ?_⟩
  obtain ⟨⟨d, ρ2⟩, hk, s2⟩ := optF_sat s1
  obtain ⟨r2, st2, hd⟩ := keep_ok r1 e1 hk
  dsimp only at s2
  split at s2
  · exact s2.elim
  · rename_i hio
    obtain ⟨r3, st3⟩ := set_val r2 (by simpa using hio) hd
    exact s2 _ H1 (st2.s.trans st3) r3
theorem set_coreL {i : Nat} {f : DEnv → Res Cell} {E : Ends} {σ : L2.St} {H : Hp} (h : tDS X.K X.mg W (gSetL i f) E σ H) : tAsg (tDL X.K X.mg W f) (gName i) E σ H := by
  obtain ⟨O, ρ, r, s⟩ := h
  refine ⟨O, ρ, r, ?_⟩
  unfold gSetL at s
  cases q : f ρ with
  | ok c ρ1 =>
    rw [q] at s
    intro p H' st hp n
    dsimp only [bindF] at s
    split at s
    · exact s.elim
    · rename_i hio
      exact s _ H' (set_ownS st hp n (by simpa using hio)) (set_own n (by simpa using hio)).1
  | err x ρ1 => rw [q] at s; exact fun c d H' st e z => s c d σ H' st.s e z
  | bad => rw [q] at s; exact s
section
variable {i : Nat} {x : Str} {e : Expr} {pos pos' : Pos}
theorem ds_set {f : DX} (he : DE X W e f) (hN : X.N.Nodup) (hi : X.N[i]? = some x := by rfl) (hx : Loc X.env.scope x := by first | exact Or.inl rfl | exact Or.inr rfl) (hs : swapsWith e (some (.Name x pos')) pos.line X.env = pure false := by rfl)
    (hf : X.fn x = true ∨ X.env.scope.names.lookup x = some .local := by first | exact .inl rfl | exact .inr rfl | assumption) : DS X W (.Assign [.Name x pos'] e pos) (gSet i f) :=
  ⟨ps_imp (ps_set hN hi hx he.pe hs hf) fun _ _ _ h => set_core h⟩
theorem ds_setL {f : DEnv → Res Cell} (he : DLs X W e f) (hN : X.N.Nodup) (hi : X.N[i]? = some x := by rfl) (hx : Loc X.env.scope x := by first | exact Or.inl rfl | exact Or.inr rfl) (hs : swapsWith e (some (.Name x pos')) pos.line X.env = pure false := by rfl)
    (hf : X.fn x = true ∨ X.env.scope.names.lookup x = some .local := by first | exact .inl rfl | exact .inr rfl | assumption) : DS X W (.Assign [.Name x pos'] e pos) (gSetL i f) :=
  ⟨ps_imp (ps_set hN hi hx he.pe hs hf) fun _ _ _ h => set_coreL h⟩
end
end
end DL

namespace DL
open L2 PySem PySem.Spec PyProof.Rows

/-! ### targets -/
def tDG (K : Frg) (sl : List Nat) (bind : D → DEnv → Option DEnv) : TG := fun x σ H Q => ∃ O ρ d ρ1, RelEnv K O σ H ρ ∧ Dp K (Gv O σ ρ H) x d ∧ bind d ρ = some ρ1 ∧
  ∀ σ1, SStp σ ρ H σ1 ρ1 H → RelEnv K O σ1 H ρ1 → σ1.length = σ.length → (∀ k, k ∉ sl → σ1[k]? = σ[k]?) → Q σ1 H
structure DG (X : Cx) (tg : Expr) (sl : List Nat) (bind : D → DEnv → Option DEnv) : Prop where
  pg : PG X tg (tDG X.K sl bind)
def tDGs (K : Frg) (sl : List Nat) (bind : List D → DEnv → Option DEnv) : TGs := fun xs σ H Q => ∃ O ρ ds ρ1, RelEnv K O σ H ρ ∧ DpAll K (Gv O σ ρ H) xs ds ∧ bind ds ρ = some ρ1 ∧
  ∀ σ1, SStp σ ρ H σ1 ρ1 H → RelEnv K O σ1 H ρ1 → σ1.length = σ.length → (∀ k, k ∉ sl → σ1[k]? = σ[k]?) → Q σ1 H
structure DGs (X : Cx) (tg : List Expr) (sl : List Nat) (bind : List D → DEnv → Option DEnv) : Prop where
  pgs : PGs X tg (tDGs X.K sl bind)
theorem pgs_imp {X : Cx} {e : List Expr} {t t' : TGs} (h : PGs X e t) (i : ∀ v σ H Q, t' v σ H Q → t v σ H Q) : PGs X e t' := ⟨fun pins s σ H v u Q I r q => h.run pins s σ H v u Q I r (i _ _ _ _ q)⟩
def bName (i : Nat) : D → DEnv → Option DEnv := fun d ρ => if isIo ρ[i]? = true then none else some (ρ.set i (some (.val d)))
def bNil : List D → DEnv → Option DEnv := fun ds ρ => match ds with
  | [] => some ρ
  | _ => none
def bCons (b : D → DEnv → Option DEnv) (r : List D → DEnv → Option DEnv) : List D → DEnv → Option DEnv := fun ds ρ => match ds with
  | d :: ds => match b d ρ with
    | some ρ1 => r ds ρ1
    | none => none
  | [] => none
def bTup (r : List D → DEnv → Option DEnv) : D → DEnv → Option DEnv := fun d ρ => match d with
  | .tuple ds => r ds ρ
  | _ => none
section
variable {X : Cx}
theorem dg_name {i : Nat} {x : Str} {pos : Pos} (hN : X.N.Nodup) (hi : X.N[i]? = some x := by rfl) (hx : Loc X.env.scope x := by first | exact Or.inl rfl | exact Or.inr rfl) (hf : X.fn x = true ∨ X.env.scope.names.lookup x = some .local := by first | exact .inl rfl | exact .inr rfl | assumption) :
    DG X (.Name x pos) [i] (bName i) := by
  refine ⟨pg_imp (pg_name hN hi hx hf) fun v σ H Q ⟨O, ρ, d, ρ1, r, hd, hb, q⟩ => ?_⟩
  unfold bName at hb
  split at hb
  · cases hb
  · rename_i hio
    cases hb
    obtain ⟨r1, st⟩ := set_val r (by simpa using hio) hd
    exact q _ st r1 (List.length_set) fun k hk => List.getElem?_set_ne (fun z => hk (by simp [z]))
theorem dgs_nil : DGs X [] [] bNil := by
  refine ⟨pgs_imp pgs_nil fun v σ H Q ⟨O, ρ, ds, ρ1, r, hd, hb, q⟩ => ?_⟩
  unfold bNil at hb
  split at hb
  · cases hb; cases hd; exact ⟨rfl, q σ .refl r rfl fun _ _ => rfl⟩
  · cases hb
theorem dgs_cons {e : Expr} {es : List Expr} {s1 s2 : List Nat} {b : D → DEnv → Option DEnv} {r : List D → DEnv → Option DEnv} (h1 : DG X e s1 b) (h2 : DGs X es s2 r)
    (hs : (assignEach (e :: es) X.env).map (·.2) = assign e X.env :: (assignEach es X.env).map (·.2) := by rfl) : DGs X (e :: es) (s1 ++ s2) (bCons b r) := by
  refine ⟨pgs_imp (pgs_cons h1.pg h2.pgs hs) fun v σ H Q ⟨O, ρ, ds, ρ1, rr, hd, hb, q⟩ => ?_⟩
  unfold bCons at hb
  split at hb
  · rename_i d ds'
    split at hb
    · rename_i ρ2 hb2
      cases hd with
      | cons hd1 hd2 =>
        refine ⟨_, _, rfl, O, ρ, d, ρ2, rr, hd1, hb2, fun σ1 st1 r1 l1 k1 => ?_⟩
        refine ⟨O, ρ2, ds', ρ1, r1, dpAll_mono st1.gv _ _ hd2, hb, fun σ2 st2 r2 l2 k2 => ?_⟩
        exact q σ2 (st1.trans st2) r2 (l2.trans l1) fun k hk => (k2 k fun z => hk (List.mem_append_right _ z)).trans (k1 k fun z => hk (List.mem_append_left _ z))
    · cases hb
  · cases hb
theorem dg_tup {es : List Expr} {k n : Nat} {pos : Pos} {sl : List Nat} {r : List D → DEnv → Option DEnv} (hc : X.calm = true) (h : DGs X es sl r) (hn : (assignEach es X.env).length = n := by rfl) (hst : (assignEach es X.env).findIdx? (·.1) = none := by rfl)
    (hlen : ∀ ds ρ ρ1, r ds ρ = some ρ1 → ds.length = n) : DG X (.Tuple es k pos) sl (bTup r) := by
  refine ⟨pg_imp (pg_tup hc h.pgs hn hst) fun v σ H Q ⟨O, ρ, d, ρ1, rr, hd, hb, q⟩ => ?_⟩
  unfold bTup at hb
  split at hb
  · rename_i ds
    cases hd with
    | tup s a => exact ⟨_, _, rfl, SqT.mono Gv_sub s, by rw [DL.DpAll.length a]; exact hlen _ _ _ hb, O, ρ, ds, ρ1, rr, a, hb, q⟩
  · cases hb
theorem bLen2 {b1 b2 : D → DEnv → Option DEnv} : ∀ ds ρ ρ1, bCons b1 (bCons b2 bNil) ds ρ = some ρ1 → ds.length = 2 := by
  intro ds ρ ρ1 h
  match ds, h with
  | [], h => simp [bCons] at h
  | [a], h => simp only [bCons] at h; split at h <;> cases h
  | [a, b], h => rfl
  | a :: b :: c :: t, h =>
    simp only [bCons] at h
    split at h
    · split at h
      · simp [bNil] at h
      · cases h
    · cases h
theorem bLen3 {b1 b2 b3 : D → DEnv → Option DEnv} : ∀ ds ρ ρ1, bCons b1 (bCons b2 (bCons b3 bNil)) ds ρ = some ρ1 → ds.length = 3 := by
  intro ds ρ ρ1 h
  match ds, h with
  | [], h => simp [bCons] at h
  | d :: ds, h =>
    rw [bCons] at h
    try dsimp only at h
    split at h
    · have := bLen2 _ _ _ h
      simp [this]
    · cases h
end

/-! ### what is walked -/
def YD (K : Frg) (G0 : Hp) (ds : List D) : Nat → Hp → V → Hp → Prop := fun i H x H' => ∃ d, ds[i]? = some d ∧ Same H H' ∧
  ∀ O σ ρ, RelEnv K O σ H ρ → (∀ a o, G0 a = some o → Gv O σ ρ H a = some o) → Dp K (Gv O σ ρ H') x d
def Src (K : Frg) (G0 : Hp) (J : It) (ds : List D) : Prop := Walk J ds.length (fun H => ∀ a o, G0 a = some o → H a = some o) (YD K G0 ds)
def SatI (K : Frg) (mg : Mg) (O : Addr → Prop) (σ : L2.St) (ρ : DEnv) (H : Hp) (W : WX) (R : It → Hp → Prop) : Res (List D) → Prop
  | .ok ds ρ' => ∀ J H', EStp σ ρ H ρ' H' → RelEnv K O σ H' ρ' → Src K (Gv O σ ρ' H') J ds → R J H'
  | .err x ρ' => ∀ cls d H', EStp σ ρ H ρ' H' → RelEnv K O σ H' ρ' → ExnAt mg x cls d H' → W cls d σ H'
  | .bad => False
def tDI (K : Frg) (mg : Mg) (W : WX) (f : DEnv → Res (List D)) : TI := fun σ H R => ∃ O ρ, RelEnv K O σ H ρ ∧ SatI K mg O σ ρ H W R (f ρ)
structure DI (X : Cx) (W : WX) (tg e : Expr) (f : DEnv → Res (List D)) : Prop where
  pi : PI X tg e (tDI X.K X.mg W f)
theorem pi_imp {X : Cx} {tg e : Expr} {t t' : TI} (h : PI X tg e t) (i : ∀ σ H R, t' σ H R → t σ H R) : PI X tg e t' := ⟨fun pins s σ H R I q => h.run pins s σ H R I (i _ _ _ q)⟩
theorem pi_or {X : Cx} {tg e : Expr} {t t' : TI} (h : PI X tg e t) (h' : PI X tg e t') : PI X tg e (fun σ H R => t σ H R ∨ t' σ H R) := ⟨fun pins s σ H R I q => q.elim (h.run pins s σ H R I) (h'.run pins s σ H R I)⟩
section
variable {X : Cx} {W : WX} {tg e : Expr} {K : Frg} {G0 : Hp}
theorem src_list {a : Addr} {vs : List V} {ds : List D} (s : SqL K G0 a vs) (h : DpAll K G0 vs ds) : Src K G0 (Itl K a) ds := by
  unfold Src
  rw [← DL.DpAll.length h]
  refine walk_list.mono (fun H hg => SqL.mono hg s) fun i H x H' hi hg y => ?_
  obtain ⟨rfl, y⟩ := y
  obtain ⟨d, h1, h2⟩ := DL.DpAll.atV h y
  exact ⟨d, h1, Same.refl _, fun O σ ρ r g => dp_mono g _ _ h2⟩
theorem src_tup {a : Addr} {vs : List V} {ds : List D} (s : SqT K G0 a vs) (h : DpAll K G0 vs ds) : Src K G0 (Itt K a) ds := by
  unfold Src
  rw [← DL.DpAll.length h]
  refine walk_tup.mono (fun H hg => SqT.mono hg s) fun i H x H' hi hg y => ?_
  obtain ⟨rfl, y⟩ := y
  obtain ⟨d, h1, h2⟩ := DL.DpAll.atV h y
  exact ⟨d, h1, Same.refl _, fun O σ ρ r g => dp_mono g _ _ h2⟩
def rangeD (lo : Int) (n : Nat) : List D := (List.range n).map fun (i : Nat) => .int (lo + i)
theorem src_range {lo : Int} {n : Nat} : Src K G0 (Itr lo n) (rangeD lo n) := by
  unfold Src
  have hl : (rangeD lo n).length = n := by simp [rangeD]
  rw [hl]
  refine walk_range.mono (fun _ _ => trivial) fun i H x H' hi hg y => ?_
  obtain ⟨rfl, rfl⟩ := y
  exact ⟨.int (lo + i), by simp [rangeD, hi], Same.refl _, fun _ _ _ _ _ => .int _⟩
def rangeCD (lo c : Int) (n : Nat) : List D := (List.range n).map fun (i : Nat) => .int (lo + i * c)
theorem src_rangeC {lo c : Int} {n : Nat} : Src K G0 (Itc lo c n) (rangeCD lo c n) := by
  unfold Src
  have hl : (rangeCD lo c n).length = n := by simp [rangeCD]
  rw [hl]
  refine walk_rangeC.mono (fun _ _ => trivial) fun i H x H' hi hg y => ?_
  obtain ⟨rfl, rfl⟩ := y
  exact ⟨.int (lo + i * c), by simp [rangeCD, hi], Same.refl _, fun _ _ _ _ _ => .int _⟩
/-- the items of a list or tuple -/
def itemsD : D → Option (List D)
  | .list ds => some ds
  | .tuple ds => some ds
  | _ => none
def iSeq (f : DX) : DEnv → Res (List D) := fun ρ => bindR (f ρ) fun v ρ1 => optR (keep v ρ1) fun p => optR (itemsD p.1) fun ds => .ok ds p.2
theorem sat_bindI {α β : Type} {mg : Mg} {O : Addr → Prop} {σ : L2.St} {ρ : DEnv} {H : Hp} {R : It → Hp → Prop} {rel : DEnv → Hp → β → α → Prop} {r : Res α} {k : α → DEnv → Res (List D)} (h : SatI K mg O σ ρ H W R (bindR r k)) :
    Sat K mg O σ ρ H W rel (fun u H1 => ∃ a ρ1, RelEnv K O σ H1 ρ1 ∧ rel ρ1 H1 u a ∧ EStp σ ρ H ρ1 H1 ∧ SatI K mg O σ ρ1 H1 W R (k a ρ1)) r := by
  cases r with
  | ok a ρ' => 
    intro u H' s e q
    refine ⟨a, ρ', e, q, s, ?_⟩
    have h' : SatI K mg O σ ρ H W R (k a ρ') := h
    revert h'
    cases k a ρ' with
    | ok ds ρ2 => exact fun h J H2 s2 r2 src => h J H2 (s.trans s2) r2 src
    | err x ρ2 => exact fun h c d H2 s2 r2 z => h c d H2 (s.trans s2) r2 z
    | bad => exact fun h => h
  | err x ρ' => exact h
  | bad => exact h
theorem optR_satI {γ : Type} {mg : Mg} {O : Addr → Prop} {σ : L2.St} {ρ : DEnv} {H : Hp} {R : It → Hp → Prop} {o : Option γ} {k : γ → Res (List D)} (h : SatI K mg O σ ρ H W R (optR o k)) : ∃ z, o = some z ∧ SatI K mg O σ ρ H W R (k z) := by
  cases o with
  | some z => exact ⟨z, rfl, h⟩
  | none => exact h.elim
theorem di_seq {f : DX} (he : DE X W e f) : DI X W tg e (iSeq f) := by
  have hl := pi_list (tg := tg) he.pe
  have ht := pi_tup (tg := tg) he.pe
  refine ⟨⟨fun pins s σ H R I h => ?_⟩⟩
  obtain ⟨O, ρ, r, st⟩ := h
  unfold iSeq at st
  cases q : f ρ with
  | ok v ρ1 =>
    rw [q] at st
    obtain ⟨⟨d, ρ2⟩, hk, s2⟩ := optR_satI st
    obtain ⟨ds, hi, s3⟩ := optR_satI s2
    have fin : ∀ u H', EStp σ ρ H ρ1 H' → RelEnv X.K O σ H' ρ1 → RelE X.K O σ ρ1 H' u v → RelEnv X.K O σ H' ρ2 ∧ EStp σ ρ H ρ2 H' ∧ Dp X.K (Gv O σ ρ2 H') u d := fun u H' st1 r1 e1 => by
      obtain ⟨a, b, c⟩ := keep_ok r1 e1 hk
      exact ⟨a, st1.trans b, c⟩
    cases d with
    | list xs =>
      cases hi
      refine hl.run pins s σ H R I ⟨O, ρ, r, ?_⟩
      rw [q]
      intro u H' st1 r1 e1
      obtain ⟨r2, st2, hd⟩ := fin u H' st1 r1 e1
      cases hd with
      | lst sq a => exact ⟨_, rfl, ⟨_, SqL.mono Gv_sub sq⟩, s3 _ H' st2 r2 (src_list sq a)⟩
    | tuple xs =>
      cases hi
      refine ht.run pins s σ H R I ⟨O, ρ, r, ?_⟩
      rw [q]
      intro u H' st1 r1 e1
      obtain ⟨r2, st2, hd⟩ := fin u H' st1 r1 e1
      cases hd with
      | tup sq a => exact ⟨_, rfl, ⟨_, SqT.mono Gv_sub sq⟩, s3 _ H' st2 r2 (src_tup sq a)⟩
    | none => cases hi
    | bool _ => cases hi
    | int _ => cases hi
    | str _ => cases hi
    | dict _ => cases hi
  | err x ρ1 =>
    rw [q] at st
    refine hl.run pins s σ H R I ⟨O, ρ, r, ?_⟩
    rw [q]
    exact st
  | bad => rw [q] at st; exact st.elim
def iRange1 (g : DEnv → Res (List EV)) : DEnv → Res (List D) := fun ρ => bindR (g ρ) fun vs ρ1 => match vs with
  | [.val (.int j)] => if -(2 ^ 62) ≤ j ∧ j < 2 ^ 62 then .ok (rangeD 0 j.toNat) ρ1 else .bad
  | _ => .bad
theorem di_range1 {a : Expr} {g : DEnv → Res (List EV)} {p pos : Pos} (hm : X.mg "range" = none) (ha : DA X W [a] g) (hg : Gl X "range" := by rfl) (hs : starEach [a] X.env = [(false, eval a X.env)] := by rfl) : DI X W tg (.Call (.Name "range" p) [a] [] pos) (iRange1 g) := by
  refine ⟨pi_imp (pi_range1 hg hm ha.pa hs) fun σ H R ⟨O, ρ, r, s⟩ => ⟨O, ρ, r, (sat_bindI s).imp fun us H1 ⟨vs, ρ1, r1, e1, st, s1⟩ => ?_⟩⟩
  try dsimp only at s1
  split at s1
  · rename_i j
    split at s1
    · rename_i hj
      match us, e1 with
      | [u], e1 =>
        have q : Dp X.K _ u (.int j) := e1.1
        cases q
        exact ⟨j, rfl, hj.1, hj.2, s1 _ H1 .refl r1 src_range⟩
    · exact s1.elim
  · exact s1.elim
def iRange2 (g : DEnv → Res (List EV)) : DEnv → Res (List D) := fun ρ => bindR (g ρ) fun vs ρ1 => match vs with
  | [.val (.int i), .val (.int j)] => if -(2 ^ 62) ≤ i ∧ i < 2 ^ 62 ∧ -(2 ^ 62) ≤ j ∧ j < 2 ^ 62 then .ok (rangeD i (j - i).toNat) ρ1 else .bad
  | _ => .bad
theorem di_range2 {a b : Expr} {g : DEnv → Res (List EV)} {p pos : Pos} (hm : X.mg "range" = none) (ha : DA X W [a, b] g) (hg : Gl X "range" := by rfl) (hs : starEach [a, b] X.env = [(false, eval a X.env), (false, eval b X.env)] := by rfl) (hs2 : starEach [b] X.env = [(false, eval b X.env)] := by rfl) :
    DI X W tg (.Call (.Name "range" p) [a, b] [] pos) (iRange2 g) := by
  refine ⟨pi_imp (pi_range2 hg hm ha.pa hs hs2) fun σ H R ⟨O, ρ, r, s⟩ => ⟨O, ρ, r, (sat_bindI s).imp fun us H1 ⟨vs, ρ1, r1, e1, st, s1⟩ => ?_⟩⟩
  try dsimp only at s1
  split at s1
  · rename_i i j
    split at s1
    · rename_i hj
      match us, e1 with
      | [u, v], e1 =>
        have q : Dp X.K _ u (.int i) := e1.1
        have q2 : Dp X.K _ v (.int j) := e1.2.1
        cases q; cases q2
        exact ⟨i, j, rfl, hj, s1 _ H1 .refl r1 src_range⟩
    · exact s1.elim
  · exact s1.elim

/-! ### for -/
def forD (bind : D → DEnv → Option DEnv) (body : DSt) : List D → DEnv → Fl
  | [], ρ => .nx ρ
  | d :: ds, ρ => optF (bind d ρ) fun ρ1 => match body ρ1 with
    | .nx ρ2 => forD bind body ds ρ2
    | .ct ρ2 => forD bind body ds ρ2
    | .bk ρ2 => .nx ρ2
    | .rt v ρ2 => .rt v ρ2
    | .err x ρ2 => .err x ρ2
    | .bad => .bad
def gFor (it : DEnv → Res (List D)) (bind : D → DEnv → Option DEnv) (body : DSt) : DSt := fun ρ => bindF (it ρ) fun ds ρ1 => forD bind body ds ρ1
theorem ds_for {iter : Expr} {body : List Stmt} {pos : Pos} {it : DEnv → Res (List D)} {sl : List Nat} {bind : D → DEnv → Option DEnv} {b : DSt} (hp : PassesOwn (model X.prog X.w) X.A X.env X.xe) (hc : X.calm = true) (hi : DI X W tg iter it) (hg : DG X tg sl bind) (hb : DSs X W body b)
    (hs : ∀ x, foldedSetIterable iter X.env x = pure x := by intro _; rfl) : DS X W (.For tg iter body [] pos) (gFor it bind b) := by
  refine ⟨ps_imp (ps_for hp hc hi.pi hg.pg hb.pss hs) fun E σ H ⟨O, ρ, r, s⟩ => ⟨O, ρ, r, ?_⟩⟩
  unfold gFor at s
  cases q : it ρ with
  | err x ρ1 => rw [q] at s; exact fun c d H' st e z => s c d σ H' st.s e z
  | bad => rw [q] at s; exact s
  | ok ds ρ1 =>
    rw [q] at s
    intro J H1 st1 r1 src
    have s1 : SatS X.K X.mg O σ ρ1 H1 W E (forD bind b ds ρ1) := SatS.shift s st1.s
    refine for_it src (fun i σi Hi => ∃ ρi, RelEnv X.K O σi Hi ρi ∧ SStp σ ρ1 H1 σi ρi Hi ∧ SatS X.K X.mg O σi ρi Hi W E (forD bind b (ds.drop i) ρi)) ⟨ρ1, r1, .refl, by simpa using s1⟩ (fun i σi Hi _ ⟨ρi, ri, sti, _⟩ a o h => Gv_sub _ _ (sti.gv a o h)) (fun i x σi Hi H' hi ⟨ρi, ri, sti, si⟩ y => ?_) (fun σi Hi ⟨ρi, ri, sti, si⟩ => ?_)
    · obtain ⟨d, hd, sm, hv⟩ := y
      have e : ds.drop i = d :: ds.drop (i + 1) := by
        obtain ⟨h1, h2⟩ := List.getElem?_eq_some_iff.mp hd
        rw [List.drop_eq_getElem_cons h1, h2]
      rw [e] at si
      obtain ⟨ρ2, hb2, s2⟩ := optF_sat si
      refine ⟨O, ρi, d, ρ2, ri.same sm, hv O σi ρi ri sti.gv, hb2, fun σ2 st2 r2 _ _ => ⟨O, ρ2, r2, ?_⟩⟩
      have st0 : SStp σi ρi Hi σ2 ρ2 H' := (EStp.same sm).s.trans st2
      have s3 := s2.shift st0
      try dsimp only at s3
      have sti2 := sti.trans st0
      cases qb : b ρ2 with
      | nx ρ3 => rw [qb] at s3; exact fun σ' H3 st3 r3 => ⟨ρ3, r3, sti2.trans st3, SatS.shift s3 st3⟩
      | ct ρ3 => rw [qb] at s3; exact fun σ' H3 st3 r3 => ⟨ρ3, r3, sti2.trans st3, SatS.shift s3 st3⟩
      | bk ρ3 => rw [qb] at s3; exact s3
      | rt v ρ3 => rw [qb] at s3; exact s3
      | err x ρ3 => rw [qb] at s3; exact s3
      | bad => rw [qb] at s3; exact s3
    · rw [List.drop_length] at si
      exact si σi Hi .refl ri

/-! ### while -/
def whileN (t : DEnv → Res Bool) (body : DSt) : Nat → DEnv → Fl
  | 0, _ => .bad
  | n + 1, ρ => bindF (t ρ) fun k ρ1 => if k = true then match body ρ1 with
    | .nx ρ2 => whileN t body n ρ2
    | .ct ρ2 => whileN t body n ρ2
    | .bk ρ2 => .nx ρ2
    | .rt v ρ2 => .rt v ρ2
    | .err x ρ2 => .err x ρ2
    | .bad => .bad else .nx ρ1
open Classical in
noncomputable def gWhile (t : DEnv → Res Bool) (body : DSt) : DSt := fun ρ => if h : ∃ n, whileN t body n ρ ≠ .bad then whileN t body (choose h) ρ else .bad
theorem whileN_mono {t : DEnv → Res Bool} {body : DSt} : ∀ {n m : Nat} {ρ : DEnv}, n ≤ m → whileN t body n ρ ≠ .bad → whileN t body m ρ = whileN t body n ρ
  | 0, _, _, _, h => absurd rfl h
  | n + 1, 0, _, hm, _ => absurd hm (by omega)
  | n + 1, m + 1, ρ, hm, h => by
    unfold whileN at h ⊢
    cases q : t ρ with
    | err x ρ1 => rfl
    | bad => rfl
    | ok k ρ1 =>
      rw [q] at h
      dsimp only [bindF] at h ⊢
      cases k with
      | false => rfl
      | true =>
        rw [if_pos rfl] at h ⊢
        rw [if_pos rfl]
        cases qb : body ρ1 with
        | nx ρ2 => rw [qb] at h; exact whileN_mono (by omega) h
        | ct ρ2 => rw [qb] at h; exact whileN_mono (by omega) h
        | bk ρ2 => rfl
        | rt v ρ2 => rfl
        | err x ρ2 => rfl
        | bad => rfl
theorem gWhile_of {t : DEnv → Res Bool} {body : DSt} {n : Nat} {ρ : DEnv} (h : whileN t body n ρ ≠ .bad) : gWhile t body ρ = whileN t body n ρ := by
  have hx : ∃ n, whileN t body n ρ ≠ .bad := ⟨n, h⟩
  unfold gWhile
  rw [dif_pos hx]
  have h2 := Classical.choose_spec hx
  rcases Nat.le_total n (Classical.choose hx) with l | l
  · exact whileN_mono l h
  · exact (whileN_mono l h2).symm
/-- one turn -/
theorem gWhile_step {t : DEnv → Res Bool} {body : DSt} (ρ : DEnv) : gWhile t body ρ = bindF (t ρ) fun k ρ1 => if k = true then match body ρ1 with
    | .nx ρ2 => gWhile t body ρ2
    | .ct ρ2 => gWhile t body ρ2
    | .bk ρ2 => .nx ρ2
    | .rt v ρ2 => .rt v ρ2
    | .err x ρ2 => .err x ρ2
    | .bad => .bad else .nx ρ1 := by
  have key : ∀ ρ2, (∃ n, whileN t body n ρ2 ≠ .bad) ∨ gWhile t body ρ2 = .bad := fun ρ2 => by
    by_cases h : ∃ n, whileN t body n ρ2 ≠ .bad
    · exact .inl h
    · exact .inr (by unfold gWhile; rw [dif_neg h])
  have nob : ∀ ρ2, gWhile t body ρ2 = .bad → ∀ n, whileN t body n ρ2 = .bad := fun ρ2 h n => Classical.byContradiction fun z => z (by rw [gWhile_of z] at h; exact absurd h z)
  have main : ∀ ρ2, (∀ n, whileN t body n ρ2 = .bad) → gWhile t body ρ2 = .bad := fun ρ2 h => by
    unfold gWhile; rw [dif_neg (fun ⟨n, z⟩ => z (h n))]
  cases q : t ρ with
  | err x ρ1 =>
    have : whileN t body 1 ρ = .err x ρ1 := by unfold whileN; rw [q]; rfl
    rw [gWhile_of (n := 1) (by rw [this]; exact fun z => nomatch z), this]; rfl
  | bad => exact main ρ fun n => by cases n with
    | zero => rfl
    | succ n => unfold whileN; rw [q]; rfl
  | ok k ρ1 =>
    dsimp only [bindF]
    cases k with
    | false =>
      have : whileN t body 1 ρ = .nx ρ1 := by unfold whileN; rw [q]; rfl
      rw [gWhile_of (n := 1) (by rw [this]; exact fun z => nomatch z), this]; rfl
    | true =>
      rw [if_pos rfl]
      have un : ∀ n, whileN t body (n + 1) ρ = (match body ρ1 with
        | .nx ρ2 => whileN t body n ρ2
        | .ct ρ2 => whileN t body n ρ2
        | .bk ρ2 => .nx ρ2
        | .rt v ρ2 => .rt v ρ2
        | .err x ρ2 => .err x ρ2
        | .bad => .bad) := fun n => by
          conv => lhs; unfold whileN
          rw [q]; rfl
      have rec_ : ∀ ρ2, (∀ n, whileN t body (n + 1) ρ = whileN t body n ρ2) → gWhile t body ρ = gWhile t body ρ2 := fun ρ2 h => by
        rcases key ρ2 with ⟨n, hn⟩ | hb
        · rw [gWhile_of hn, gWhile_of (n := n + 1) (by rw [h n]; exact hn), h n]
        · rw [hb]
          refine main ρ fun n => ?_
          cases n with
          | zero => rfl
          | succ n => rw [h n]; exact nob ρ2 hb n
      cases qb : body ρ1 with
      | nx ρ2 => exact rec_ ρ2 fun n => by rw [un n, qb]
      | ct ρ2 => exact rec_ ρ2 fun n => by rw [un n, qb]
      | bk ρ2 => have e := un 0; rw [qb] at e; rw [gWhile_of (n := 1) (by rw [e]; exact fun z => nomatch z), e]
      | rt v ρ2 => have e := un 0; rw [qb] at e; rw [gWhile_of (n := 1) (by rw [e]; exact fun z => nomatch z), e]
      | err x ρ2 => have e := un 0; rw [qb] at e; rw [gWhile_of (n := 1) (by rw [e]; exact fun z => nomatch z), e]
      | bad => exact main ρ fun n => by cases n with
        | zero => rfl
        | succ n => rw [un n, qb]
theorem ds_while {c : Expr} {body : List Stmt} {pos : Pos} {t : DEnv → Res Bool} {b : DSt} (hp : PassesOwn (model X.prog X.w) X.A X.env X.xe) (hc : DT X W c t) (hb : DSs X W body b) : DS X W (.While c body [] pos) (gWhile t b) := by
  refine ⟨ps_imp (ps_while hp hc.pt hb.pss) fun E σ H ⟨O, ρ, r, s⟩ => ?_⟩
  by_cases hx : ∃ n, whileN t b n ρ ≠ .bad
  · obtain ⟨n0, hn0⟩ := hx
    rw [gWhile_of hn0] at s
    refine ⟨fun n σi Hi => ∃ ρi, RelEnv X.K O σi Hi ρi ∧ SatS X.K X.mg O σi ρi Hi W E (whileN t b n ρi), ⟨n0, ρ, r, s⟩, ?_⟩
    rintro m σi Hi ⟨ρi, ri, si⟩
    cases m with
    | zero => exact si.elim
    | succ m =>
      unfold whileN at si
      refine ⟨O, ρi, ri, (SatS.bind si).imp fun u H1 ⟨v, ρ1, r1, e1, st, s1⟩ => ?_⟩
      cases e1
      cases u with
      | false =>
        rw [if_neg Bool.false_ne_true] at s1 ⊢
        exact s1 σi H1 .refl r1
      | true =>
        rw [if_pos rfl] at s1 ⊢
        refine ⟨fun σ' H' => ∃ ρ', RelEnv X.K O σ' H' ρ' ∧ SatS X.K X.mg O σ' ρ' H' W E (whileN t b m ρ'), fun σ' H' q => ⟨m, by omega, q⟩, O, ρ1, r1, ?_⟩
        cases qb : b ρ1 with
        | nx ρ3 => rw [qb] at s1; exact fun σ' H3 st3 r3 => ⟨ρ3, r3, SatS.shift s1 st3⟩
        | ct ρ3 => rw [qb] at s1; exact fun σ' H3 st3 r3 => ⟨ρ3, r3, SatS.shift s1 st3⟩
        | bk ρ3 => rw [qb] at s1; exact s1
        | rt v ρ3 => rw [qb] at s1; exact s1
        | err x ρ3 => rw [qb] at s1; exact s1
        | bad => rw [qb] at s1; exact s1
  · unfold gWhile at s
    rw [dif_neg hx] at s
    exact s.elim
end
end DL

namespace DL
open L2 PySem PySem.Spec PyProof.Rows

def wipeD (ρ : DEnv) : List Nat → DEnv
  | [] => ρ
  | v :: vs => (wipeD ρ vs).set v none
def backD (ρ ρ' : DEnv) : List Nat → DEnv
  | [] => ρ'
  | v :: vs => (backD ρ ρ' vs).set v (ρ[v]?.join)
def isOwn (o : Option (Option SV)) : Bool := match o with
  | some (some (.own _ _)) => true
  | _ => false
theorem wipeD_len (ρ : DEnv) : ∀ ow, (wipeD ρ ow).length = ρ.length
  | [] => rfl
  | v :: vs => by unfold wipeD; rw [List.length_set, wipeD_len ρ vs]
theorem backD_len (ρ ρ' : DEnv) : ∀ ow, (backD ρ ρ' ow).length = ρ'.length
  | [] => rfl
  | v :: vs => by unfold backD; rw [List.length_set, backD_len ρ ρ' vs]
theorem wipeD_in {ρ : DEnv} {k : Nat} : ∀ {ow : List Nat}, k ∈ ow → (wipeD ρ ow)[k]? = none ∨ (wipeD ρ ow)[k]? = some none
  | v :: vs, h => by
    unfold wipeD
    by_cases hv : v = k
    · subst hv
      rw [List.getElem?_set]
      simp only [if_true]
      split
      · exact .inr rfl
      · exact .inl rfl
    · rw [List.getElem?_set_ne hv]
      exact wipeD_in (by cases h with
        | head => exact absurd rfl hv
        | tail _ h => exact h)
theorem wipeD_out {ρ : DEnv} {k : Nat} : ∀ {ow : List Nat}, k ∉ ow → (wipeD ρ ow)[k]? = ρ[k]?
  | [], _ => rfl
  | v :: vs, h => by
    unfold wipeD
    rw [List.getElem?_set_ne (fun z => h (by simp [z]))]
    exact wipeD_out fun z => h (List.mem_cons_of_mem _ z)
theorem wipeS_out {σ : L2.St} {k : Nat} {ow : List Nat} (h : k ∉ ow) : (wipe σ ow)[k]? = σ[k]? := L2.wipe_out h
theorem back_in {ρ ρ' : DEnv} {k : Nat} (hl : ρ.length = ρ'.length) : ∀ {ow : List Nat}, k ∈ ow → (backD ρ ρ' ow)[k]? = ρ[k]?
  | v :: vs, h => by
    unfold backD
    by_cases hv : v = k
    · subst hv
      rw [List.getElem?_set]
      simp only [if_true]
      rw [backD_len, ← hl]
      by_cases hk : v < ρ.length
      · rw [if_pos hk, List.getElem?_eq_getElem hk]; rfl
      · rw [if_neg hk, List.getElem?_eq_none (by omega)]
    · rw [List.getElem?_set_ne hv]
      exact back_in hl (by cases h with
        | head => exact absurd rfl hv
        | tail _ h => exact h)
theorem back_out {ρ ρ' : DEnv} {k : Nat} : ∀ {ow : List Nat}, k ∉ ow → (backD ρ ρ' ow)[k]? = ρ'[k]?
  | [], _ => rfl
  | v :: vs, h => by
    unfold backD
    rw [List.getElem?_set_ne (fun z => h (by simp [z]))]
    exact back_out fun z => h (List.mem_cons_of_mem _ z)

section
variable {K : Frg} {O : Addr → Prop} {σ σ2 : L2.St} {ρ ρ4 : DEnv} {H H' : Hp} {ow : List Nat}
def NoOwn (ρ : DEnv) (ow : List Nat) : Prop := ∀ i ∈ ow, ∀ (b : Bool) (c : Cell), ρ[i]? ≠ some (some (.own b c))
theorem wipe_own {i : Nat} {b : Bool} {c : Cell} (h : (wipeD ρ ow)[i]? = some (some (.own b c))) : i ∉ ow ∧ ρ[i]? = some (some (.own b c)) := by
  by_cases hi : i ∈ ow
  · rcases wipeD_in (ρ := ρ) hi with z | z <;> rw [z] at h <;> cases h
  · exact ⟨hi, by rw [wipeD_out hi] at h; exact h⟩
theorem ow_wipe (no : NoOwn ρ ow) (b : Addr) : Ow (wipe σ ow) (wipeD ρ ow) b ↔ Ow σ ρ b := by
  constructor
  · rintro ⟨i, io, c, e1, e2⟩
    obtain ⟨hi, e⟩ := wipe_own e1
    exact ⟨i, io, c, e, by rw [wipeS_out hi] at e2; exact e2⟩
  · rintro ⟨i, io, c, e1, e2⟩
    have hi : i ∉ ow := fun z => no i z io c e1
    exact ⟨i, io, c, by rw [wipeD_out hi]; exact e1, by rw [wipeS_out hi]; exact e2⟩
theorem gv_wipe (no : NoOwn ρ ow) : ∀ a o, Gv O σ ρ H a = some o → Gv O (wipe σ ow) (wipeD ρ ow) H a = some o := fun a o h => by
  obtain ⟨h1, h2, h3⟩ := of_Gv h
  exact Gv_of h1 (fun q => h2 ((ow_wipe no a).mp q)) h3
theorem RelEnv.wiped (r : RelEnv K O σ H ρ) (no : NoOwn ρ ow) : RelEnv K O (wipe σ ow) H (wipeD ρ ow) ∧ SStp σ ρ H (wipe σ ow) (wipeD ρ ow) H := by
  refine ⟨⟨by rw [wipe_length, wipeD_len]; exact r.len, r.oa, fun i d h => ?_, fun i b c h => ?_, fun i j a b c b' c' h1 h2 h3 h4 => ?_, fun i a h => ?_⟩, ⟨fun _ _ h _ => h, fun _ h => h, fun b h => .inl ((ow_wipe no b).mp h), fun i c h => ?_⟩⟩
  · have hi : i ∉ ow := fun z => by rcases wipeD_in (ρ := ρ) z with q | q <;> rw [q] at h <;> cases h
    rw [wipeD_out hi] at h
    obtain ⟨v, h1, h2⟩ := r.val i d h
    exact ⟨v, by rw [wipeS_out hi]; exact h1, dp_mono (gv_wipe no) _ _ h2⟩
  · obtain ⟨hi, e⟩ := wipe_own h
    obtain ⟨a, h1, h2, h3⟩ := r.own i b c e
    exact ⟨a, by rw [wipeS_out hi]; exact h1, h2, h3.mono (gv_wipe no) fun _ q => q⟩
  · obtain ⟨hi, e1⟩ := wipe_own h1
    obtain ⟨hj, e2⟩ := wipe_own h2
    rw [wipeS_out hi] at h3
    rw [wipeS_out hj] at h4
    exact r.inj i j a _ _ _ _ e1 e2 h3 h4
  · have hi : i ∉ ow := fun z => by rcases wipeD_in (ρ := ρ) z with q | q <;> rw [q] at h <;> cases h
    rw [wipeD_out hi] at h
    rw [wipeS_out hi]
    exact r.raw i a h
  · have hi : i ∉ ow := fun z => no i z _ _ h
    exact ⟨wipeS_out hi, c, by rw [wipeD_out hi]; exact h⟩
/-- behind a block -/
theorem RelEnv.back (r : RelEnv K O σ H ρ) (no : NoOwn ρ ow) (st : SStp (wipe σ ow) (wipeD ρ ow) H σ2 ρ4 H') (r4 : RelEnv K O σ2 H' ρ4) (hl : σ2.length = σ.length) (hk : ∀ k, k ∉ ow → σ2[k]? = σ[k]?)
    (nf : ∀ b, Ow σ2 ρ4 b → Ow σ ρ b) (nw : NoOwn ρ4 ow) : RelEnv K O σ H' (backD ρ ρ4 ow) ∧ EStp σ ρ H (backD ρ ρ4 ow) H' ∧ (∀ a o, Gv O σ2 ρ4 H' a = some o → Gv O σ (backD ρ ρ4 ow) H' a = some o) := by
  have len : ρ.length = ρ4.length := by rw [← r.len, ← hl, r4.len]
  have own4 : ∀ {i : Nat} {b : Bool} {c : Cell}, (backD ρ ρ4 ow)[i]? = some (some (.own b c)) → i ∉ ow ∧ ρ4[i]? = some (some (.own b c)) := fun {i b c} h => by
    by_cases hi : i ∈ ow
    · rw [back_in len hi] at h
      exact absurd h (no i hi b c)
    · rw [back_out hi] at h
      exact ⟨hi, h⟩
  have owb : ∀ b, Ow σ (backD ρ ρ4 ow) b → Ow σ2 ρ4 b := fun b ⟨i, io, c, e1, e2⟩ => by
    obtain ⟨hi, e⟩ := own4 e1
    exact ⟨i, io, c, e, by rw [hk i hi]; exact e2⟩
  have st' : SStp σ ρ H σ2 ρ4 H' := ((r.wiped no).2).trans st
  have est : EStp σ ρ H (backD ρ ρ4 ow) H' := ⟨st'.ext, st'.al, fun b h => nf b (owb b h), fun i c h => by
    obtain ⟨_, c', h'⟩ := st'.io i c h
    have hi : i ∉ ow := fun z => no i z _ _ h
    exact ⟨c', by rw [back_out hi]; exact h'⟩⟩
  have gv4 : ∀ a o, Gv O σ2 ρ4 H' a = some o → Gv O σ (backD ρ ρ4 ow) H' a = some o := fun a o h => by
    obtain ⟨h1, h2, h3⟩ := of_Gv h
    exact Gv_of h1 (fun q => h2 (owb a q)) h3
  refine ⟨⟨by rw [backD_len, ← len]; exact r.len, r4.oa, fun i d h => ?_, fun i b c h => ?_, fun i j a b c b' c' h1 h2 h3 h4 => ?_, fun i a h => ?_⟩, est, gv4⟩
  · by_cases hi : i ∈ ow
    · rw [back_in len hi] at h
      obtain ⟨v, h1, h2⟩ := r.val i d h
      exact ⟨v, h1, dp_mono est.gv _ _ h2⟩
    · rw [back_out hi] at h
      obtain ⟨v, h1, h2⟩ := r4.val i d h
      exact ⟨v, by rw [← hk i hi]; exact h1, dp_mono gv4 _ _ h2⟩
  · obtain ⟨hi, e⟩ := own4 h
    obtain ⟨a, h1, h2, h3⟩ := r4.own i b c e
    exact ⟨a, by rw [← hk i hi]; exact h1, h2, h3.mono gv4 fun _ q => q⟩
  · obtain ⟨hi, e1⟩ := own4 h1
    obtain ⟨hj, e2⟩ := own4 h2
    exact r4.inj i j a _ _ _ _ e1 e2 (by rw [hk i hi]; exact h3) (by rw [hk j hj]; exact h4)
  · by_cases hi : i ∈ ow
    · rw [back_in len hi] at h
      exact r.raw i a h
    · rw [back_out hi] at h
      rw [← hk i hi]
      exact r4.raw i a h
end

abbrev W0 : WX := fun _ _ _ _ => False
structure DTs (X : Cx) (ifs : List Expr) (t : DEnv → Res Bool) : Prop where
  pts : PTs X ifs (tDT X.K X.mg W0 t)
def tTrue : DEnv → Res Bool := fun ρ => .ok true ρ
section
variable {X : Cx} {W : WX}
theorem pts_imp {X : Cx} {e : List Expr} {t t' : TT} (h : PTs X e t) (i : ∀ σ H Q, t' σ H Q → t σ H Q) : PTs X e t' := ⟨fun pins s σ H Q I q => h.run pins s σ H Q I (i _ _ _ q)⟩
theorem dts_nil : DTs X [] tTrue := ⟨pts_imp pts_nil fun σ H Q ⟨O, ρ, r, s⟩ => s true H .refl r rfl⟩
theorem dts_one {c : Expr} {t : DEnv → Res Bool} (h : DT X W0 c t) : DTs X [c] t := ⟨pts_one h.pt⟩

def compD (ow : List Nat) (bind : D → DEnv → Option DEnv) (test : DEnv → Res Bool) (elt : DX) : List D → DEnv → List D → Res Cell
  | [], ρ, acc => .ok (.lst acc) ρ
  | d :: ds, ρ, acc => optR (bind d (wipeD ρ ow)) fun ρ1 => match test ρ1 with
    | .ok true ρ2 => match elt ρ2 with
      | .ok v ρ3 => optR (keep v ρ3) fun p => if acc.length < sizeLine ∧ (ow.all fun i => !isOwn p.2[i]?) = true then compD ow bind test elt ds (backD ρ p.2 ow) (acc ++ [p.1]) else .bad
      | _ => .bad
    | .ok false ρ2 => if (ow.all fun i => !isOwn ρ2[i]?) = true then compD ow bind test elt ds (backD ρ ρ2 ow) acc else .bad
    | _ => .bad
def xComp (it : DEnv → Res (List D)) (ow : List Nat) (bind : D → DEnv → Option DEnv) (test : DEnv → Res Bool) (elt : DX) : DEnv → Res Cell := fun ρ => bindR (it ρ) fun ds ρ1 => if (ow.all fun i => !isOwn ρ1[i]?) = true then compD ow bind test elt ds ρ1 [] else .bad
theorem noOwn_of {ρ : DEnv} {ow : List Nat} (h : (ow.all fun i => !isOwn ρ[i]?) = true) : NoOwn ρ ow := fun i hi b c e => by
  have := List.all_eq_true.mp h i hi
  rw [e] at this
  cases this
theorem comp_core {it : DEnv → Res (List D)} {own : List (Str × Nat)} {sl : List Nat} {bind : D → DEnv → Option DEnv} {test : DEnv → Res Bool} {elt : DX} (hsl : ∀ k ∈ sl, k ∈ own.map (·.2)) {σ : L2.St} {H : Hp} {Q : VK}
    (h : tDL X.K X.mg W (xComp it (own.map (·.2)) bind test elt) σ H Q) : tLc (tDI X.K X.mg W it) (tDG X.K sl bind) (tDT X.K X.mg W0 test) (tDX X.K X.mg W0 elt) (own.map (·.2)) σ H Q := by
  obtain ⟨O, ρ, r, s⟩ := h
  generalize how : own.map (·.2) = ow at *
  refine ⟨O, ρ, r, ?_⟩
  unfold xComp at s
  cases q : it ρ with
  | err x ρ1 => rw [q] at s; exact s
  | bad => rw [q] at s; exact s
  | ok ds ρ1 =>
    rw [q] at s
    dsimp only [bindR] at s
    split at s
    case isFalse => exact s.elim
    rename_i hno
    have no1 := noOwn_of hno
    intro J H1 st1 r1 src D hD
    have hp : H D = none := st1.none D hD
    refine lc_it src (fun i Hi => ∃ ρi acc vs, RelEnv X.K (fun a => O a ∨ a = D) σ Hi ρi ∧ NoOwn ρi ow ∧ EStp σ ρ1 H1 ρi Hi ∧ Hi D = some (.lst vs) ∧ DpAll X.K (Gv (fun a => O a ∨ a = D) σ ρi Hi) vs acc ∧
      SatL X.K X.mg O σ ρ H W Q (compD ow bind test elt (ds.drop i) ρi acc)) ?_ ?_ ?_ ?_
    · exact ⟨ρ1, [], [], r1.hidden hD, no1, .same (same_upd hD), upd_same, .nil, by simpa using s⟩
    · rintro i Hi _ ⟨ρi, acc, vs, ri, noi, sti, hDi, hacc, si⟩ a o hg
      exact Gv_sub _ _ (sti.gv a o hg)
    · rintro i x Hi H2 hi ⟨ρi, acc, vs, ri, noi, sti, hDi, hacc, si⟩ ⟨d, hd, sm, hv⟩
      have e : ds.drop i = d :: ds.drop (i + 1) := by
        obtain ⟨h1, h2⟩ := List.getElem?_eq_some_iff.mp hd
        rw [List.drop_eq_getElem_cons h1, h2]
      rw [e] at si
      have r2 := ri.same sm
      have sti2 : EStp σ ρ1 H1 ρi H2 := sti.trans (.same sm)
      obtain ⟨rw', stw⟩ := r2.wiped noi
      have hx : Dp X.K (Gv (fun a => O a ∨ a = D) (wipe σ ow) (wipeD ρi ow) H2) x d := by
        have g1 : ∀ a o, Gv O σ ρ1 H1 a = some o → Gv (fun a => O a ∨ a = D) σ ρi Hi a = some o := fun a o hg => by
          obtain ⟨z1, z2, z3⟩ := of_Gv (sti.gv a o hg)
          refine Gv_of (fun z => z.elim z1 fun z => ?_) z2 z3
          rw [z] at hg
          have := Gv_sub _ _ hg
          rw [hD] at this; cases this
        exact dp_mono stw.gv _ _ (hv _ σ ρi ri g1)
      obtain ⟨ρ3, hb, s2⟩ := optR_satL si
      refine ⟨_, wipeD ρi ow, d, ρ3, rw', hx, hb, fun σ2 st2 r3 l2 k2 => ⟨?_, ?_⟩⟩
      · -- what is bound is the block's own
        refine List.ext_getElem? fun k => ?_
        by_cases hk : k ∈ ow
        · have wn : ∀ τ : L2.St, τ.length = σ.length → (wipe τ ow)[k]? = if k < σ.length then some none else none := fun τ hτ => by
            by_cases hkl : k < σ.length
            · rw [if_pos hkl]
              have hkl' : k < (wipe τ ow).length := by rw [wipe_length, hτ]; exact hkl
              cases z : (wipe τ ow)[k]? with
              | none => rw [List.getElem?_eq_none_iff] at z; omega
              | some o =>
                cases o with
                | none => rfl
                | some v => exact absurd hk (wipe_some z).2
            · rw [if_neg hkl, List.getElem?_eq_none (by rw [wipe_length, hτ]; omega)]
          rw [wn σ2 (by rw [l2, wipe_length]), wn σ rfl]
        · rw [wipeS_out hk, wipeS_out hk, k2 k (fun z => hk (hsl k z)), wipeS_out hk]
      refine ⟨_, ρ3, r3, ?_⟩
      have l2' : σ2.length = σ.length := by rw [l2, wipe_length]
      have k2' : ∀ k, k ∉ ow → σ2[k]? = σ[k]? := fun k hk => by rw [k2 k (fun z => hk (hsl k z)), wipeS_out hk]
      have nf2 : ∀ b, Ow σ2 ρ3 b → Ow σ ρi b ∨ H2 b = none := fun b hb => (st2.own b hb).elim (fun z => .inl ((ow_wipe noi b).mp z)) .inr
      try dsimp only at s2
      cases qt : test ρ3 with
      | err x ρ4 => rw [qt] at s2; exact s2.elim
      | bad => rw [qt] at s2; exact s2.elim
      | ok k ρ4 =>
        rw [qt] at s2
        rintro kb H3 st3 r4 rfl
        have D3 : ∀ {ρ' : DEnv} {H' : Hp}, EStp σ2 ρ3 H2 ρ' H' → H' D = some (.lst vs) := fun {ρ' H'} st => st.ext D _ (sm D _ hDi) fun z => r3.owO z (.inr rfl)
        -- what the block owns was ours
        have nfz : ∀ {ρ' : DEnv} {H' : Hp}, EStp σ2 ρ3 H2 ρ' H' → ∀ b, Ow σ2 ρ' b → Ow σ ρi b := fun {ρ' H'} st b hb => by
          have z := st.own b hb
          rcases nf2 b z with z' | z'
          · exact z'
          · obtain ⟨o, ho⟩ := r3.owSome z
            rw [z'] at ho; cases ho
        cases kb with
        | false =>
          refine iteF ?_
          try dsimp only at s2
          split at s2
          case isFalse => exact s2.elim
          rename_i hno4
          obtain ⟨rb, eb, gb⟩ := r2.back noi (st2.trans st3.s) r4 l2' k2' (nfz st3) (noOwn_of hno4)
          refine ⟨backD ρi ρ4 ow, acc, vs, rb, fun j hj b c z => ?_, sti2.trans eb, D3 st3, dpAll_mono eb.gv _ _ (dpAll_mono (same_gv sm) _ _ hacc), s2⟩
          rw [back_in (by rw [← r2.len, ← l2', r4.len]) hj] at z
          exact noi j hj b c z
        | true =>
          refine iteT ⟨_, ρ4, r4, ?_⟩
          try dsimp only at s2
          cases qe : elt ρ4 with
          | err x ρ5 => rw [qe] at s2; exact s2.elim
          | bad => rw [qe] at s2; exact s2.elim
          | ok v ρ5 =>
            rw [qe] at s2
            intro y H4 st4 r5 ey
            obtain ⟨⟨z, ρ6⟩, hkz, s3⟩ := optR_satL s2
            obtain ⟨r6, st5, hz⟩ := keep_ok r5 ey hkz
            try dsimp only at s3
            split at s3
            case isFalse => exact s3.elim
            rename_i hc
            have stA : EStp σ2 ρ3 H2 ρ6 H4 := (st3.trans st4).trans st5
            obtain ⟨rb, eb, gb⟩ := r2.back noi (st2.trans stA.s) r6 l2' k2' (nfz stA) (noOwn_of hc.2)
            have hD4 := D3 stA
            have hlen := DL.DpAll.length hacc
            refine ⟨vs, hD4, by omega, backD ρi ρ6 ow, acc ++ [z], vs ++ [y], ?_, fun j hj b c zz => ?_, ?_, upd_same, ?_, s3⟩
            · -- the list at D has grown; it is hidden
              have hid : ∀ a o, Gv (fun a => O a ∨ a = D) σ (backD ρi ρ6 ow) H4 a = some o → Gv (fun a => O a ∨ a = D) σ (backD ρi ρ6 ow) (upd H4 D (.lst (vs ++ [y]))) a = some o := fun a o hg => by
                obtain ⟨z1, z2, z3⟩ := of_Gv hg
                exact Gv_of z1 z2 (by rw [upd_ne (fun zz => z1 (.inr zz))]; exact z3)
              refine ⟨rb.len, fun a ha => ?_, fun j d' hj => ?_, fun j b c hj => ?_, rb.inj, rb.raw⟩
              · by_cases ea : a = D
                · rw [ea, upd_same]; exact fun z => nomatch z
                · rw [upd_ne ea]; exact rb.oa a ha
              · obtain ⟨w, w1, w2⟩ := rb.val j d' hj
                exact ⟨w, w1, dp_mono hid _ _ w2⟩
              · obtain ⟨a, w1, w2, w3⟩ := rb.own j b c hj
                exact ⟨a, w1, w2, w3.mono hid fun o ho => by rw [upd_ne (fun zz => w2 (.inr zz))]; exact ho⟩
            · rw [back_in (by rw [← r2.len, ← l2', r6.len]) hj] at zz
              exact noi j hj b c zz
            · have S := sti2.trans eb
              refine ⟨fun b o hb hn => by rw [upd_ne (ne_of_none hb hD)]; exact S.ext b o hb hn, fun b hb => ?_, S.own, S.io⟩
              by_cases ea : b = D
              · rw [ea, upd_same]; exact fun z => nomatch z
              · rw [upd_ne ea]; exact S.al b hb
            · have hid : ∀ a o, Gv (fun a => O a ∨ a = D) σ (backD ρi ρ6 ow) H4 a = some o → Gv (fun a => O a ∨ a = D) σ (backD ρi ρ6 ow) (upd H4 D (.lst (vs ++ [y]))) a = some o := fun a o hg => by
                obtain ⟨z1, z2, z3⟩ := of_Gv hg
                exact Gv_of z1 z2 (by rw [upd_ne (fun zz => z1 (.inr zz))]; exact z3)
              refine dpAll_mono hid _ _ (DL.DpAll.append (dpAll_mono eb.gv _ _ (dpAll_mono (same_gv sm) _ _ hacc)) (.cons (dp_mono gb _ _ hz) .nil))
    · rintro Hn ⟨ρn, acc, vs, rn, non, stn, hDn, hacc, sn⟩
      rw [List.drop_length] at sn
      refine sn D Hn (st1.trans stn) hp ⟨rn, fun z => ?_, fun z => rn.owO z (.inr rfl), vs, hDn, hacc⟩
      exact r1.oa D z hD

/-- a comprehension as a value -/
theorem dl_comp {elt tg iter : Expr} {ifs : List Expr} {scope : Scope} {own : List (Str × Nat)} {pos : Pos} {it : DEnv → Res (List D)} {sl : List Nat} {bind : D → DEnv → Option DEnv} {test : DEnv → Res Bool} {f : DX} (hc : X.calm = true) (hN : X.N.Nodup) (hi : DI X W tg iter it) (ok : BlkOk X.N X.env.scope scope own)
    (hg : ∀ (s : Shared) (H : Hp) (C : Addr) (cl : List (Str × Addr)) (fp : List Addr), DG (X.blk s H scope (compEnvC scope cl C X.env) fp) tg sl bind) (ht : ∀ (s : Shared) (H : Hp) (C : Addr) (cl : List (Str × Addr)) (fp : List Addr), DTs (X.blk s H scope (compEnvC scope cl C X.env) fp) ifs test)
    (he : ∀ (s : Shared) (H : Hp) (C : Addr) (cl : List (Str × Addr)) (fp : List Addr), DE (X.blk s H scope (compEnvC scope cl C X.env) fp) W0 elt f) (hsl : ∀ k ∈ sl, k ∈ own.map (·.2) := by decide) (hs : ∀ x, foldedSetIterable iter X.env x = pure x := by intro _; rfl) :
    DLs X W (.ListComp elt [⟨tg, iter, ifs, 0⟩] scope pos) (xComp it (own.map (·.2)) bind test f) :=
  ⟨pe_imp (pe_lc hc hN hi.pi ok (fun s H C cl fp => (hg s H C cl fp).pg) (fun s H C cl fp => (ht s H C cl fp).pts) (fun s H C cl fp => (he s H C cl fp).pe) hs) fun _ _ _ h => comp_core hsl h⟩
/-- name = a comprehension on one line, the name a local: as data, or owned -/
theorem ds_setC {i : Nat} {y : Str} {py spos : Pos} {elt tg iter : Expr} {ifs : List Expr} {scope : Scope} {own : List (Str × Nat)} {pos : Pos} {it : DEnv → Res (List D)} {sl : List Nat} {bind : D → DEnv → Option DEnv} {test : DEnv → Res Bool} {f : DX} (hc : X.calm = true) (hN : X.N.Nodup) (hi : DI X W tg iter it) (ok : BlkOk X.N X.env.scope scope own)
    (hg : ∀ (s : Shared) (H : Hp) (C : Addr) (cl : List (Str × Addr)) (fp : List Addr), DG (X.blk s H scope (compEnvC scope cl C X.env) fp) tg sl bind) (ht : ∀ (s : Shared) (H : Hp) (C : Addr) (cl : List (Str × Addr)) (fp : List Addr), DTs (X.blk s H scope (compEnvC scope cl C X.env) fp) ifs test)
    (he : ∀ (s : Shared) (H : Hp) (C : Addr) (cl : List (Str × Addr)) (fp : List Addr), DE (X.blk s H scope (compEnvC scope cl C X.env) fp) W0 elt f) (hsw : swapsWith (.ListComp elt [⟨tg, iter, ifs, 0⟩] scope pos) (some (.Name y py)) spos.line X.env = pure true)
    (hy : X.N[i]? = some y := by rfl) (hyl : X.env.scope.names.lookup y = some .local := by rfl) (hsl : ∀ k ∈ sl, k ∈ own.map (·.2) := by decide) (hs : ∀ x, foldedSetIterable iter X.env x = pure x := by intro _; rfl) :
    DS X W (.Assign [.Name y py] (.ListComp elt [⟨tg, iter, ifs, 0⟩] scope pos) spos) (gSetL i (xComp it (own.map (·.2)) bind test f)) := by
  refine ⟨ps_imp (ps_setLc (te := tDX X.K X.mg W0 f) (tt := tDT X.K X.mg W0 test) (g := tDG X.K sl bind) (wi := tDI X.K X.mg W it) hc hN hy hyl hsw hi.pi ok (fun s H C cl fp => (hg s H C cl fp).pg) (fun s H C cl fp => (ht s H C cl fp).pts) (fun s H C cl fp => (he s H C cl fp).pe) hs) fun E σ H h => ?_⟩
  have h2 : tDL X.K X.mg W (xComp it (own.map (·.2)) bind test f) σ H (fun x H1 => gName i x σ H1 E.nx) := set_coreL h
  exact comp_core hsl h2
end
end DL

namespace DL
open L2 PySem PySem.Spec PyProof.Rows

/-! ### what a def is worth: data in, data (or a new thing) out -/
inductive RF where
  | ok (v : RV)
  | err (x : Exn)
  | bad
abbrev Fn := List D → RF
noncomputable abbrev Vis0 (O : Addr → Prop) (H : Hp) : Hp := Gv O [] [] H
theorem vis0 {O : Addr → Prop} {H : Hp} {a : Addr} {o : HO} : Vis0 O H a = some o ↔ ¬ O a ∧ H a = some o :=
  ⟨fun h => ⟨(of_Gv h).1, (of_Gv h).2.2⟩, fun h => Gv_of h.1 (fun ⟨i, b, c, e, _⟩ => by simp at e) h.2⟩
def SatF (K : Frg) (mg : Mg) (O : Addr → Prop) (H : Hp) (Q : VK) (E : XK) : RF → Prop
  | .ok (.val d) => ∀ u H', Same H H' → Dp K (Vis0 O H') u d → Q u H'
  | .ok (.own c) => ∀ p H', Same H H' → H p = none → CellOk K (Vis0 (fun a => O a ∨ a = p) H') H' p c → Q (.ref p) H'
  | .err x => ∀ cls d H', Same H H' → ExnAt mg x cls d H' → E cls d H'
  | .bad => False
def spP (K : Frg) (mg : Mg) (n : Nat) (F : Fn) : Sp := fun vs H Q E => vs.length = n ∧ ∃ (O : Addr → Prop) (ds : List D), (∀ a, O a → H a ≠ none) ∧ DpAll K (Vis0 O H) vs ds ∧ SatF K mg O H Q E (F ds)
/-- a def of the module that keeps its promise -/
def FOk (P : Program) (w : World) (K : Frg) (mg : Mg) (base : Heap) (x : Str) (k : Nat) (ps : List Str) (sp : Sp) : Prop :=
  ∃ f fd, FnOk P w K mg base (L2N.CX P w) k f fd ps sp ∧ mg x = some (.ref f) ∧ PySem.W.keepIn K (.ref f) = true ∧ Binds K fd ps []
theorem passN {X : Cx} : ∀ σ : L2.St, PassesAt (L2N.CX X.prog X.w) X σ (WE W0 σ) := fun _ _ _ _ _ _ _ h => by
  obtain ⟨_, _, _, _, _, _, _, _, _, _, _, _, z⟩ := h
  exact z.elim

def xCall (F : Fn) (g : DEnv → Res (List EV)) : DX := fun ρ => bindR (g ρ) fun vs ρ1 => optR (derefs ρ1 vs) fun ds => match F ds with
  | .ok (.val d) => if (flat d).isSome = true then .ok (.val d) ρ1 else optR (keeps vs ρ1) fun p => .ok (.val d) p.2
  | .ok (.own (.lst l)) => optR (keeps vs ρ1) fun p => .ok (.val (.list l)) p.2
  | .ok (.own _) => .bad
  | .err x => .err x ρ1
  | .bad => .bad
def xCallL (F : Fn) (g : DEnv → Res (List EV)) : DEnv → Res Cell := fun ρ => bindR (g ρ) fun vs ρ1 => optR (derefs ρ1 vs) fun ds => match F ds with
  | .ok (.own c) => optR (keeps vs ρ1) fun p => .ok c p.2
  | .ok (.val _) => .bad
  | .err x => .err x ρ1
  | .bad => .bad

section
variable {K : Frg} {mg : Mg} {O : Addr → Prop} {σ : L2.St} {ρ : DEnv} {H : Hp}
/-- what is handed on of what we own -/
def Bor (σ : L2.St) (ρ : DEnv) (vs : List EV) (a : Addr) : Prop := ∃ (i : Nat) (b : Bool) (c : Cell), EV.bor i ∈ vs ∧ ρ[i]? = some (some (.own b c)) ∧ σ[i]? = some (some (.ref a))
/-- what a callee must not see: what is hidden, and what we own but do not hand on -/
def Hid (O : Addr → Prop) (σ : L2.St) (ρ : DEnv) (vs : List EV) : Addr → Prop := fun a => O a ∨ (Ow σ ρ a ∧ ¬ Bor σ ρ vs a)
theorem args_dp (r : RelEnv K O σ H ρ) : ∀ {us : List V} {all vs : List EV} {ds : List D}, (∀ u ∈ vs, u ∈ all) → RelEs K O σ ρ H us vs → derefs ρ vs = some ds → DpAll K (Vis0 (Hid O σ ρ all) H) us ds
  | [], _, [], _, _, _, e => by cases e; exact .nil
  | u :: us, all, v :: vs, ds, hs, h, e => by
    unfold derefs at e
    split at e
    · rename_i d hd
      split at e
      · rename_i ds' hds
        cases e
        refine .cons ?_ (args_dp r (fun w hw => hs w (List.mem_cons_of_mem _ hw)) h.2 hds)
        have gv : ∀ a o, Gv O σ ρ H a = some o → Vis0 (Hid O σ ρ all) H a = some o := fun a o q => by
          obtain ⟨q1, q2, q3⟩ := of_Gv q
          exact vis0.mpr ⟨fun z => z.elim q1 fun z => q2 z.1, q3⟩
        cases v with
        | val d' => cases hd; exact dp_mono gv _ _ h.1
        | bor i =>
          have h1 : σ[i]? = some (some u) := h.1
          unfold deref at hd
          dsimp only at hd
          split at hd
          · rename_i b l q
            cases hd
            obtain ⟨a, h2, h3, ws, h4, h5⟩ := r.own i b _ q
            rw [h1] at h2; cases h2
            exact .lst (SqL.of (vis0.mpr ⟨fun z => z.elim h3 fun z => z.2 ⟨i, b, _, hs _ List.mem_cons_self, q, h1⟩, h4⟩)) (dpAll_mono gv _ _ h5)
          · rename_i d' q
            cases hd
            obtain ⟨w, h2, h3⟩ := r.val i _ q
            rw [h1] at h2; cases h2
            exact dp_mono gv _ _ h3
          · cases hd
      · cases e
    · cases e
  | [], _, _ :: _, _, _, h, _ => h.elim
  | _ :: _, _, [], _, _, h, _ => h.elim
theorem keep_slot {v : EV} {d : D} {ρ' : DEnv} (e : keep v ρ = some (d, ρ')) : (∀ (j : Nat) (b : Bool) (c : Cell), ρ'[j]? = some (some (.own b c)) → ρ[j]? = some (some (.own b c))) ∧ ∀ i, v = .bor i → ∀ (b : Bool) (c : Cell), ρ'[i]? ≠ some (some (.own b c)) := by
  cases v with
  | val d' => cases e; exact ⟨fun _ _ _ h => h, fun i h => nomatch h⟩
  | bor i =>
    unfold keep frzAt at e
    dsimp only at e
    split at e
    · rename_i ds q
      cases e
      have hi : i < ρ.length := (List.getElem?_eq_some_iff.mp q).1
      refine ⟨fun j b c h => ?_, fun k hk b c h => ?_⟩
      · by_cases hj : i = j
        · subst hj; rw [List.getElem?_set_self hi] at h; cases h
        · rw [List.getElem?_set_ne hj] at h; exact h
      · cases hk; rw [List.getElem?_set_self hi] at h; cases h
    · rename_i d' q
      cases e
      exact ⟨fun _ _ _ h => h, fun k hk b c h => by cases hk; rw [q] at h; cases h⟩
    · cases e
theorem keeps_slot : ∀ {vs : List EV} {ds : List D} {ρ ρ' : DEnv}, keeps vs ρ = some (ds, ρ') → (∀ (j : Nat) (b : Bool) (c : Cell), ρ'[j]? = some (some (.own b c)) → ρ[j]? = some (some (.own b c))) ∧ ∀ i, EV.bor i ∈ vs → ∀ (b : Bool) (c : Cell), ρ'[i]? ≠ some (some (.own b c))
  | [], _, _, _, e => by cases e; exact ⟨fun _ _ _ h => h, fun i h => nomatch h⟩
  | v :: vs, ds, ρ, ρ', e => by
    unfold keeps at e
    split at e
    · rename_i d ρ1 q
      split at e
      · rename_i ds' ρ2 q2
        cases e
        obtain ⟨a1, b1⟩ := keep_slot q
        obtain ⟨a2, b2⟩ := keeps_slot q2
        refine ⟨fun j b c h => a1 j b c (a2 j b c h), fun i hi b c h => ?_⟩
        cases hi with
        | head => exact b1 i rfl b c (a2 i b c h)
        | tail _ hi => exact b2 i hi b c h
      · cases e
    · cases e
theorem keeps_out {vs : List EV} {ds : List D} {ρ' : DEnv} (r : RelEnv K O σ H ρ) (e : keeps vs ρ = some (ds, ρ')) {a : Addr} (h : Ow σ ρ' a) : Ow σ ρ a ∧ ¬ Bor σ ρ vs a := by
  obtain ⟨s1, s2⟩ := keeps_slot e
  obtain ⟨j, b, c, e1, e2⟩ := h
  refine ⟨⟨j, b, c, s1 j b c e1, e2⟩, fun ⟨i, b', c', m, e3, e4⟩ => ?_⟩
  have ij := r.inj i j a _ _ _ _ e3 (s1 j b c e1) e4 e2
  subst ij
  exact s2 i m b c e1

/-- a call's end, seen by the caller -/
theorem call_core {k : Nat} {n : Nat} {F : Fn} {W : WX} {us : List V} {vs : List EV} {ds : List D} {Q : VK} (r : RelEnv K O σ H ρ) (e : RelEs K O σ ρ H us vs) (hd : derefs ρ vs = some ds) (hn : us.length = n)
    (h : Sat K mg O σ ρ H W (fun ρ' H' u a => RelE K O σ ρ' H' u a) Q (match F ds with
      | .ok (.val d) => if (flat d).isSome = true then .ok (.val d) ρ else optR (keeps vs ρ) fun p => .ok (.val d) p.2
      | .ok (.own (.lst l)) => optR (keeps vs ρ) fun p => .ok (.val (.list l)) p.2
      | .ok (.own _) => .bad
      | .err x => .err x ρ
      | .bad => .bad)) : spP K mg n F us H Q (WE W σ) := by
  have ha := args_dp r (fun u hu => hu) e hd
  refine ⟨hn, Hid O σ ρ vs, ds, fun a q => q.elim (r.oa a) fun q => ?_, ha, ?_⟩
  · obtain ⟨o, ho⟩ := r.owSome q.1
    rw [ho]; exact fun z => nomatch z
  have sub : ∀ {ρ' : DEnv} {H' : Hp}, (∀ a, Ow σ ρ' a → Ow σ ρ a ∧ ¬ Bor σ ρ vs a) → ∀ a o, Vis0 (Hid O σ ρ vs) H' a = some o → Gv O σ ρ' H' a = some o := fun {ρ' H'} hh a o q => by
    obtain ⟨q1, q2⟩ := vis0.mp q
    exact Gv_of (fun z => q1 (.inl z)) (fun z => q1 (.inr (hh a z))) q2
  cases hF : F ds with
  | bad => rw [hF] at h; exact h.elim
  | err x =>
    rw [hF] at h
    exact fun cls d H' sm ex => h cls d H' (.same sm) (r.same sm) ex
  | ok v =>
    rw [hF] at h
    cases v with
    | val d =>
      dsimp only at h
      split at h
      · rename_i hfl
        obtain ⟨w, hw⟩ := Option.isSome_iff_exists.mp hfl
        exact fun u H' sm hu => h u H' (.same sm) (r.same sm) (dp_any hu hw)
      · obtain ⟨⟨ds', ρ2⟩, hk, s2⟩ := optR_sat h
        obtain ⟨r2, st2, _⟩ := keeps_ok r e hk
        exact fun u H' sm hu => s2 u H' (st2.trans (.same sm)) (r2.same sm) (dp_mono (sub fun a z => keeps_out r hk z) _ _ hu)
    | own c =>
      cases c with
      | lst l =>
        obtain ⟨⟨ds', ρ2⟩, hk, s2⟩ := optR_sat h
        obtain ⟨r2, st2, _⟩ := keeps_ok r e hk
        refine fun p H' sm hp hc => s2 _ H' (st2.trans (.same sm)) (r2.same sm) ?_
        obtain ⟨ws, h1, h2⟩ := hc
        have hs : ∀ a o, Vis0 (fun a => Hid O σ ρ vs a ∨ a = p) H' a = some o → Gv O σ ρ2 H' a = some o := fun a o q => by
          obtain ⟨q1, q2⟩ := vis0.mp q
          exact Gv_of (fun z => q1 (.inl (.inl z))) (fun z => q1 (.inl (.inr (keeps_out r hk z)))) q2
        exact L2.Dp.lst (SqL.of (Gv_of (r2.fresh hp).1 (r2.fresh hp).2 h1)) (dpAll_mono hs _ _ h2)
      | dK _ => exact h.elim
      | dT _ => exact h.elim
theorem call_coreL {n : Nat} {F : Fn} {W : WX} {us : List V} {vs : List EV} {ds : List D} {Q : VK} (r : RelEnv K O σ H ρ) (e : RelEs K O σ ρ H us vs) (hd : derefs ρ vs = some ds) (hn : us.length = n)
    (h : SatL K mg O σ ρ H W Q (match F ds with
      | .ok (.own c) => optR (keeps vs ρ) fun p => .ok c p.2
      | .ok (.val _) => .bad
      | .err x => .err x ρ
      | .bad => .bad)) : spP K mg n F us H Q (WE W σ) := by
  have ha := args_dp r (fun u hu => hu) e hd
  refine ⟨hn, Hid O σ ρ vs, ds, fun a q => q.elim (r.oa a) fun q => ?_, ha, ?_⟩
  · obtain ⟨o, ho⟩ := r.owSome q.1
    rw [ho]; exact fun z => nomatch z
  cases hF : F ds with
  | bad => rw [hF] at h; exact h.elim
  | err x =>
    rw [hF] at h
    exact fun cls d H' sm ex => h cls d H' (.same sm) (r.same sm) ex
  | ok v =>
    rw [hF] at h
    cases v with
    | val d => exact h.elim
    | own c =>
      obtain ⟨⟨ds', ρ2⟩, hk, s2⟩ := optR_satL h
      obtain ⟨r2, st2, _⟩ := keeps_ok r e hk
      intro p H' sm hp hc
      have st3 : EStp σ ρ H ρ2 H' := st2.trans (.same sm)
      have r3 : RelEnv K O σ H' ρ2 := r2.same sm
      refine s2 p H' st3 hp ⟨?_, (r2.fresh hp).1, (r2.fresh hp).2, hc.mono (fun a o q => ?_) fun _ q => q⟩
      · -- p is hidden: it was free ahead of the call
        have gh : ∀ a o, Gv O σ ρ2 H a = some o → Gv (fun a => O a ∨ a = p) σ ρ2 H' a = some o := fun a o q => by
          obtain ⟨q1, q2, q3⟩ := of_Gv q
          exact Gv_of (fun z => z.elim q1 (ne_of_none q3 hp)) q2 (sm _ _ q3)
        refine ⟨r2.len, fun a q => ?_, fun i d q => ?_, fun i b c' q => ?_, r2.inj, r2.raw⟩
        · rcases q with q | q
          · exact r3.oa a q
          · obtain ⟨o, ho⟩ := hc.some
            rw [q, ho]; exact fun z => nomatch z
        · obtain ⟨v, h1, h2⟩ := r2.val i d q
          exact ⟨v, h1, dp_mono gh _ _ h2⟩
        · obtain ⟨a, h1, h2, h3⟩ := r2.own i b c' q
          obtain ⟨o, ho⟩ := h3.some
          exact ⟨a, h1, fun z => z.elim h2 (ne_of_none ho hp), h3.mono gh fun o q => sm _ _ q⟩
      · obtain ⟨q1, q2⟩ := vis0.mp q
        exact Gv_of (fun z => z.elim (fun z => q1 (.inl (.inl z))) fun z => q1 (.inr z)) (fun z => q1 (.inl (.inr (keeps_out r hk z)))) q2
end
section
variable {X : Cx} {W : WX} {x : Str} {p pos : Pos} {e : Expr} {es : List Expr} {k n : Nat} {ps : List Str} {F : Fn} {g : DEnv → Res (List EV)}
theorem de_call (C : FOk X.prog X.w X.K X.mg X.base x k ps (spP X.K X.mg n F)) (hr : Room k X.A) (hx : ∀ σ, PassesAt (L2N.CX X.prog X.w) X σ (WE W σ)) (ha : DA X W (e :: es) g) (hl : (e :: es).length = n := by rfl) (hg : Gl X x := by rfl) (hdb : (x == ("__debug__" : Str)) = false := by decide)
    (he : starEach (e :: es) X.env = (false, eval e X.env) :: starEach es X.env := by rfl) (hpl : (backTo pos (starEach es X.env)).any (·.1) = false := by rfl) (hlen : ∀ ρ vs ρ', g ρ = .ok vs ρ' → vs.length = n) :
    DE X W (.Call (.Name x p) (e :: es) [] pos) (xCall F g) := by
  obtain ⟨f, fd, Fo, hm, hk, hb⟩ := C
  refine ⟨pe_imp (pe_callS (E := WE W) Fo hr hg hm hk hb hx ha.pa hdb he hpl) fun σ H Q ⟨O, ρ, r, s⟩ => ⟨O, ρ, r, ?_⟩⟩
  unfold xCall at s
  cases q : g ρ with
  | ok vs ρ1 =>
    rw [q] at s
    intro us H1 st r1 e1
    obtain ⟨ds, hd, s2⟩ := optR_sat (Sat.shift s st)
    have hlv : us.length = vs.length := by
      have : ∀ (us : List V) (vs : List EV), RelEs X.K O σ ρ1 H1 us vs → us.length = vs.length := by
        intro us
        induction us with
        | nil => intro vs h; cases vs with
          | nil => rfl
          | cons _ _ => exact h.elim
        | cons u us ih => intro vs h; cases vs with
          | nil => exact h.elim
          | cons v vs => simp [ih vs h.2]
      exact this us vs e1
    exact call_core (k := k) r1 e1 hd (hlv.trans (hlen _ _ _ q)) s2
  | err x ρ1 => rw [q] at s; exact s
  | bad => rw [q] at s; exact s
theorem dl_call (C : FOk X.prog X.w X.K X.mg X.base x k ps (spP X.K X.mg n F)) (hr : Room k X.A) (hx : ∀ σ, PassesAt (L2N.CX X.prog X.w) X σ (WE W σ)) (ha : DA X W (e :: es) g) (hl : (e :: es).length = n := by rfl) (hg : Gl X x := by rfl) (hdb : (x == ("__debug__" : Str)) = false := by decide)
    (he : starEach (e :: es) X.env = (false, eval e X.env) :: starEach es X.env := by rfl) (hpl : (backTo pos (starEach es X.env)).any (·.1) = false := by rfl) (hlen : ∀ ρ vs ρ', g ρ = .ok vs ρ' → vs.length = n) :
    DLs X W (.Call (.Name x p) (e :: es) [] pos) (xCallL F g) := by
  obtain ⟨f, fd, Fo, hm, hk, hb⟩ := C
  refine ⟨pe_imp (pe_callS (E := WE W) Fo hr hg hm hk hb hx ha.pa hdb he hpl) fun σ H Q ⟨O, ρ, r, s⟩ => ⟨O, ρ, r, ?_⟩⟩
  unfold xCallL at s
  cases q : g ρ with
  | ok vs ρ1 =>
    rw [q] at s
    intro us H1 st r1 e1
    obtain ⟨ds, hd, s2⟩ := optR_satL (SatL.shift s st st.none)
    have hlv : us.length = vs.length := by
      have : ∀ (us : List V) (vs : List EV), RelEs X.K O σ ρ1 H1 us vs → us.length = vs.length := by
        intro us
        induction us with
        | nil => intro vs h; cases vs with
          | nil => rfl
          | cons _ _ => exact h.elim
        | cons u us ih => intro vs h; cases vs with
          | nil => exact h.elim
          | cons v vs => simp [ih vs h.2]
      exact this us vs e1
    exact call_coreL r1 e1 hd (hlv.trans (hlen _ _ _ q)) s2
  | err x ρ1 => rw [q] at s; exact s
  | bad => rw [q] at s; exact s
/-- how many arguments there are -/
theorem aNil_len : ∀ ρ vs ρ', aNil ρ = .ok vs ρ' → vs.length = 0 := fun ρ vs ρ' h => by cases h; rfl
theorem aCons_len {f : DX} {g : DEnv → Res (List EV)} {n : Nat} (h : ∀ ρ vs ρ', g ρ = .ok vs ρ' → vs.length = n) : ∀ ρ vs ρ', aCons f g ρ = .ok vs ρ' → vs.length = n + 1 := fun ρ vs ρ' e => by
  unfold aCons at e
  cases q : f ρ with
  | ok v ρ1 =>
    rw [q] at e
    dsimp only [bindR] at e
    cases q2 : g ρ1 with
    | ok ws ρ2 =>
      rw [q2] at e
      cases e
      simp [h _ _ _ q2]
    | err x ρ2 => rw [q2] at e; cases e
    | bad => rw [q2] at e; cases e
  | err x ρ1 => rw [q] at e; cases e
  | bad => rw [q] at e; cases e
end

/-! ### a def's body -/
def runF (m : Nat) (body : DSt) : Fn := fun ds => match body (ds.map (fun d => some (.val d)) ++ List.replicate (m - ds.length) none) with
  | .nx _ => .ok (.val .none)
  | .rt v _ => .ok v
  | .err x _ => .err x
  | _ => .bad
section
variable {P : Program} {w : World} {K : Frg} {mg : Mg} {base : Heap}
theorem start_get {N : List Str} {vs : List V} {i : Nat} : (L2.start N vs)[i]? = if i < vs.length then (vs[i]?).map some else if i < vs.length + (N.length - vs.length) then some none else none := by
  unfold L2.start
  by_cases h : i < vs.length
  · rw [if_pos h, List.getElem?_append_left (by simpa using h), List.getElem?_map]
  · rw [if_neg h, List.getElem?_append_right (by simpa using h), List.getElem?_replicate, List.length_map]
    by_cases h2 : i < vs.length + (N.length - vs.length)
    · rw [if_pos h2, if_pos (by omega)]
    · rw [if_neg h2, if_neg (by omega)]
def startD (m : Nat) (ds : List D) : DEnv := ds.map (fun d => some (.val d)) ++ List.replicate (m - ds.length) none
theorem startD_own {m : Nat} {ds : List D} {i : Nat} {b : Bool} {c : Cell} : (startD m ds)[i]? ≠ some (some (.own b c)) := by
  unfold startD
  by_cases h : i < ds.length
  · rw [List.getElem?_append_left (by simpa using h), List.getElem?_map]
    cases ds[i]? with
    | none => exact fun z => nomatch z
    | some d => exact fun z => nomatch z
  · rw [List.getElem?_append_right (by simpa using h), List.getElem?_replicate]
    split
    · exact fun z => nomatch z
    · exact fun z => nomatch z
theorem start_rel {O : Addr → Prop} {N : List Str} {vs : List V} {ds : List D} {H : Hp} (ho : ∀ a, O a → H a ≠ none) (h : DpAll K (Vis0 O H) vs ds) : RelEnv K O (L2.start N vs) H (startD N.length ds) := by
  have hl := DL.DpAll.length h
  have now : ∀ a, ¬ Ow (L2.start N vs) (startD N.length ds) a := fun a ⟨i, b, c, e, _⟩ => startD_own e
  refine ⟨?_, ho, fun i d e => ?_, fun i b c e => absurd e startD_own, fun i j a b c b' c' e => absurd e startD_own, fun i a e => ?_⟩
  · unfold L2.start startD
    simp [hl]
  · unfold startD at e
    by_cases hi : i < ds.length
    · rw [List.getElem?_append_left (by simpa using hi), List.getElem?_map] at e
      cases q : ds[i]? with
      | none => rw [q] at e; cases e
      | some d' =>
        rw [q] at e
        cases e
        obtain ⟨v, h1, h2⟩ := DL.DpAll.at h q
        refine ⟨v, ?_, dp_mono (fun a o z => Gv_of (vis0.mp z).1 (now a) (vis0.mp z).2) _ _ h2⟩
        rw [start_get, if_pos (by omega), h1]; rfl
    · rw [List.getElem?_append_right (by simpa using hi), List.getElem?_replicate] at e
      split at e <;> cases e
  · unfold startD at e
    by_cases hi : i < ds.length
    · rw [List.getElem?_append_left (by simpa using hi), List.getElem?_map] at e
      cases q : ds[i]? with
      | none => rw [q] at e; cases e
      | some d' => rw [q] at e; cases e
    · rw [List.getElem?_append_right (by simpa using hi), List.getElem?_replicate] at e
      split at e <;> cases e
abbrev cxN (P : Program) (w : World) (K : Frg) (mg : Mg) (base : Heap) (N : List Str) (qual : Str) (st : Stmt) (f : Addr) (cdv : Value) (A : Around) (outer : List Env) (s : Shared) (H : Hp) (E : XK) : Cx :=
  cxOf (L2N.CX P w) P w K mg base N qual (defScope st) f cdv A outer s H E
/-- THE RULE for a def of data -/
theorem fn_data {x qual : Str} {st : Stmt} {f : Addr} {fd : FuncData} {N ps : List Str} {k : Nat} {body : DSt} (F : Fun K x qual st f fd) (S : FnScope N ps (defScope st))
    (hbody : ∀ (cdv : Value) (A : Around) (outer : List Env) (s : Shared) (H : Hp) (E : XK), Room k (A.deeper (envOfC qual (defScope st) s.heap.objs.size f cdv)) →
      L2N.Takes (cxN P w K mg base N qual st f cdv A outer s H E) (fun cls d _ H => E cls d H) → PassesOwn (model P w) (cxN P w K mg base N qual st f cdv A outer s H E).A (cxN P w K mg base N qual st f cdv A outer s H E).env (cxN P w K mg base N qual st f cdv A outer s H E).xe →
      DSs (cxN P w K mg base N qual st f cdv A outer s H E) (fun cls d _ H => E cls d H) (defBody st) body) :
    FnOk P w K mg base (L2N.CX P w) (k + 1) f fd ps (spP K mg ps.length (runF N.length body)) := by
  obtain ⟨oc, od, kV, doc, pm, an, cdv, ct, osl, rfl, lk, hcd⟩ := F.ex
  refine fn_of lk hcd S (fun vs H Q E h => h.1) fun A outer s H vs Q E hr h => ?_
  obtain ⟨hn, O, ds, ho, ha, h⟩ := h
  refine ⟨_, (hbody cdv A outer s H E hr (L2N.takes_of rfl rfl rfl rfl) (passes_of rfl)).pss, O, startD N.length ds, start_rel ho ha, ?_⟩
  have now : ∀ a, ¬ Ow (L2.start N vs) (startD N.length ds) a := fun a ⟨i, b, c, e, _⟩ => startD_own e
  unfold runF at h
  have same : ∀ {σ' : L2.St} {ρ' : DEnv} {H' : Hp}, SStp (L2.start N vs) (startD N.length ds) H σ' ρ' H' → Same H H' := fun {σ' ρ' H'} st b o e => st.ext b o e (now b)
  have gvs : ∀ {σ' : L2.St} {ρ' : DEnv} {H' : Hp}, ∀ a o, Gv O σ' ρ' H' a = some o → Vis0 O H' a = some o := fun {σ' ρ' H'} a o q => vis0.mpr ⟨(of_Gv q).1, (of_Gv q).2.2⟩
  show SatS K mg O (L2.start N vs) (startD N.length ds) H _ _ (body (startD N.length ds))
  change SatF K mg O H Q E (match body (startD N.length ds) with
    | .nx _ => .ok (.val .none)
    | .rt v _ => .ok v
    | .err x _ => .err x
    | _ => .bad) at h
  cases q : body (startD N.length ds) with
  | nx ρ' => rw [q] at h; exact fun σ' H' st r => h .non H' (same st) .non
  | rt v ρ' =>
    rw [q] at h
    intro u σ' H' st r
    cases v with
    | val d => exact h u H' (same st) (dp_mono gvs _ _ r.2)
    | own c =>
      obtain ⟨p, rfl, ⟨r1, r2, r3, r4⟩, r5⟩ := r
      refine h p H' (same st) (r5.elim (fun z => absurd z (now p)) fun z => z) (r4.mono (fun a o z => vis0.mpr ⟨(of_Gv z).1, (of_Gv z).2.2⟩) fun _ z => z)
  | bk ρ' => rw [q] at h; exact h.elim
  | ct ρ' => rw [q] at h; exact h.elim
  | err x ρ' => rw [q] at h; exact fun cls d σ' H' st r ex => h cls d H' (same st) ex
  | bad => rw [q] at h; exact h.elim
end
end DL

namespace DL
open L2 PySem PySem.Spec PyProof.Rows

section
variable {K : Frg} {O : Addr → Prop} {σ : L2.St} {ρ : DEnv} {H : Hp} {u : V} {a : EV}
theorem RelE.int {i : Int} (h : RelE K O σ ρ H u a) (r : RelEnv K O σ H ρ) (e : deref ρ a = some (.int i)) : u = .int i := by
  have := h.dp r e; cases this; rfl
theorem RelE.str {x : Str} (h : RelE K O σ ρ H u a) (r : RelEnv K O σ H ρ) (e : deref ρ a = some (.str x)) : u = .str x := by
  have := h.dp r e; cases this; rfl
theorem RelE.bl {b : Bool} (h : RelE K O σ ρ H u a) (r : RelEnv K O σ H ρ) (e : deref ρ a = some (.bool b)) : u = .bl b := by
  have := h.dp r e; cases this; rfl
theorem RelE.non (h : RelE K O σ ρ H u a) (r : RelEnv K O σ H ρ) (e : deref ρ a = some .none) : u = .non := by
  have := h.dp r e; cases this; rfl
theorem dp_new {vs : List V} {ds : List D} {p : Addr} (r : RelEnv K O σ H ρ) (hp : H p = none) (a : DpAll K (Gv O σ ρ H) vs ds) : Same H (upd H p (.tup vs)) ∧ Dp K (Gv O σ ρ (upd H p (.tup vs))) (.ref p) (.tuple ds) :=
  ⟨same_upd hp, L2.Dp.tup (SqT.of (Gv_of (r.fresh hp).1 (r.fresh hp).2 upd_same)) (dpAll_mono (same_gv (same_upd hp)) _ _ a)⟩
end

/-! ### + -/
def kAdd : D → D → Option D
  | .int i, .int j => some (.int (i + j))
  | .str x, .str y => if x.length + y.length ≤ sizeLine then some (.str (x ++ y)) else none
  | .tuple xs, .tuple ys => if xs.length + ys.length ≤ sizeLine then some (.tuple (xs ++ ys)) else none
  | _, _ => none
section
variable {X : Cx}
theorem o_add : OpR X (binaryOp .Add) (rD2 X.K kAdd) := by
  intro pins s σ H x y v u Q I rx ry ⟨O, σ', ρ, a, b, d, e, z, r, ea, eb, hd, he, hk, q⟩
  unfold kAdd at hk
  split at hk
  · rename_i i j
    cases hk
    cases RelE.int ea r hd
    cases RelE.int eb r he
    exact op_add pins s σ H _ _ v u Q I rx ry ⟨i, j, rfl, rfl, q _ H (Same.refl _) (.int _)⟩
  · rename_i i j
    split at hk
    · rename_i hz
      cases hk
      cases RelE.str ea r hd
      cases RelE.str eb r he
      exact op_add_str pins s σ H _ _ v u Q I rx ry ⟨i, j, rfl, rfl, hz, q _ H (Same.refl _) (.str _)⟩
    · cases hk
  · rename_i xs ys
    split at hk
    · rename_i hz
      cases hk
      obtain ⟨p1, vs, rfl, s1, a1⟩ := RelE.tup ea r hd
      obtain ⟨p2, ws, rfl, s2, a2⟩ := RelE.tup eb r he
      have l1 := DL.DpAll.length a1
      have l2 := DL.DpAll.length a2
      refine op_catA pins s σ H _ _ v u Q I rx ry ⟨p1, p2, vs, ws, rfl, rfl, SqT.mono Gv_sub s1, SqT.mono Gv_sub s2, by omega, fun hv => ?_, fun hv hw => ?_, fun hv hw p hp => ?_⟩
      · subst hv
        have : xs = [] := List.eq_nil_of_length_eq_zero l1.symm
        subst this
        exact q _ H (Same.refl _) (.tup s2 a2)
      · subst hw
        have : ys = [] := List.eq_nil_of_length_eq_zero l2.symm
        subst this
        exact q _ H (Same.refl _) (.tup s1 (by simpa using a1))
      · obtain ⟨m1, m2⟩ := dp_new r hp (DL.DpAll.append a1 a2)
        exact q _ _ m1 m2
    · cases hk
  · cases hk
def kSub : D → D → Option D
  | .int i, .int j => some (.int (i - j))
  | _, _ => none
theorem o_sub : OpR X (binaryOp .Sub) (rD2 X.K kSub) := by
  intro pins s σ H x y v u Q I rx ry ⟨O, σ', ρ, a, b, d, e, z, r, ea, eb, hd, he, hk, q⟩
  unfold kSub at hk
  split at hk
  · rename_i i j
    cases hk
    cases RelE.int ea r hd
    cases RelE.int eb r he
    exact op_sub pins s σ H _ _ v u Q I rx ry ⟨i, j, rfl, rfl, q _ H (Same.refl _) (.int _)⟩
  · cases hk
/-- the sizes that a product may have -/
def mulOk (i j : Int) : Bool := decide (i.natAbs.log2 + j.natAbs.log2 < 1000000)
def kMul : D → D → Option D
  | .int i, .int j => if mulOk i j = true then some (.int (i * j)) else none
  | .tuple xs, .int k => if (!xs.isEmpty) = true ∧ 2 ≤ k ∧ k ≤ 1000 ∧ xs.length ≤ 1000 then some (.tuple (List.replicate k.toNat xs).flatten) else none
  | _, _ => none
theorem DpAll.rep {K : Frg} {G : Hp} {vs : List V} {ds : List D} (a : DpAll K G vs ds) : ∀ n, DpAll K G (List.replicate n vs).flatten (List.replicate n ds).flatten
  | 0 => .nil
  | n + 1 => by
    rw [List.replicate_succ, List.replicate_succ, List.flatten_cons, List.flatten_cons]
    exact DL.DpAll.append a (DpAll.rep a n)
theorem o_mul : OpR X (binaryOp .Mult) (rD2 X.K kMul) := by
  intro pins s σ H x y v u Q I rx ry ⟨O, σ', ρ, a, b, d, e, z, r, ea, eb, hd, he, hk, q⟩
  unfold kMul at hk
  split at hk
  · rename_i i j
    split at hk
    · rename_i hz
      cases hk
      cases RelE.int ea r hd
      cases RelE.int eb r he
      exact op_mulW pins s σ H _ _ v u Q I rx ry ⟨i, j, rfl, rfl, (of_decide_eq_true (p := i.natAbs.log2 + j.natAbs.log2 < 1000000) hz : _), q _ H (Same.refl _) (.int _)⟩
    · cases hk
  · rename_i xs k
    split at hk
    · rename_i hz
      cases hk
      obtain ⟨p1, vs, rfl, s1, a1⟩ := RelE.tup ea r hd
      cases RelE.int eb r he
      have l1 := DL.DpAll.length a1
      refine op_repT pins s σ H _ _ v u Q I rx ry ⟨p1, k, vs, rfl, rfl, SqT.mono Gv_sub s1, fun hv => ?_, hz.2.1, hz.2.2.1, by omega, fun p hp => ?_⟩
      · subst hv
        have : xs = [] := List.eq_nil_of_length_eq_zero l1.symm
        subst this
        exact absurd hz.1 (by decide)
      · obtain ⟨m1, m2⟩ := dp_new r hp (DpAll.rep a1 k.toNat)
        exact q _ _ m1 m2
    · cases hk
  · cases hk
def divOk (j : Int) : Bool := decide (j ≠ 0 ∧ j.natAbs.log2 < 9000)
def kDiv : D → D → Option D
  | .int i, .int j => if divOk j = true then some (.int (i.fdiv j)) else none
  | _, _ => none
theorem o_div : OpR X (binaryOp .FloorDiv) (rD2 X.K kDiv) := by
  intro pins s σ H x y v u Q I rx ry ⟨O, σ', ρ, a, b, d, e, z, r, ea, eb, hd, he, hk, q⟩
  unfold kDiv at hk
  split at hk
  · rename_i i j
    split at hk
    · rename_i hz
      cases hk
      cases RelE.int ea r hd
      cases RelE.int eb r he
      obtain ⟨h1, h2⟩ := of_decide_eq_true hz
      obtain ⟨t, rfl⟩ := rx
      obtain ⟨t2, rfl⟩ := ry
      exact floordiv_int h1 ⟨.int _, H, I.tok _, ⟨_, rfl⟩, q _ H (Same.refl _) (.int _)⟩ (.inl (PyProof.noPylong_of_log2 h2))
    · cases hk
  · cases hk
def kMod : D → D → Option D
  | .int i, .int j => if j ≠ 0 then some (.int (i.fmod j)) else none
  | _, _ => none
theorem o_mod : OpR X (binaryOp .Mod) (rD2 X.K kMod) := by
  intro pins s σ H x y v u Q I rx ry ⟨O, σ', ρ, a, b, d, e, z, r, ea, eb, hd, he, hk, q⟩
  unfold kMod at hk
  split at hk
  · rename_i i j
    split at hk
    · rename_i hz
      cases hk
      cases RelE.int ea r hd
      cases RelE.int eb r he
      exact op_modN pins s σ H _ _ v u Q I rx ry ⟨i, j, rfl, rfl, hz, q _ H (Same.refl _) (.int _)⟩
    · cases hk
  · cases hk
def kPow : D → D → Option D
  | .int i, .int j => if 0 ≤ j ∧ j ≤ 1000000 ∧ i.natAbs < 2 ^ 64 then some (.int (i ^ j.toNat)) else none
  | _, _ => none
theorem o_pow : OpR X (binaryOp .Pow) (rD2 X.K kPow) := by
  intro pins s σ H x y v u Q I rx ry ⟨O, σ', ρ, a, b, d, e, z, r, ea, eb, hd, he, hk, q⟩
  unfold kPow at hk
  split at hk
  · rename_i i j
    split at hk
    · rename_i hz
      cases hk
      cases RelE.int ea r hd
      cases RelE.int eb r he
      exact op_pow pins s σ H _ _ v u Q I rx ry ⟨i, j, rfl, rfl, hz, q _ H (Same.refl _) (.int _)⟩
    · cases hk
  · cases hk
def kNeg : D → Option D
  | .int i => some (.int (-i))
  | _ => none
theorem o_neg : UnR X (unaryOp .USub) (rD1 X.K kNeg) := by
  intro pins s σ H x v Q I rx ⟨O, σ', ρ, a, d, z, r, ea, hd, hk, q⟩
  unfold kNeg at hk
  split at hk
  · rename_i i
    cases hk
    cases RelE.int ea r hd
    exact un_neg pins s σ H _ v Q I rx ⟨i, rfl, q _ H (Same.refl _) (.int _)⟩
  · cases hk

/-! ### lists: + and * -/
def kAddL : D → D → Option (List D)
  | .list xs, .list ys => if xs.length + ys.length ≤ sizeLine then some (xs ++ ys) else none
  | _, _ => none
theorem o_addL : OpR X (binaryOp .Add) (rD2L X.K kAddL) := by
  intro pins s σ H x y v u Q I rx ry ⟨O, σ', ρ, a, b, d, e, z, r, ea, eb, hd, he, hk, q⟩
  unfold kAddL at hk
  split at hk
  · rename_i xs ys
    split at hk
    · rename_i hz
      cases hk
      obtain ⟨p1, vs, rfl, s1, a1⟩ := RelE.lst ea r hd
      obtain ⟨p2, ws, rfl, s2, a2⟩ := RelE.lst eb r he
      have l1 := DL.DpAll.length a1
      have l2 := DL.DpAll.length a2
      cases rx
      cases ry
      obtain ⟨its, r1, ⟨⟨c1, dd1, da1, sl1⟩, n1, o1, k1, k2, k3⟩, z1⟩ := I.list s1
      obtain ⟨jts, r2, ⟨⟨c2, dd2, da2, sl2⟩, n2, o2, j1, j2, j3⟩, z2⟩ := I.list s2
      dsimp only at k1 k2 k3 j1 j2 j3
      subst k1 k2 k3 j1 j2 j3
      have hx1 := r1.length
      have hx2 := r2.length
      refine concat_meets ⟨_, o1, rfl⟩ ⟨_, o2, rfl⟩ noFill_list_add seq_list_add PySem.F.slot_list_add PySem.F.entry_list_add (PySem.F.args_list_add_2 _ _)
        (list_addW p1 p2 its.toArray jts.toArray n1 n2 _ _ _ _ (by rw [List.size_toArray, List.size_toArray]; omega)) ⟨o1, o2, ?_⟩
      have ea : its.toArray ++ jts.toArray = (its ++ jts).toArray := by simp
      rw [ea]
      exact ⟨.ref _, _, I.lnew (t' := s.toks) (r1.append r2) (by rw [List.length_append]; omega), rfl, q _ _ I.fresh (DL.DpAll.append a1 a2)⟩
    · cases hk
  · cases hk

/-! ### comparisons -/
def kEq : D → D → Option Bool
  | .str x, .str y => some (decide (x = y))
  | d, e => if SeqAt.shaped d = true ∧ SeqAt.shaped e = true then some (PyData.eqv d e) else none
def kNe : D → D → Option Bool
  | .str x, .str y => some (!decide (x = y))
  | d, e => if SeqAt.shaped d = true ∧ SeqAt.shaped e = true then some (!PyData.eqv d e) else none
theorem kB_some {k : D → D → Option Bool} {d e z : D} (h : kB k d e = some z) : ∃ b, k d e = some b ∧ z = .bool b := by
  unfold kB at h
  cases q : k d e with
  | none => rw [q] at h; cases h
  | some b => rw [q] at h; cases h; exact ⟨b, rfl, rfl⟩
theorem o_eq (hu : X.A.units + 200 < cLine) : OpR X (compareOp .Eq) (rD2 X.K (kB kEq)) := by
  intro pins s σ H x y v u Q I rx ry ⟨O, σ', ρ, a, b, d, e, z, r, ea, eb, hd, he, hk, q⟩
  obtain ⟨c, hk2, rfl⟩ := kB_some hk
  clear hk
  unfold kEq at hk2
  split at hk2
  · rename_i x1 y1
    cases hk2
    cases RelE.str ea r hd
    cases RelE.str eb r he
    refine op_eq pins s σ H _ _ v u Q I rx ry ⟨rfl, q _ H (Same.refl _) ?_⟩
    have e : decide (x1 = y1) = decide (V.str x1 = V.str y1) := by simp
    rw [e]
    exact .bl _
  split at hk2
  · rename_i hz
    cases hk2
    exact op_eqD (by omega) pins s σ H _ _ v u Q I rx ry ⟨d, e, ea.dp r hd, eb.dp r he, hz.1, hz.2, q _ H (Same.refl _) (.bl _)⟩
  · cases hk2
theorem o_ne (hu : X.A.units + 200 < cLine) : OpR X (compareOp .NotEq) (rD2 X.K (kB kNe)) := by
  intro pins s σ H x y v u Q I rx ry ⟨O, σ', ρ, a, b, d, e, z, r, ea, eb, hd, he, hk, q⟩
  obtain ⟨c, hk2, rfl⟩ := kB_some hk
  clear hk
  unfold kNe at hk2
  split at hk2
  · rename_i x1 y1
    cases hk2
    cases RelE.str ea r hd
    cases RelE.str eb r he
    refine op_ne pins s σ H _ _ v u Q I rx ry ⟨rfl, q _ H (Same.refl _) ?_⟩
    have e : decide (x1 = y1) = decide (V.str x1 = V.str y1) := by simp
    rw [e]
    exact .bl _
  split at hk2
  · rename_i hz
    cases hk2
    exact op_neD (by omega) pins s σ H _ _ v u Q I rx ry ⟨d, e, ea.dp r hd, eb.dp r he, hz.1, hz.2, q _ H (Same.refl _) (.bl _)⟩
  · cases hk2
/-- order: ints by themselves, other data alike -/
def notNone : D → Bool
  | .none => false
  | _ => true
def kLt : D → D → Option Bool
  | .int i, .int j => some (decide (i < j))
  | d, e => if PySem.W.alike d e = true ∧ notNone d = true ∧ d.depth ≤ 64 then some (PySem.W.dataLt d e) else none
def kGt : D → D → Option Bool
  | .int i, .int j => some (decide (j < i))
  | d, e => if PySem.W.alike d e = true ∧ notNone d = true ∧ d.depth ≤ 64 then some (PySem.W.dataLt e d) else none
def kLe : D → D → Option Bool
  | .int i, .int j => some (decide (i ≤ j))
  | d, e => if PySem.W.alike d e = true ∧ notNone d = true ∧ d.depth ≤ 64 then some (!PySem.W.dataLt e d) else none
def kGe : D → D → Option Bool
  | .int i, .int j => some (decide (j ≤ i))
  | d, e => if PySem.W.alike d e = true ∧ notNone d = true ∧ d.depth ≤ 64 then some (!PySem.W.dataLt d e) else none
theorem notNone_ne {d : D} (h : notNone d = true) : d ≠ .none := fun z => by rw [z] at h; cases h
theorem ordC {op : CmpOp} {k : D → D → Option Bool} {f : Int → Int → Bool} {g : D → D → Bool} (hk : ∀ d e c, k d e = some c → (∃ i j, d = .int i ∧ e = .int j ∧ c = f i j) ∨ (PySem.W.alike d e = true ∧ notNone d = true ∧ d.depth ≤ 64 ∧ c = g d e))
    (h1 : OpR X (compareOp op) (rI0 fun i j => .bl (f i j)))
    (h2 : ∀ (s : Shared) (v u : Value) (d e : D) (as bs : List Addr) (Q : Value → Shared → Prop), Reads s.heap v d as → Reads s.heap u e bs → PySem.W.alike d e = true → d ≠ .none → X.A.units + min d.depth e.depth < cLine → Q (.bool (g d e)) s → wpAny (model X.prog X.w) X.A (compareOp op v u) Q X.xe s)
    (hu : X.A.units + 200 < cLine) : OpR X (compareOp op) (rD2 X.K (kB k)) := by
  intro pins s σ H x y v u Q I rx ry ⟨O, σ', ρ, a, b, d, e, z, r, ea, eb, hd, he, hz, q⟩
  obtain ⟨c, hk2, rfl⟩ := kB_some hz
  rcases hk d e c hk2 with ⟨i, j, rfl, rfl, rfl⟩ | ⟨z1, z2, z3, rfl⟩
  · cases RelE.int ea r hd
    cases RelE.int eb r he
    exact h1 pins s σ H _ _ v u Q I rx ry ⟨i, j, rfl, rfl, q _ H (Same.refl _) (.bl _)⟩
  · obtain ⟨as, ra⟩ := Dp.reads I d x v (ea.dp r hd) rx
    obtain ⟨bs, rb⟩ := Dp.reads I e y u (eb.dp r he) ry
    have hm : min d.depth e.depth ≤ d.depth := Nat.min_le_left _ _
    exact h2 s v u d e as bs _ ra rb z1 (notNone_ne z2) (by omega) ⟨.bl _, H, I, rfl, q _ H (Same.refl _) (.bl _)⟩
theorem o_lt (hu : X.A.units + 200 < cLine) : OpR X (compareOp .Lt) (rD2 X.K (kB kLt)) := by
  refine ordC (f := fun i j => decide (i < j)) (g := fun d e => PySem.W.dataLt d e) (fun d e c h => ?_) op_lt (fun s v u d e as bs Q ra rb z1 z2 z3 hq => PySem.W.lt_data ra rb z1 z2 z3 hq) hu
  unfold kLt at h
  split at h
  · cases h; exact .inl ⟨_, _, rfl, rfl, rfl⟩
  · split at h
    · rename_i hz
      cases h
      exact .inr ⟨hz.1, hz.2.1, hz.2.2, rfl⟩
    · cases h
theorem o_gt (hu : X.A.units + 200 < cLine) : OpR X (compareOp .Gt) (rD2 X.K (kB kGt)) := by
  refine ordC (f := fun i j => decide (j < i)) (g := fun d e => PySem.W.dataLt e d) (fun d e c h => ?_) op_gt (fun s v u d e as bs Q ra rb z1 z2 z3 hq => PySem.W.gt_data ra rb z1 z2 z3 hq) hu
  unfold kGt at h
  split at h
  · cases h; exact .inl ⟨_, _, rfl, rfl, rfl⟩
  · split at h
    · rename_i hz
      cases h
      exact .inr ⟨hz.1, hz.2.1, hz.2.2, rfl⟩
    · cases h
theorem o_le (hu : X.A.units + 200 < cLine) : OpR X (compareOp .LtE) (rD2 X.K (kB kLe)) := by
  refine ordC (f := fun i j => decide (i ≤ j)) (g := fun d e => !PySem.W.dataLt e d) (fun d e c h => ?_) op_le (fun s v u d e as bs Q ra rb z1 z2 z3 hq => PySem.W.le_data ra rb z1 z2 z3 hq) hu
  unfold kLe at h
  split at h
  · cases h; exact .inl ⟨_, _, rfl, rfl, rfl⟩
  · split at h
    · rename_i hz
      cases h
      exact .inr ⟨hz.1, hz.2.1, hz.2.2, rfl⟩
    · cases h
theorem o_ge (hu : X.A.units + 200 < cLine) : OpR X (compareOp .GtE) (rD2 X.K (kB kGe)) := by
  refine ordC (f := fun i j => decide (j ≤ i)) (g := fun d e => !PySem.W.dataLt d e) (fun d e c h => ?_) op_ge (fun s v u d e as bs Q ra rb z1 z2 z3 hq => PySem.W.ge_data ra rb z1 z2 z3 hq) hu
  unfold kGe at h
  split at h
  · cases h; exact .inl ⟨_, _, rfl, rfl, rfl⟩
  · split at h
    · rename_i hz
      cases h
      exact .inr ⟨hz.1, hz.2.1, hz.2.2, rfl⟩
    · cases h
end
end DL

namespace DL
open L2 PySem PySem.Spec PyProof.Rows
section
variable {X : Cx}
/-! ### is, in -/
def kIs : D → D → Option Bool
  | .none, .none => some true
  | .bool a, .bool b => some (a == b)
  | _, .none => some false
  | _, .bool _ => some false
  | _, _ => none
def kIsNot (d e : D) : Option Bool := (kIs d e).map (!·)
theorem is_core {P : Program} {w : World} {A : Around} {E : Value → Shared → Prop} {s : Shared} {K : Frg} {H : Hp} {x y : V} {v u : Value} {d e : D} {c : Bool} (hk : kIs d e = some c) (hx : Dp K H x d) (hy : Dp K H y e) (rx : RelV x v) (ry : RelV y u) : plainIs v u = true ∧ (v == u) = c := by
  unfold kIs at hk
  split at hk
  · cases hk; cases hx; cases hy; cases rx; cases ry; exact ⟨rfl, rfl⟩
  · rename_i a b
    cases hk; cases hx; cases hy; cases rx; cases ry
    refine ⟨rfl, ?_⟩
    cases a <;> cases b <;> rfl
  · cases hk
    cases hy; cases ry
    cases hx with
    | non => rename_i h; exact absurd rfl h
    | bl b => cases rx; exact ⟨rfl, rfl⟩
    | int i => obtain ⟨t, rfl⟩ := rx; exact ⟨rfl, rfl⟩
    | str z => obtain ⟨t, rfl⟩ := rx; exact ⟨rfl, rfl⟩
    | lst _ _ => cases rx; exact ⟨rfl, rfl⟩
    | tup _ _ => cases rx; exact ⟨rfl, rfl⟩
  · cases hk
    cases hy; cases ry
    cases hx with
    | non => cases rx; exact ⟨rfl, rfl⟩
    | bl b => rename_i h; exact (h b rfl).elim
    | int i => obtain ⟨t, rfl⟩ := rx; exact ⟨rfl, rfl⟩
    | str z => obtain ⟨t, rfl⟩ := rx; exact ⟨rfl, rfl⟩
    | lst _ _ => cases rx; exact ⟨rfl, rfl⟩
    | tup _ _ => cases rx; exact ⟨rfl, rfl⟩
  · cases hk
theorem o_is : OpR X (compareOp .Is) (rD2 X.K (kB kIs)) := by
  intro pins s σ H x y v u Q I rx ry ⟨O, σ', ρ, a, b, d, e, z, r, ea, eb, hd, he, hz, q⟩
  obtain ⟨c, hk, rfl⟩ := kB_some hz
  obtain ⟨h1, h2⟩ := is_core (P := X.prog) (w := X.w) (A := X.A) (E := X.xe) (s := s) hk (ea.dp r hd) (eb.dp r he) rx ry
  exact wpAny_is_plain h1 ⟨.bl (v == u), H, I, rfl, by rw [h2]; exact q _ H (Same.refl _) (.bl _)⟩
theorem o_isnot : OpR X (compareOp .IsNot) (rD2 X.K (kB kIsNot)) := by
  intro pins s σ H x y v u Q I rx ry ⟨O, σ', ρ, a, b, d, e, z, r, ea, eb, hd, he, hz, q⟩
  obtain ⟨c, hk, rfl⟩ := kB_some hz
  unfold kIsNot at hk
  cases hk2 : kIs d e with
  | none => rw [hk2] at hk; cases hk
  | some c2 =>
    rw [hk2] at hk
    cases hk
    obtain ⟨h1, h2⟩ := is_core (P := X.prog) (w := X.w) (A := X.A) (E := X.xe) (s := s) hk2 (ea.dp r hd) (eb.dp r he) rx ry
    exact wpAny_isNot_plain h1 ⟨.bl (!(v == u)), H, I, rfl, by rw [h2]; exact q _ H (Same.refl _) (.bl _)⟩
def kIn : D → D → Option Bool
  | d, .list ds => if SeqAt.shaped d = true ∧ SeqAt.shaped (.list ds) = true then some (ds.any fun z => PyData.eqv z d) else none
  | _, _ => none
def kNotIn : D → D → Option Bool
  | d, .list ds => if SeqAt.shaped d = true ∧ SeqAt.shaped (.list ds) = true then some (!ds.any fun z => PyData.eqv z d) else none
  | _, _ => none
theorem o_in (hu : X.A.units + 200 < cLine) : OpR X (compareOp .In) (rD2 X.K (kB kIn)) := by
  intro pins s σ H x y v u Q I rx ry ⟨O, σ', ρ, a, b, d, e, z, r, ea, eb, hd, he, hz, q⟩
  obtain ⟨c, hk, rfl⟩ := kB_some hz
  unfold kIn at hk
  split at hk
  · rename_i ds
    split at hk
    · rename_i hs
      cases hk
      exact op_inD (by omega) pins s σ H _ _ v u Q I rx ry ⟨d, ds, ea.dp r hd, eb.dp r he, hs.1, hs.2, q _ H (Same.refl _) (.bl _)⟩
    · cases hk
  · cases hk
theorem o_notin (hu : X.A.units + 200 < cLine) : OpR X (compareOp .NotIn) (rD2 X.K (kB kNotIn)) := by
  intro pins s σ H x y v u Q I rx ry ⟨O, σ', ρ, a, b, d, e, z, r, ea, eb, hd, he, hz, q⟩
  obtain ⟨c, hk, rfl⟩ := kB_some hz
  unfold kNotIn at hk
  split at hk
  · rename_i ds
    split at hk
    · rename_i hs
      cases hk
      exact op_notInD (by omega) pins s σ H _ _ v u Q I rx ry ⟨d, ds, ea.dp r hd, eb.dp r he, hs.1, hs.2, q _ H (Same.refl _) (.bl _)⟩
    · cases hk
  · cases hk

/-! ### subscripts -/
def kIx : D → D → Option D
  | .list ds, .int i => atI ds i
  | .tuple ds, .int i => atI ds i
  | .str z, .int i => if z.length ≤ sizeLine then (atI z.cps.toList i).map fun c => .str ⟨#[c]⟩ else none
  | _, _ => none
theorem atI_dp {K : Frg} {G : Hp} {vs : List V} {ds : List D} {i : Int} {d : D} (a : DpAll K G vs ds) (h : atI ds i = some d) : ∃ v, atI vs i = some v ∧ Dp K G v d := by
  unfold atI at h ⊢
  rw [DL.DpAll.length a]
  cases q : ixN ds.length i with
  | none => rw [q] at h; cases h
  | some j =>
    rw [q] at h
    exact DL.DpAll.at a h
theorem i_ix : IxR X (rD2 X.K kIx) := by
  intro value slice pins s σ H x y v u Q I rx ry ⟨O, σ', ρ, a, b, d, e, z, r, ea, eb, hd, he, hk, q⟩ hs
  unfold kIx at hk
  split at hk
  · rename_i ds i
    obtain ⟨p, vs, rfl, s1, a1⟩ := RelE.lst ea r hd
    cases RelE.int eb r he
    obtain ⟨w, h1, h2⟩ := atI_dp a1 hk
    exact ix_list value slice pins s σ H _ _ v u Q I rx ry ⟨p, vs, i, w, rfl, rfl, s1, h1, q _ H (Same.refl _) h2⟩ hs
  · rename_i ds i
    obtain ⟨p, vs, rfl, s1, a1⟩ := RelE.tup ea r hd
    cases RelE.int eb r he
    obtain ⟨w, h1, h2⟩ := atI_dp a1 hk
    exact ix_tup value slice pins s σ H _ _ v u Q I rx ry ⟨p, vs, i, w, rfl, rfl, SqT.mono Gv_sub s1, h1, q _ H (Same.refl _) h2⟩ hs
  · rename_i z' i
    split at hk
    · rename_i hz
      cases RelE.str ea r hd
      cases RelE.int eb r he
      cases hc : atI z'.cps.toList i with
      | none => rw [hc] at hk; cases hk
      | some c =>
        rw [hc] at hk
        cases hk
        exact ix_str value slice pins s σ H _ _ v u Q I rx ry ⟨z', i, c, rfl, rfl, hz, hc, q _ H (Same.refl _) (.str _)⟩ hs
    · cases hk
  · cases hk

/-! ### slices -/
def cutD (xs : List D) (lo hi : Option Int) : List D := (xs.drop (HT.sIx xs.length 0 lo)).take (HT.sIx xs.length xs.length hi - HT.sIx xs.length 0 lo)
theorem cut_dp {K : Frg} {G : Hp} {vs : List V} {ds : List D} (a : DpAll K G vs ds) (lo hi : Option Int) : DpAll K G (cutV vs lo hi) (cutD ds lo hi) := by
  unfold cutV cutD
  rw [DL.DpAll.length a]
  exact DL.DpAll.take _ (DL.DpAll.drop _ a)
end
section
variable {X : Cx} {W : WX}
/-- a slice's part -/
def tDP (K : Frg) (mg : Mg) (W : WX) (f : DEnv → Res (Option Int)) : TO := fun σ H Q => ∃ O ρ, RelEnv K O σ H ρ ∧ Sat K mg O σ ρ H W (fun _ _ u a => u = a) Q (f ρ)
structure DP (X : Cx) (W : WX) (e : Option Expr) (f : DEnv → Res (Option Int)) : Prop where
  po : PO X e (tDP X.K X.mg W f)
theorem po_imp {X : Cx} {e : Option Expr} {t t' : TO} (h : PO X e t) (i : ∀ σ H Q, t' σ H Q → t σ H Q) : PO X e t' := ⟨fun pins s σ H Q I q => h.run pins s σ H Q I (i _ _ _ q)⟩
def pNo : DEnv → Res (Option Int) := fun ρ => .ok none ρ
def pSome (f : DX) : DEnv → Res (Option Int) := fun ρ => bindR (f ρ) fun v ρ1 => match deref ρ1 v with
  | some (.int i) => .ok (some i) ρ1
  | _ => .bad
theorem dp_no : DP X W none pNo := ⟨po_imp po_none fun σ H Q ⟨O, ρ, r, s⟩ => s none H .refl r rfl⟩
theorem dp_some {e : Expr} {f : DX} (h : DE X W e f) : DP X W (some e) (pSome f) := by
  refine ⟨po_imp (po_some h.pe) fun σ H Q ⟨O, ρ, r, s⟩ => ⟨O, ρ, r, (Sat.bind s).imp fun u H1 ⟨v, ρ1, r1, e1, s1⟩ => ?_⟩⟩
  try dsimp only at s1
  split at s1
  · rename_i i hd
    exact ⟨i, RelE.int e1 r1 hd, s1 _ H1 .refl r1 rfl⟩
  · exact s1.elim
/-- x[lo:hi] as data: of a tuple or a text -/
def kCut (d : D) (lo hi : Option Int) : Option D := match d with
  | .tuple ds => some (.tuple (cutD ds lo hi))
  | .str z => if z.length ≤ sizeLine then some (.str (cutS z lo hi)) else none
  | _ => none
def xCut (fa : DX) (fl fh : DEnv → Res (Option Int)) : DX := fun ρ => bindR (fa ρ) fun a ρ1 => bindR (fl ρ1) fun lo ρ2 => bindR (fh ρ2) fun hi ρ3 => optR (deref ρ3 a) fun d => optR (kCut d lo hi) fun z => .ok (.val z) ρ3
def xCutL (fa : DX) (fl fh : DEnv → Res (Option Int)) : DEnv → Res Cell := fun ρ => bindR (fa ρ) fun a ρ1 => bindR (fl ρ1) fun lo ρ2 => bindR (fh ρ2) fun hi ρ3 => match deref ρ3 a with
  | some (.list ds) => .ok (.lst (cutD ds lo hi)) ρ3
  | _ => .bad
def rCutD (K : Frg) : V → Option Int → Option Int → Hp → VK → Prop := fun x lo hi H Q => ∃ O σ ρ a d z, RelEnv K O σ H ρ ∧ RelE K O σ ρ H x a ∧ deref ρ a = some d ∧ kCut d lo hi = some z ∧ ∀ u H', Same H H' → Dp K (Gv O σ ρ H') u z → Q u H'
theorem sl_data : SlR X (rCutD X.K) := by
  intro pins s σ H x v vl vu lo hi sl Q I rx hs pl pu ⟨O, σ', ρ, a, d, z, r, ea, hd, hk, q⟩
  unfold kCut at hk
  split at hk
  · rename_i ds
    cases hk
    obtain ⟨p, vs, rfl, s1, a1⟩ := RelE.tup ea r hd
    refine sl_tupA pins s σ H _ v vl vu lo hi sl Q I rx hs pl pu ⟨p, vs, rfl, SqT.mono Gv_sub s1, ?_, ?_⟩
    · intro hw
      have e : cutD ds lo hi = ds := by
        have hl := DL.DpAll.length a1
        unfold cutD
        rw [← hl, hw.1, hw.2, List.drop_zero, hl, Nat.sub_zero, List.take_length]
      exact q _ H (Same.refl _) (by rw [e]; exact .tup s1 a1)
    · intro hw p2 hp
      obtain ⟨m1, m2⟩ := dp_new r hp (cut_dp a1 lo hi)
      exact q _ _ m1 m2
  · rename_i z'
    split at hk
    · rename_i hz
      cases hk
      cases RelE.str ea r hd
      exact sl_str pins s σ H _ v vl vu lo hi sl Q I rx hs pl pu ⟨z', rfl, hz, q _ H (Same.refl _) (.str _)⟩
    · cases hk
  · cases hk
theorem de_cut {e : Expr} {lo hi : Option Expr} {p2 pos : Pos} {fa : DX} {fl fh : DEnv → Res (Option Int)} (ha : DE X W e fa) (hl : DP X W lo fl) (hh : DP X W hi fh) : DE X W (.Subscript e (.Slice lo hi none p2) pos) (xCut fa fl fh) := by
  refine ⟨pe_imp (pe_slice sl_data ha.pe hl.po hh.po) fun σ H Q ⟨O, ρ, r, s⟩ => ⟨O, ρ, r, (Sat.bind s).imp fun u H1 ⟨v, ρ1, r1, e1, s1⟩ => ⟨O, ρ1, r1, ?_⟩⟩⟩
  try dsimp only at s1
  cases q : fl ρ1 with
  | err x ρ2 => rw [q] at s1; exact s1
  | bad => rw [q] at s1; exact s1
  | ok lo ρ2 =>
    rw [q] at s1
    rintro _ H2 st2 r2 rfl
    have s2 := Sat.shift s1 st2
    refine ⟨O, ρ2, r2, ?_⟩
    dsimp only [bindR] at s2
    cases q3 : fh ρ2 with
    | err x ρ3 => rw [q3] at s2; exact s2
    | bad => rw [q3] at s2; exact s2
    | ok hi ρ3 =>
      rw [q3] at s2
      rintro _ H3 st3 r3 rfl
      have s3 := Sat.shift s2 st3
      obtain ⟨d, hd, s4⟩ := optR_sat s3
      obtain ⟨z, hz, s5⟩ := optR_sat s4
      exact ⟨O, σ, ρ3, v, d, z, r3, (RelE.mono e1 st2).mono st3, hd, hz, fun u' H' sm q' => s5 u' H' (.same sm) (r3.same sm) q'⟩
theorem dl_cut {e : Expr} {lo hi : Option Expr} {p2 pos : Pos} {fa : DX} {fl fh : DEnv → Res (Option Int)} (ha : DE X W e fa) (hl : DP X W lo fl) (hh : DP X W hi fh) : DLs X W (.Subscript e (.Slice lo hi none p2) pos) (xCutL fa fl fh) := by
  refine ⟨pe_imp (pe_slice sl_list ha.pe hl.po hh.po) fun σ H Q ⟨O, ρ, r, s⟩ => ⟨O, ρ, r, (SatL.bind s).imp fun u H1 ⟨v, ρ1, r1, e1, st1, s1⟩ => ⟨O, ρ1, r1, ?_⟩⟩⟩
  try dsimp only at s1
  cases q : fl ρ1 with
  | err x ρ2 => rw [q] at s1; exact s1
  | bad => rw [q] at s1; exact s1
  | ok lo ρ2 =>
    rw [q] at s1
    rintro _ H2 st2 r2 rfl
    have s2 := SatL.shift s1 st2 st2.none
    refine ⟨O, ρ2, r2, ?_⟩
    dsimp only [bindR] at s2
    cases q3 : fh ρ2 with
    | err x ρ3 => rw [q3] at s2; exact s2
    | bad => rw [q3] at s2; exact s2
    | ok hi ρ3 =>
      rw [q3] at s2
      rintro _ H3 st3 r3 rfl
      have s3 := SatL.shift s2 st3 st3.none
      dsimp only at s3
      split at s3
      · rename_i ds hd
        obtain ⟨p, vs, rfl, sq, a1⟩ := RelE.lst ((RelE.mono e1 st2).mono st3) r3 hd
        exact ⟨p, vs, rfl, sq, fun p2 hp => s3 p2 _ (.same (same_upd hp)) hp (.mk' r3 hp (cut_dp a1 _ _))⟩
      · exact s3.elim
end
end DL

namespace DL
open L2 PySem PySem.Spec PyProof.Rows
open PySem.W (AlikeAll minD maxD minD_ints maxD_ints min_list_data min_tuple_data max_list_data max_tuple_data)

def intsOf : List D → Option (List Int)
  | [] => some []
  | .int i :: ds => (intsOf ds).map (i :: ·)
  | _ :: _ => none
theorem intsOf_eq : ∀ {ds : List D} {ns : List Int}, intsOf ds = some ns → ds = ns.map PyData.int
  | [], _, h => by cases h; rfl
  | .int i :: ds, ns, h => by
    rw [intsOf] at h
    cases q : intsOf ds with
    | none => rw [q] at h; cases h
    | some ms => rw [q] at h; cases h; rw [intsOf_eq q]; rfl
  | .none :: ds, ns, h => by cases h
  | .bool _ :: ds, ns, h => by cases h
  | .str _ :: ds, ns, h => by cases h
  | .list _ :: ds, ns, h => by cases h
  | .tuple _ :: ds, ns, h => by cases h
  | .dict _ :: ds, ns, h => by cases h
@[simp] theorem intsOf_map (ns : List Int) : intsOf (ns.map PyData.int) = some ns := by
  induction ns with
  | nil => rfl
  | cons n ns ih => show (intsOf (ns.map PyData.int)).map (n :: ·) = _; rw [ih]; rfl
section
variable {X : Cx}
/-- one argument -/
theorem one_arg {K : Frg} {O : Addr → Prop} {σ : L2.St} {ρ : DEnv} {H : Hp} {xs : List V} {vs : List EV} {d : D} (r : RelEnv K O σ H ρ) (e : RelEs K O σ ρ H xs vs) (hd : derefs ρ vs = some [d]) : ∃ u a, xs = [u] ∧ RelE K O σ ρ H u a ∧ deref ρ a = some d := by
  match xs, vs, e with
  | [], [], _ => cases hd
  | [u], [a], e =>
    refine ⟨u, a, rfl, e.1, ?_⟩
    unfold derefs at hd
    split at hd
    · rename_i d' q
      cases hd
      exact q
    · cases hd
  | u :: v :: us, a :: b :: as, e =>
    unfold derefs at hd
    split at hd
    · split at hd
      · rename_i ds q
        cases hd
        unfold derefs at q
        split at q
        · split at q
          · cases q
          · cases q
        · cases q
      · cases hd
    · cases hd
def kLen : List D → Option D
  | [.list ds] => some (.int ds.length)
  | [.tuple ds] => some (.int ds.length)
  | [.str z] => if z.length ≤ sizeLine then some (.int z.length) else none
  | _ => none
theorem c_len : CallR X (.builtin "len") (rDn X.K kLen) := by
  intro pins s σ H xs us Q I rs ⟨O, σ', ρ, vs, ds, z, r, e, hd, hk, q⟩
  unfold kLen at hk
  split at hk
  · cases hk
    obtain ⟨u, a, rfl, ea, hda⟩ := one_arg r e hd
    obtain ⟨p, ws, rfl, s1, a1⟩ := RelE.lst ea r hda
    exact call_len pins s σ H _ us Q I rs ⟨_, ws.length, rfl, .inl ⟨ws, s1, rfl⟩, q _ H (Same.refl _) (by rw [DL.DpAll.length a1]; exact .int _)⟩
  · cases hk
    obtain ⟨u, a, rfl, ea, hda⟩ := one_arg r e hd
    obtain ⟨p, ws, rfl, s1, a1⟩ := RelE.tup ea r hda
    exact call_len pins s σ H _ us Q I rs ⟨_, ws.length, rfl, .inr ⟨ws, SqT.mono Gv_sub s1, rfl⟩, q _ H (Same.refl _) (by rw [DL.DpAll.length a1]; exact .int _)⟩
  · split at hk
    · rename_i hz
      cases hk
      obtain ⟨u, a, rfl, ea, hda⟩ := one_arg r e hd
      cases RelE.str ea r hda
      exact call_len pins s σ H _ us Q I rs ⟨_, _, rfl, ⟨hz, rfl⟩, q _ H (Same.refl _) (.int _)⟩
    · cases hk
  · cases hk
def kInt : List D → Option D
  | [.int i] => some (.int i)
  | [.bool b] => some (.int (if b then 1 else 0))
  | _ => none
theorem c_int : CallR X (.type "int") (rDn X.K kInt) := by
  intro pins s σ H xs us Q I rs ⟨O, σ', ρ, vs, ds, z, r, e, hd, hk, q⟩
  unfold kInt at hk
  split at hk
  · cases hk
    obtain ⟨u, a, rfl, ea, hda⟩ := one_arg r e hd
    cases RelE.int ea r hda
    exact call_int1 pins s σ H _ us Q I rs (.inl ⟨_, rfl, q _ H (Same.refl _) (.int _)⟩)
  · cases hk
    obtain ⟨u, a, rfl, ea, hda⟩ := one_arg r e hd
    cases RelE.bl ea r hda
    exact call_int1 pins s σ H _ us Q I rs (.inr ⟨_, rfl, q _ H (Same.refl _) (.int _)⟩)
  · cases hk
def kAbs : List D → Option D
  | [.int i] => some (.int (if i < 0 then -i else i))
  | _ => none
theorem c_abs : CallR X (.builtin "abs") (rDn X.K kAbs) := by
  intro pins s σ H xs us Q I rs ⟨O, σ', ρ, vs, ds, z, r, e, hd, hk, q⟩
  unfold kAbs at hk
  split at hk
  · cases hk
    obtain ⟨u, a, rfl, ea, hda⟩ := one_arg r e hd
    cases RelE.int ea r hda
    exact call_abs pins s σ H _ us Q I rs ⟨_, rfl, q _ H (Same.refl _) (.int _)⟩
  · cases hk

/-- a sequence as it stands in the heap -/
theorem seq_at {pins : List (Addr × Obj)} {s : Shared} {σ : L2.St} {H : Hp} {O : Addr → Prop} {σ' : L2.St} {ρ : DEnv} {u : V} {v : Value} {a : EV} {d : D} {ds : List D} (I : Inv X pins σ H s) (r : RelEnv X.K O σ' H ρ) (ea : RelE X.K O σ' ρ H u a) (hd : deref ρ a = some d) (hi : itemsD d = some ds) (rv : RelV u v) :
    ∃ (p : Addr) (ws : List V) (its : List Value) (bs : List Addr), u = .ref p ∧ v = .ref p ∧ Vals ws its ∧ DpAll X.K (Gv O σ' ρ H) ws ds ∧ ReadsAll s.heap its ds bs ∧ ws.length ≤ sizeLine ∧ ((d = .list ds ∧ s.heap.IsList p its.toArray ∧ SqL X.K H p ws) ∨ (d = .tuple ds ∧ s.heap.IsTuple p its.toArray ∧ SqT X.K H p ws)) := by
  cases d with
  | list xs =>
    cases hi
    obtain ⟨p, ws, rfl, s1, a1⟩ := RelE.lst ea r hd
    cases rv
    obtain ⟨its, r1, ⟨o, n, h1, h2, h3, h4⟩, z1⟩ := I.list s1
    obtain ⟨bs, hb⟩ := Dp.readsAll I ds ws its (dpAll_mono Gv_sub _ _ a1) r1
    exact ⟨p, ws, its, bs, rfl, rfl, r1, a1, hb, z1, .inl ⟨rfl, ⟨o, h1, h2, n, h4⟩, s1⟩⟩
  | tuple xs =>
    cases hi
    obtain ⟨p, ws, rfl, s1, a1⟩ := RelE.tup ea r hd
    cases rv
    obtain ⟨its, r1, ⟨o, h1, h2, n, h4⟩, z1⟩ := I.tuple (SqT.mono Gv_sub s1)
    obtain ⟨bs, hb⟩ := Dp.readsAll I ds ws its (dpAll_mono Gv_sub _ _ a1) r1
    exact ⟨p, ws, its, bs, rfl, rfl, r1, a1, hb, z1, .inr ⟨rfl, ⟨o, h1, h2, n, h4⟩, SqT.mono Gv_sub s1⟩⟩
  | none => cases hi
  | bool _ => cases hi
  | int _ => cases hi
  | str _ => cases hi
  | dict _ => cases hi
theorem depthInts : ∀ (ns : List Int), PyData.depthAll (ns.map PyData.int) = 0 := by
  intro ns
  induction ns with
  | nil => rfl
  | cons n ns ih => simp [PyData.depthAll, PyData.depth, ih]
theorem alikeInts (ns : List Int) : AlikeAll (ns.map PyData.int) := by
  refine ⟨fun x hx y hy => ?_, fun x hx => ?_⟩
  · obtain ⟨i, _, rfl⟩ := List.mem_map.mp hx
    obtain ⟨j, _, rfl⟩ := List.mem_map.mp hy
    rfl
  · obtain ⟨i, _, rfl⟩ := List.mem_map.mp hx
    exact fun z => nomatch z
def kMin : List D → Option D
  | [d] => match itemsD d with
    | some ds => match intsOf ds with
      | some (n :: ns) => some (.int (ns.foldl min n))
      | _ => none
    | none => none
  | _ => none
def kMax : List D → Option D
  | [d] => match itemsD d with
    | some ds => match intsOf ds with
      | some (n :: ns) => some (.int (ns.foldl max n))
      | _ => none
    | none => none
  | _ => none
theorem c_min (hc : X.calm = true) (hu : X.A.units + 200 < cLine) : CallR X (.builtin "min") (rDn X.K kMin) := by
  intro pins s σ H xs us Q I rs ⟨O, σ', ρ, vs, ds, z, r, e, hd, hk, q⟩
  unfold kMin at hk
  split at hk
  case h_2 => cases hk
  rename_i d
  split at hk
  case h_2 => cases hk
  rename_i l hi
  split at hk
  case h_2 => cases hk
  rename_i n ns hn
  cases hk
  obtain ⟨u, a, rfl, ea, hda⟩ := one_arg r e hd
  obtain ⟨v, rfl, rv⟩ := vals1 rs
  obtain ⟨p, ws, its, bs, rfl, rfl, rw', a1, hb, z1, h⟩ := seq_at I r ea hda hi rv
  have hl := intsOf_eq hn
  subst hl
  have hh := I.ok.hd hc
  have fin : ∀ (i : Nat) (v : Value) (h' : Heap) (tk : Nat) (bs : List Addr), its.toArray[i]? = some v → Reads h' v (minD (.int n) (ns.map .int)) bs → (∀ b o, s.heap.get? b = some o → h'.get? b = some o) → EP X pins σ Q v { s with heap := h', toks := tk } := fun i v h' tk bs hv rd hk => by
    rw [minD_ints] at rd
    cases rd
    exact ⟨.int _, H, I.kept (t' := tk) hk, ⟨_, rfl⟩, q _ H (Same.refl _) (.int _)⟩
  have hdp : X.A.units + 1 + PyData.depthAll (PyData.int n :: ns.map PyData.int) < cLine := by
    have := depthInts (n :: ns)
    rw [List.map_cons] at this
    omega
  rcases h with ⟨rfl, h, _⟩ | ⟨rfl, h, _⟩
  · exact min_list_data hh h hb (alikeInts (n :: ns)) hdp fin
  · exact min_tuple_data hh h hb (alikeInts (n :: ns)) hdp fin
theorem c_max (hc : X.calm = true) (hu : X.A.units + 200 < cLine) : CallR X (.builtin "max") (rDn X.K kMax) := by
  intro pins s σ H xs us Q I rs ⟨O, σ', ρ, vs, ds, z, r, e, hd, hk, q⟩
  unfold kMax at hk
  split at hk
  case h_2 => cases hk
  rename_i d
  split at hk
  case h_2 => cases hk
  rename_i l hi
  split at hk
  case h_2 => cases hk
  rename_i n ns hn
  cases hk
  obtain ⟨u, a, rfl, ea, hda⟩ := one_arg r e hd
  obtain ⟨v, rfl, rv⟩ := vals1 rs
  obtain ⟨p, ws, its, bs, rfl, rfl, rw', a1, hb, z1, h⟩ := seq_at I r ea hda hi rv
  have hl := intsOf_eq hn
  subst hl
  have hh := I.ok.hd hc
  have fin : ∀ (i : Nat) (v : Value) (h' : Heap) (tk : Nat) (bs : List Addr), its.toArray[i]? = some v → Reads h' v (maxD (.int n) (ns.map .int)) bs → (∀ b o, s.heap.get? b = some o → h'.get? b = some o) → EP X pins σ Q v { s with heap := h', toks := tk } := fun i v h' tk bs hv rd hk => by
    rw [maxD_ints] at rd
    cases rd
    exact ⟨.int _, H, I.kept (t' := tk) hk, ⟨_, rfl⟩, q _ H (Same.refl _) (.int _)⟩
  have hdp : X.A.units + 1 + PyData.depthAll (PyData.int n :: ns.map PyData.int) < cLine := by
    have := depthInts (n :: ns)
    rw [List.map_cons] at this
    omega
  rcases h with ⟨rfl, h, _⟩ | ⟨rfl, h, _⟩
  · exact max_list_data hh h hb (alikeInts (n :: ns)) hdp fin
  · exact max_tuple_data hh h hb (alikeInts (n :: ns)) hdp fin
end
end DL

namespace DL
open L2 PySem PySem.Spec PyProof.Rows
section
variable {X : Cx}
def kSum : List D → Option D
  | [d] => match itemsD d with
    | some ds => match intsOf ds with
      | some ns => some (.int ns.sum)
      | none => none
    | none => none
  | _ => none
theorem sum_tup {prog : Program} {w : World} {A : Around} {E : Value → Shared → Prop} {s : Shared} {t : Addr} {its : List Value} {ns : List Int} {Q : Value → Shared → Prop} (hh : A.handled = none) (ht : s.heap.IsTuple t its.toArray) (hi : IntsAre its ns)
    (h : ∀ h' tk t', (∀ b o, s.heap.get? b = some o → h'.get? b = some o) → Q (.int ns.sum t') { s with heap := h', toks := tk }) : wpAny (model prog w) A (call (.builtin "sum") [.ref t]) Q E s := by
  obtain ⟨xs, hx⟩ := hi.allInts.items
  have hn : numsOf (intItems xs).toList = ns := by rw [← hx]; simpa using hi.numsOf
  rw [nums_intItems] at hn
  rw [hx] at ht
  refine PySem.W.ktm_sumG hh ht fun h' tk t' hk => ?_
  have z := h h' tk t' hk
  rw [preSum_eq, List.take_of_length_le (by simp), hn]
  exact z
theorem c_sum (hc : X.calm = true) : CallR X (.builtin "sum") (rDn X.K kSum) := by
  intro pins s σ H xs us Q I rs ⟨O, σ', ρ, vs, ds, z, r, e, hd, hk, q⟩
  unfold kSum at hk
  split at hk
  case h_2 => cases hk
  rename_i d
  split at hk
  case h_2 => cases hk
  rename_i l hi
  split at hk
  case h_2 => cases hk
  rename_i ns hn
  cases hk
  obtain ⟨u, a, rfl, ea, hda⟩ := one_arg r e hd
  obtain ⟨v, rfl, rv⟩ := vals1 rs
  obtain ⟨p, ws, its, bs, rfl, rfl, rw', a1, hb, z1, h⟩ := seq_at I r ea hda hi rv
  have hl := intsOf_eq hn
  subst hl
  have hw := DL.DpAll.ints a1
  subst hw
  have hh := I.ok.hd hc
  rcases h with ⟨rfl, h, _⟩ | ⟨rfl, h, _⟩
  · exact sum_raw hh h rw'.ints fun h' tk t' hk => ⟨.int _, H, I.kept (t' := tk) hk, ⟨_, rfl⟩, q _ H (Same.refl _) (.int _)⟩
  · exact sum_tup hh h rw'.ints fun h' tk t' hk => ⟨.int _, H, I.kept (t' := tk) hk, ⟨_, rfl⟩, q _ H (Same.refl _) (.int _)⟩
/-- the truth of flat items -/
def truF : D → Option Bool
  | .none => some false
  | .bool b => some b
  | .int i => some (i != 0)
  | _ => none
def trusF : List D → Option (List Bool)
  | [] => some []
  | d :: ds => match truF d with
    | some b => (trusF ds).map (b :: ·)
    | none => none
theorem trusF_ok : ∀ {ds : List D} {bs : List Bool}, trusF ds = some bs → PyData.plainAll ds = true ∧ (∀ x ∈ ds, x.fits63) ∧ ds.map PyData.truthy = bs
  | [], bs, h => by cases h; exact ⟨rfl, (fun _ h => nomatch h), rfl⟩
  | d :: ds, bs, h => by
    rw [trusF] at h
    cases hb : truF d with
    | none => rw [hb] at h; cases h
    | some b =>
      rw [hb] at h
      dsimp only at h
      cases hs : trusF ds with
      | none => rw [hs] at h; cases h
      | some cs =>
        rw [hs] at h
        cases h
        obtain ⟨h1, h2, h3⟩ := trusF_ok hs
        cases d with
        | none => cases hb; exact ⟨by simpa [PyData.plainAll, PyData.plain] using h1, fun x hx => (List.mem_cons.mp hx).elim (fun z => by subst z; trivial) (h2 x), by simp [PyData.truthy, h3]⟩
        | bool c => cases hb; exact ⟨by simpa [PyData.plainAll, PyData.plain] using h1, fun x hx => (List.mem_cons.mp hx).elim (fun z => by subst z; trivial) (h2 x), by simp [PyData.truthy, h3]⟩
        | int i => cases hb; exact ⟨by simpa [PyData.plainAll, PyData.plain] using h1, fun x hx => (List.mem_cons.mp hx).elim (fun z => by subst z; trivial) (h2 x), by simp [PyData.truthy, h3]⟩
        | str _ => cases hb
        | list _ => cases hb
        | tuple _ => cases hb
        | dict _ => cases hb
def kAny : List D → Option D
  | [d] => match itemsD d with
    | some ds => (trusF ds).map fun bs => .bool (bs.any id)
    | none => none
  | _ => none
def kAll : List D → Option D
  | [d] => match itemsD d with
    | some ds => (trusF ds).map fun bs => .bool (bs.all id)
    | none => none
  | _ => none
theorem c_any (hc : X.calm = true) : CallR X (.builtin "any") (rDn X.K kAny) := by
  intro pins s σ H xs us Q I rs ⟨O, σ', ρ, vs, ds, z, r, e, hd, hk, q⟩
  unfold kAny at hk
  split at hk
  case h_2 => cases hk
  rename_i d
  split at hk
  case h_2 => cases hk
  rename_i l hi
  cases hn : trusF l with
  | none => rw [hn] at hk; cases hk
  | some bs =>
    rw [hn] at hk
    cases hk
    obtain ⟨u, a, rfl, ea, hda⟩ := one_arg r e hd
    obtain ⟨v, rfl, rv⟩ := vals1 rs
    obtain ⟨p, ws, its, as, rfl, rfl, rw', a1, hb, z1, h⟩ := seq_at I r ea hda hi rv
    obtain ⟨h1, h2, rfl⟩ := trusF_ok hn
    have hh := I.ok.hd hc
    have fin : ∀ (h' : Heap) (tk : Nat), (∀ b o, s.heap.get? b = some o → h'.get? b = some o) → EP X pins σ Q (.bool (l.any PyData.truthy)) { s with heap := h', toks := tk } := fun h' tk hk =>
      ⟨.bl _, H, I.kept (t' := tk) hk, rfl, q _ H (Same.refl _) (by show Dp _ _ _ (.bool ((l.map _).any id)); rw [List.any_map]; exact .bl _)⟩
    rcases h with ⟨rfl, h, _⟩ | ⟨rfl, h, _⟩
    · exact PySem.W.any_list_data hh h hb h1 h2 fin
    · exact PySem.W.any_tuple_data hh h hb h1 h2 fin
theorem c_all (hc : X.calm = true) : CallR X (.builtin "all") (rDn X.K kAll) := by
  intro pins s σ H xs us Q I rs ⟨O, σ', ρ, vs, ds, z, r, e, hd, hk, q⟩
  unfold kAll at hk
  split at hk
  case h_2 => cases hk
  rename_i d
  split at hk
  case h_2 => cases hk
  rename_i l hi
  cases hn : trusF l with
  | none => rw [hn] at hk; cases hk
  | some bs =>
    rw [hn] at hk
    cases hk
    obtain ⟨u, a, rfl, ea, hda⟩ := one_arg r e hd
    obtain ⟨v, rfl, rv⟩ := vals1 rs
    obtain ⟨p, ws, its, as, rfl, rfl, rw', a1, hb, z1, h⟩ := seq_at I r ea hda hi rv
    obtain ⟨h1, h2, rfl⟩ := trusF_ok hn
    have hh := I.ok.hd hc
    have fin : ∀ (h' : Heap) (tk : Nat), (∀ b o, s.heap.get? b = some o → h'.get? b = some o) → EP X pins σ Q (.bool (l.all PyData.truthy)) { s with heap := h', toks := tk } := fun h' tk hk =>
      ⟨.bl _, H, I.kept (t' := tk) hk, rfl, q _ H (Same.refl _) (by show Dp _ _ _ (.bool ((l.map _).all id)); rw [List.all_map]; exact .bl _)⟩
    rcases h with ⟨rfl, h, _⟩ | ⟨rfl, h, _⟩
    · exact PySem.W.all_list_data hh h hb h1 h2 fin
    · exact PySem.W.all_tuple_data hh h hb h1 h2 fin

/-! ### tuple(x), list(x) -/
def kTuple : List D → Option D
  | [.list ds] => some (.tuple ds)
  | [.tuple ds] => some (.tuple ds)
  | _ => none
theorem c_tuple : CallR X (.type "tuple") (rDn X.K kTuple) := by
  intro pins s σ H xs us Q I rs ⟨O, σ', ρ, vs, ds, z, r, e, hd, hk, q⟩
  unfold kTuple at hk
  split at hk
  · cases hk
    obtain ⟨u, a, rfl, ea, hda⟩ := one_arg r e hd
    obtain ⟨p, ws, rfl, s1, a1⟩ := RelE.lst ea r hda
    refine call_tuple_of pins s σ H _ us Q I rs ⟨p, ws, rfl, .inl ⟨s1, fun l hl => ?_⟩⟩
    obtain ⟨m1, m2⟩ := dp_new r hl a1
    exact q _ _ m1 m2
  · cases hk
    obtain ⟨u, a, rfl, ea, hda⟩ := one_arg r e hd
    obtain ⟨p, ws, rfl, s1, a1⟩ := RelE.tup ea r hda
    exact call_tuple_of pins s σ H _ us Q I rs ⟨p, ws, rfl, .inr ⟨SqT.mono Gv_sub s1, q _ H (Same.refl _) (.tup s1 a1)⟩⟩
  · cases hk
def kList : List D → Option (List D)
  | [.list ds] => some ds
  | [.tuple ds] => some ds
  | _ => none
theorem c_list : CallR X (.type "list") (rDnL X.K kList) := by
  intro pins s σ H xs us Q I rs ⟨O, σ', ρ, vs, ds, z, r, e, hd, hk, q⟩
  unfold kList at hk
  split at hk
  · cases hk
    obtain ⟨u, a, rfl, ea, hda⟩ := one_arg r e hd
    obtain ⟨p, ws, rfl, s1, a1⟩ := RelE.lst ea r hda
    exact call_list_of pins s σ H _ us Q I rs ⟨p, ws, rfl, .inl s1, fun l hl => q l ws hl a1⟩
  · cases hk
    obtain ⟨u, a, rfl, ea, hda⟩ := one_arg r e hd
    obtain ⟨p, ws, rfl, s1, a1⟩ := RelE.tup ea r hda
    exact call_list_of pins s σ H _ us Q I rs ⟨p, ws, rfl, .inr (SqT.mono Gv_sub s1), fun l hl => q l ws hl a1⟩
  · cases hk
def kGcd : List D → Option D
  | [.int i, .int j] => some (.int (Nat.gcd i.natAbs j.natAbs : Nat))
  | _ => none
theorem two_args {K : Frg} {O : Addr → Prop} {σ : L2.St} {ρ : DEnv} {H : Hp} {xs : List V} {vs : List EV} {d d2 : D} (r : RelEnv K O σ H ρ) (e : RelEs K O σ ρ H xs vs) (hd : derefs ρ vs = some [d, d2]) : ∃ u a u2 a2, xs = [u, u2] ∧ RelE K O σ ρ H u a ∧ deref ρ a = some d ∧ RelE K O σ ρ H u2 a2 ∧ deref ρ a2 = some d2 := by
  match xs, vs, e with
  | [], [], _ => cases hd
  | u :: us, a :: as, e =>
    unfold derefs at hd
    split at hd
    · rename_i d' q
      split at hd
      · rename_i ds' q2
        cases hd
        obtain ⟨u2, a2, rfl, h1, h2⟩ := one_arg r e.2 q2
        exact ⟨u, a, u2, a2, rfl, e.1, q, h1, h2⟩
      · cases hd
    · cases hd
theorem c_gcd : CallR X (.builtin "math.gcd") (rDn X.K kGcd) := by
  intro pins s σ H xs us Q I rs ⟨O, σ', ρ, vs, ds, z, r, e, hd, hk, q⟩
  unfold kGcd at hk
  split at hk
  · cases hk
    obtain ⟨u, a, u2, a2, rfl, ea, hda, ea2, hda2⟩ := two_args r e hd
    cases RelE.int ea r hda
    cases RelE.int ea2 r hda2
    exact cr_gcd pins s σ H _ us Q I rs ⟨_, _, rfl, q _ H (Same.refl _) (.int _)⟩
  · cases hk

/-! ### repr -/
def kRepr : List D → Option D
  | [d] => if d.showable = true ∧ d.hasDict = false ∧ d.depth ≤ 64 ∧ d.shown.length ≤ sizeLine then some (.str d.shown) else none
  | _ => none
theorem c_repr (hg : X.A.guards = some []) (hu : X.A.units + 200 < cLine) : CallR X (.builtin "repr") (rDn X.K kRepr) := by
  intro pins s σ H xs us Q I rs ⟨O, σ', ρ, vs, ds, z, r, e, hd, hk, q⟩
  unfold kRepr at hk
  split at hk
  case h_2 => cases hk
  rename_i d
  split at hk
  case isFalse => cases hk
  rename_i hz
  cases hk
  obtain ⟨u, a, rfl, ea, hda⟩ := one_arg r e hd
  obtain ⟨v, rfl, rv⟩ := vals1 rs
  have dp := ea.dp r hda
  obtain ⟨as, rd⟩ := Dp.reads I d u v dp rv
  cases d with
  | none => cases dp; cases rv; exact PySem.P.repr_of_none ⟨.str _, H, I.tok _, ⟨_, rfl⟩, q _ H (Same.refl _) (.str _)⟩
  | bool b => cases dp; cases rv; exact PySem.P.repr_of_bool ⟨.str _, H, I.tok _, ⟨_, rfl⟩, q _ H (Same.refl _) (.str _)⟩
  | int i =>
    cases dp
    obtain ⟨t, rfl⟩ := rv
    exact PySem.P.repr_of_int (of_decide_eq_true hz.1) ⟨.str _, H, I.tok _, ⟨_, rfl⟩, q _ H (Same.refl _) (.str _)⟩
  | str x =>
    cases dp
    obtain ⟨t, rfl⟩ := rv
    exact PySem.P.repr_of_str ⟨.str _, H, I.tok _, ⟨_, rfl⟩, q _ H (Same.refl _) (.str _)⟩ hz.2.2.2
  | list l =>
    cases dp with
    | lst s1 a1 =>
      cases rv
      exact repr_of_reads' rd hz.1 (fun h => by rw [hz.2.1] at h; cases h) hg (by have := hz.2.2.1; omega) (fun _ _ e => e) (fun h' u' tk hk => ⟨.str _, H, I.kept (t' := tk) hk, ⟨_, rfl⟩, q _ H (Same.refl _) (.str _)⟩) hz.2.2.2
  | tuple l =>
    cases dp with
    | tup s1 a1 =>
      cases rv
      exact repr_of_reads' rd hz.1 (fun h => by rw [hz.2.1] at h; cases h) hg (by have := hz.2.2.1; omega) (fun _ _ e => e) (fun h' u' tk hk => ⟨.str _, H, I.kept (t' := tk) hk, ⟨_, rfl⟩, q _ H (Same.refl _) (.str _)⟩) hz.2.2.2
  | dict _ => cases dp
variable {W : WX}
/-- f(e, ..), f a module's name of a built-in -/
theorem de_cbg {x : Str} {p pos : Pos} {e : Expr} {es : List Expr} {g : DEnv → Res (List EV)} {id : String} {k : List D → Option D} (hc : CallR X (.builtin id) (rDn X.K k)) (hm : X.mg x = some (.builtin id)) (ha : DA X W (e :: es) g) (hg : Gl X x := by rfl) (hdb : (x == ("__debug__" : Str)) = false := by decide)
    (he : starEach (e :: es) X.env = (false, eval e X.env) :: starEach es X.env := by rfl) (hpl : (backTo pos (starEach es X.env)).any (·.1) = false := by rfl) : DE X W (.Call (.Name x p) (e :: es) [] pos) (xCB k g) :=
  ⟨pe_imp (pe_callBfun hc hg hm ha.pa hdb he hpl) fun _ _ _ h => cb_core h⟩
end
end DL

namespace DL
open L2 PySem PySem.Spec PyProof.Rows

section
variable {K : Frg} {O : Addr → Prop} {σ : L2.St} {ρ : DEnv} {H : Hp}
theorem ow_put {i : Nat} {b : Bool} {c c' : Cell} (e : ρ[i]? = some (some (.own b c))) (x : Addr) : Ow σ (ρ.set i (some (.own b c'))) x ↔ Ow σ ρ x := by
  have hi : i < ρ.length := (List.getElem?_eq_some_iff.mp e).1
  constructor
  · rintro ⟨j, b2, c2, e1, e2⟩
    by_cases hj : i = j
    · subst hj; exact ⟨i, b, c, e, e2⟩
    · rw [List.getElem?_set_ne hj] at e1; exact ⟨j, b2, c2, e1, e2⟩
  · rintro ⟨j, b2, c2, e1, e2⟩
    by_cases hj : i = j
    · subst hj; exact ⟨i, b, c', List.getElem?_set_self hi, e2⟩
    · exact ⟨j, b2, c2, by rw [List.getElem?_set_ne hj]; exact e1, e2⟩
/-- what a name owns is changed in its place; nothing else that stood there is -/
theorem put_gen {i : Nat} {b : Bool} {c c' : Cell} {a : Addr} {H' : Hp} (r : RelEnv K O σ H ρ) (e : ρ[i]? = some (some (.own b c))) (hs : σ[i]? = some (some (.ref a))) (ext : ∀ x o, H x = some o → x ≠ a → H' x = some o) (al : ∀ x, H x ≠ none → H' x ≠ none)
    (hc : CellOk K (Gv O σ (ρ.set i (some (.own b c'))) H') H' a c') :
    RelEnv K O σ H' (ρ.set i (some (.own b c'))) ∧ EStp σ ρ H (ρ.set i (some (.own b c'))) H' := by
  have hi : i < ρ.length := (List.getElem?_eq_some_iff.mp e).1
  have st : EStp σ ρ H (ρ.set i (some (.own b c'))) H' := by
    refine ⟨fun x u h n => ext x u h fun z => n ⟨i, b, c, e, by rw [z]; exact hs⟩, al, fun x h => (ow_put e x).mp h, fun j c2 h => ?_⟩
    by_cases hj : i = j
    · subst hj
      rw [e] at h
      cases h
      exact ⟨c', List.getElem?_set_self hi⟩
    · exact ⟨c2, by rw [List.getElem?_set_ne hj]; exact h⟩
  have gv := st.gv (O := O)
  refine ⟨⟨by rw [List.length_set]; exact r.len, fun x hx => al x (r.oa x hx), fun j d h => ?_, fun j b2 c2 h => ?_, fun j k x b2 c2 b3 c3 h1 h2 h3 h4 => ?_, fun j x h => ?_⟩, st⟩
  · have hj : i ≠ j := by rintro rfl; rw [List.getElem?_set_self hi] at h; cases h
    rw [List.getElem?_set_ne hj] at h
    obtain ⟨v, h1, h2⟩ := r.val j d h
    exact ⟨v, h1, dp_mono gv _ _ h2⟩
  · by_cases hj : i = j
    · subst hj
      rw [List.getElem?_set_self hi] at h
      cases h
      obtain ⟨a', h1, h2, h3⟩ := r.own i b c e
      rw [hs] at h1
      cases h1
      exact ⟨a, hs, h2, hc⟩
    · rw [List.getElem?_set_ne hj] at h
      obtain ⟨a', h1, h2, h3⟩ := r.own j b2 c2 h
      have n : a' ≠ a := fun z => hj (r.inj i j a _ _ _ _ e h hs (by rw [← z]; exact h1))
      exact ⟨a', h1, h2, h3.mono gv fun u q => ext _ _ q n⟩
  · have key : ∀ {m : Nat} {b0 : Bool} {c0 : Cell}, (ρ.set i (some (.own b c')))[m]? = some (some (.own b0 c0)) → ∃ b1 c1, ρ[m]? = some (some (.own b1 c1)) := by
      intro m b0 c0 q
      by_cases hm : i = m
      · subst hm; exact ⟨b, c, e⟩
      · rw [List.getElem?_set_ne hm] at q; exact ⟨b0, c0, q⟩
    obtain ⟨_, _, k1⟩ := key h1
    obtain ⟨_, _, k2⟩ := key h2
    exact r.inj j k x _ _ _ _ k1 k2 h3 h4
  · have hj : i ≠ j := by rintro rfl; rw [List.getElem?_set_self hi] at h; cases h
    rw [List.getElem?_set_ne hj] at h
    exact r.raw j x h
theorem gv_put {i : Nat} {b : Bool} {c c' : Cell} {a : Addr} {o : HO} (e : ρ[i]? = some (some (.own b c))) (hs : σ[i]? = some (some (.ref a))) : ∀ x u, Gv O σ ρ H x = some u → Gv O σ (ρ.set i (some (.own b c'))) (upd H a o) x = some u := fun x u h => by
  obtain ⟨h1, h2, h3⟩ := of_Gv h
  have n : x ≠ a := fun z => h2 ⟨i, b, c, e, by rw [z]; exact hs⟩
  exact Gv_of h1 (fun q => h2 ((ow_put e x).mp q)) (by rw [upd_ne n]; exact h3)
theorem put_own {i : Nat} {b : Bool} {c c' : Cell} {a : Addr} {o : HO} (r : RelEnv K O σ H ρ) (e : ρ[i]? = some (some (.own b c))) (hs : σ[i]? = some (some (.ref a))) (hc : CellOk K (Gv O σ ρ H) (upd H a o) a c') :
    RelEnv K O σ (upd H a o) (ρ.set i (some (.own b c'))) ∧ EStp σ ρ H (ρ.set i (some (.own b c'))) (upd H a o) :=
  put_gen r e hs (fun x u h n => by rw [upd_ne n]; exact h) (fun x hx => by
    by_cases z : x = a
    · rw [z, upd_same]; exact fun z => nomatch z
    · rw [upd_ne z]; exact hx) (hc.mono (gv_put e hs) fun _ q => q)
end

/-! ### methods of a name's own list -/
/-- x.m(e, ..): upd_ tells the new list and the value from the old list and the arguments -/
def xM (i : Nat) (m : List D → List D → Option (D × List D)) (g : DEnv → Res (List EV)) : DX := fun ρ => match ρ[i]? with
  | some (some (.own _ (.lst _))) => bindR (g ρ) fun vs ρ1 => optR (keeps vs ρ1) fun p => match p.2[i]? with
    | some (some (.own b (.lst ds))) => optR (m ds p.1) fun q => .ok (.val q.1) (p.2.set i (some (.own b (.lst q.2))))
    | _ => .bad
  | _ => .bad
/-- what a method of a list is worth -/
def MOk (X : Cx) (id : String) (m : List D → List D → Option (D × List D)) : Prop :=
  ∃ r, MtR X id r ∧ ∀ (G H : Hp) (l : Addr) (xs args : List V) (ds as : List D) (z : D) (ds' : List D) (Q : VK), H l = some (.lst xs) → DpAll X.K G xs ds → DpAll X.K G args as → m ds as = some (z, ds') →
    (∀ u xs', Dp X.K G u z → DpAll X.K G xs' ds' → Q u (upd H l (.lst xs'))) → r (.ref l) args H Q
section
variable {X : Cx} {W : WX} {i : Nat} {e : Expr} {es : List Expr} {o : Expr} {apos cpos : Pos} {name : Str} {id : String} {m : List D → List D → Option (D × List D)}
theorem meth_core {r : V → List V → Hp → VK → Prop} {g : DEnv → Res (List EV)} {σ : L2.St} {H : Hp} {Q : VK} (hm : ∀ (G H : Hp) (l : Addr) (xs args : List V) (ds as : List D) (z : D) (ds' : List D) (Q : VK), H l = some (.lst xs) → DpAll X.K G xs ds → DpAll X.K G args as → m ds as = some (z, ds') →
    (∀ u xs', Dp X.K G u z → DpAll X.K G xs' ds' → Q u (upd H l (.lst xs'))) → r (.ref l) args H Q) (h : tDX X.K X.mg W (xM i m g) σ H Q) : tBM X.K "list" r (tVar i) (tDA X.K X.mg W g) σ H Q := by
  obtain ⟨O, ρ, rr, s⟩ := h
  unfold xM at s
  split at s
  case h_2 => exact s.elim
  rename_i b ds0 e0
  obtain ⟨a, h1, h2, vs0, h3, h4⟩ := rr.own i _ _ e0
  refine ⟨_, h1, .inl ⟨rfl, vs0, SqL.of h3⟩, O, ρ, rr, (Sat.bind s).imp fun us H1 ⟨vs, ρ1, r1, e1, s1⟩ => ?_⟩
  obtain ⟨⟨as, ρ2⟩, hk, s2⟩ := optR_sat s1
  obtain ⟨r2, st2, ha⟩ := keeps_ok r1 e1 hk
  dsimp only at s2
  split at s2
  case h_2 => exact s2.elim
  rename_i b2 ds e2
  obtain ⟨⟨z, ds'⟩, hz, s3⟩ := optR_sat s2
  obtain ⟨a2, k1, k2, xs, k3, k4⟩ := r2.own i _ _ e2
  rw [h1] at k1
  cases k1
  refine hm (Gv O σ ρ2 H1) H1 a xs us ds as z ds' Q k3 k4 ha hz fun u xs' hu hx => ?_
  obtain ⟨r3, st3⟩ := put_own (c' := .lst ds') (o := .lst xs') r2 e2 h1 ⟨xs', upd_same, hx⟩
  exact s3 u _ (st2.trans st3) r3 (dp_mono (gv_put e2 h1) _ _ hu)
theorem de_m (ho : PE X o (tVar i)) (slot : Slot "list" name id) (hty : typeOf (.builtin id) = pure (.type "method_descriptor")) (hm : MOk X id m) {g : DEnv → Res (List EV)} (ha : DA X W (e :: es) g)
    (hbase : attributeBase o name X.env (eval o X.env) = eval o X.env := by rfl)
    (hfew : ((backTo cpos (starEach (e :: es) X.env)).all (fun x => !x.1) && (backToKw cpos (keywordEach [] X.env)).all (fun x => x.1.isSome)
      && decide ((e :: es).length + ([] : List Keyword).length + (if ([] : List Keyword).isEmpty then 0 else 1) < 30)) = true := by rfl)
    (hline : (apos.endLine == cpos.line) = true := by rfl) (hs : starEach (e :: es) X.env = (false, eval e X.env) :: starEach es X.env := by rfl) (hplain : (backTo cpos (starEach es X.env)).any (·.1) = false := by rfl) :
    DE X W (.Call (.Attribute o name apos) (e :: es) [] cpos) (xM i m g) := by
  obtain ⟨r, h1, h2⟩ := hm
  exact ⟨pe_imp (pe_bm PySem.F.plainAttrs_list slot hty h1 ho ha.pa hbase hfew hline hs hplain) fun _ _ _ h => meth_core h2 h⟩
theorem de_m0 (ho : PE X o (tVar i)) (slot : Slot "list" name id) (hty : typeOf (.builtin id) = pure (.type "method_descriptor")) (hm : MOk X id m)
    (hbase : attributeBase o name X.env (eval o X.env) = eval o X.env := by rfl) (hline : (apos.endLine == cpos.line) = true := by rfl) : DE X W (.Call (.Attribute o name apos) [] [] cpos) (xM i m aNil) := by
  obtain ⟨r, h1, h2⟩ := hm
  refine ⟨pe_imp (pe_bm0 PySem.F.plainAttrs_list slot hty h1 ho hbase hline) fun σ H Q h => ?_⟩
  obtain ⟨v, k1, k2, O, ρ, r1, s⟩ := meth_core h2 h
  exact ⟨v, k1, k2, s [] H .refl r1 trivial⟩

/-! ### the methods -/
def mAppend : List D → List D → Option (D × List D) := fun ds as => match as with
  | [d] => if ds.length < sizeLine then some (.none, ds ++ [d]) else none
  | _ => none
theorem m_append : MOk X "list.append" mAppend := by
  refine ⟨rAppend, mt_append, fun G H l xs args ds as z ds' Q hl hx ha hz q => ?_⟩
  unfold mAppend at hz
  split at hz
  · rename_i d
    split at hz
    · rename_i hlen
      cases hz
      cases ha with
      | cons h1 h2 =>
        cases h2
        exact ⟨l, xs, _, rfl, rfl, hl, by rw [DL.DpAll.length hx]; exact hlen, q _ _ .non (DL.DpAll.append hx (.cons h1 .nil))⟩
    · cases hz
  · cases hz
def mPop : List D → List D → Option (D × List D) := fun ds as => match as with
  | [] => match ds.getLast? with
    | some d => some (d, ds.dropLast)
    | none => none
  | _ => none
theorem DpAll.dropLast {K : Frg} {G : Hp} {vs : List V} {ds : List D} (a : DpAll K G vs ds) : DpAll K G vs.dropLast ds.dropLast := by
  rw [List.dropLast_eq_take, List.dropLast_eq_take, DL.DpAll.length a]
  exact DL.DpAll.take _ a
theorem m_pop : MOk X "list.pop" mPop := by
  refine ⟨rPop, mt_pop, fun G H l xs args ds as z ds' Q hl hx ha hz q => ?_⟩
  unfold mPop at hz
  split at hz
  · split at hz
    · rename_i d hd
      cases hz
      cases ha
      rw [List.getLast?_eq_getElem?] at hd
      obtain ⟨v, h1, h2⟩ := DL.DpAll.at hx hd
      exact ⟨l, xs, v, rfl, rfl, hl, by rw [DL.DpAll.length hx]; exact h1, q _ _ h2 (DpAll.dropLast hx)⟩
    · cases hz
  · cases hz
def mReverse : List D → List D → Option (D × List D) := fun ds as => match as with
  | [] => some (.none, ds.reverse)
  | _ => none
theorem m_reverse : MOk X "list.reverse" mReverse := by
  refine ⟨rReverse, mt_reverse, fun G H l xs args ds as z ds' Q hl hx ha hz q => ?_⟩
  unfold mReverse at hz
  split at hz
  · cases hz
    cases ha
    exact ⟨l, xs, rfl, rfl, hl, q _ _ .non (DL.DpAll.reverse hx)⟩
  · cases hz
end

/-! ### x.extend(a new list), x[i] = e -/
def gExtend (i : Nat) (f : DEnv → Res Cell) : DSt := fun ρ => match ρ[i]? with
  | some (some (.own _ (.lst _))) => bindF (f ρ) fun c ρ1 => match c, ρ1[i]? with
    | .lst es, some (some (.own b (.lst ds))) => if ds.length + es.length ≤ sizeLine then .nx (ρ1.set i (some (.own b (.lst (ds ++ es))))) else .bad
    | _, _ => .bad
  | _ => .bad
section
variable {X : Cx} {W : WX} {i : Nat} {e : Expr} {o : Expr} {apos cpos pos : Pos}
theorem ds_extend {f : DEnv → Res Cell} (ho : PE X o (tVar i)) (he : DLs X W e f) (hs0 : swapsWith (.Call (.Attribute o "extend" apos) [e] [] cpos) none pos.line X.env = pure false := by rfl)
    (hbase : attributeBase o "extend" X.env (eval o X.env) = eval o X.env := by rfl)
    (hfew : ((backTo cpos (starEach [e] X.env)).all (fun x => !x.1) && (backToKw cpos (keywordEach [] X.env)).all (fun x => x.1.isSome)
      && decide ([e].length + ([] : List Keyword).length + (if ([] : List Keyword).isEmpty then 0 else 1) < 30)) = true := by rfl)
    (hline : (apos.endLine == cpos.line) = true := by rfl) (hs : starEach [e] X.env = (false, eval e X.env) :: starEach [] X.env := by rfl) (hplain : (backTo cpos (starEach [] X.env)).any (·.1) = false := by rfl) :
    DS X W (.Expr (.Call (.Attribute o "extend" apos) [e] [] cpos) pos) (gExtend i f) := by
  have hp := pe_bm (X := X) PySem.F.plainAttrs_list PySem.F.slot_list_extend PySem.F.type_list_extend mt_extend ho (pa_cons he.pe pa_nil hs) hbase hfew hline hs hplain
  refine ⟨ps_imp (ps_expr hp hs0) fun E σ H ⟨O, ρ, rr, s⟩ => ?_⟩
  unfold gExtend at s
  split at s
  case h_2 => exact s.elim
  rename_i b ds0 e0
  obtain ⟨a, h1, h2, vs0, h3, h4⟩ := rr.own i _ _ e0
  refine ⟨_, h1, .inl ⟨rfl, vs0, SqL.of h3⟩, O, ρ, rr, (SatS.bindL s).imp fun u H1 ⟨c, ρ1, p, hu, n, hp0, st, s1⟩ => ?_⟩
  subst hu
  try dsimp only at s1
  split at s1
  case h_2 => exact s1.elim
  rename_i es b2 ds e2
  split at s1
  case isFalse => exact s1.elim
  rename_i hlen
  obtain ⟨nr, n1, n2, ws, n3, n4⟩ := n
  obtain ⟨a2, k1, k2, xs, k3, k4⟩ := nr.own i _ _ e2
  rw [h1] at k1
  cases k1
  have l1 := DL.DpAll.length k4
  have l2 := DL.DpAll.length n4
  refine ⟨a, p, xs, ws, rfl, rfl, k3, n3, by omega, ?_⟩
  have r1 : RelEnv X.K O σ H1 ρ1 := nr.unhide
  obtain ⟨r3, st3⟩ := put_own (c' := .lst (ds ++ es)) (o := .lst (xs ++ ws)) r1 e2 h1 ⟨_, upd_same, DL.DpAll.append (dpAll_mono gv_hide _ _ k4) (dpAll_mono gv_hide _ _ n4)⟩
  exact s1 σ _ st3.s r3
end
end DL

namespace DL
open L2 PySem PySem.Spec PyProof.Rows

/-! ### defs whose first parameter is a list that they change -/
/-- the list, the other arguments; what comes back and the list behind it -/
abbrev IFn := List D → List D → Option (RV × List D)
def SatIF (K : Frg) (O : Addr → Prop) (a : Addr) (H : Hp) (Q : VK) : Option (RV × List D) → Prop
  | some (.val d, ds') => ∀ u H', (∀ b o, H b = some o → b ≠ a → H' b = some o) → (∀ b, H b ≠ none → H' b ≠ none) → CellOk K (Vis0 (fun b => O b ∨ b = a) H') H' a (.lst ds') → Dp K (Vis0 (fun b => O b ∨ b = a) H') u d → Q u H'
  | some (.own c, ds') => ∀ p H', (∀ b o, H b = some o → b ≠ a → H' b = some o) → (∀ b, H b ≠ none → H' b ≠ none) → H p = none → CellOk K (Vis0 (fun b => (O b ∨ b = a) ∨ b = p) H') H' a (.lst ds') →
      CellOk K (Vis0 (fun b => (O b ∨ b = a) ∨ b = p) H') H' p c → Q (.ref p) H'
  | none => False
def spI (K : Frg) (n : Nat) (F : IFn) : Sp := fun vs H Q _ => vs.length = n ∧ ∃ (O : Addr → Prop) (a : Addr) (us : List V) (ds es : List D), vs = .ref a :: us ∧ ¬ O a ∧ (∀ b, O b → H b ≠ none) ∧ CellOk K (Vis0 (fun b => O b ∨ b = a) H) H a (.lst ds) ∧
  DpAll K (Vis0 (fun b => O b ∨ b = a) H) us es ∧ SatIF K O a H Q (F ds es)

def valsOf : List EV → Option (List D)
  | [] => some []
  | .val d :: vs => match valsOf vs with
    | some ds => some (d :: ds)
    | none => none
  | .bor _ :: _ => none
theorem valsOf_rel {K : Frg} {O : Addr → Prop} {σ : L2.St} {ρ : DEnv} {H : Hp} : ∀ {us : List V} {vs : List EV} {ds : List D}, RelEs K O σ ρ H us vs → valsOf vs = some ds → DpAll K (Gv O σ ρ H) us ds
  | [], [], _, _, e => by cases e; exact .nil
  | u :: us, .val d :: vs, ds, h, e => by
    unfold valsOf at e
    split at e
    · rename_i ds' q
      cases e
      exact .cons h.1 (valsOf_rel h.2 q)
    · cases e
  | u :: us, .bor _ :: vs, ds, h, e => by cases e
  | [], _ :: _, _, h, _ => h.elim
  | _ :: _, [], _, h, _ => h.elim
theorem RelEs.len {K : Frg} {O : Addr → Prop} {σ : L2.St} {ρ : DEnv} {H : Hp} : ∀ {us : List V} {vs : List EV}, RelEs K O σ ρ H us vs → us.length = vs.length
  | [], [], _ => rfl
  | u :: us, v :: vs, h => by simp [RelEs.len h.2]
  | [], _ :: _, h => h.elim
  | _ :: _, [], h => h.elim

def xCallI (F : IFn) (g : DEnv → Res (List EV)) : DX := fun ρ => bindR (g ρ) fun vs ρ1 => match vs with
  | .bor i :: ws => optR (valsOf ws) fun es => match ρ1[i]? with
    | some (some (.own b (.lst ds))) => match F ds es with
      | some (.val d, ds') => .ok (.val d) (ρ1.set i (some (.own b (.lst ds'))))
      | some (.own (.lst l), ds') => .ok (.val (.list l)) (ρ1.set i (some (.own b (.lst ds'))))
      | _ => .bad
    | _ => .bad
  | _ => .bad
def xCallIL (F : IFn) (g : DEnv → Res (List EV)) : DEnv → Res Cell := fun ρ => bindR (g ρ) fun vs ρ1 => match vs with
  | .bor i :: ws => optR (valsOf ws) fun es => match ρ1[i]? with
    | some (some (.own b (.lst ds))) => match F ds es with
      | some (.own c, ds') => .ok c (ρ1.set i (some (.own b (.lst ds'))))
      | _ => .bad
    | _ => .bad
  | _ => .bad
section
variable {K : Frg} {mg : Mg} {O : Addr → Prop} {σ : L2.St} {ρ : DEnv} {H : Hp} {W : WX}
theorem hid_gv {i : Nat} {b : Bool} {c : Cell} {a : Addr} (e : ρ[i]? = some (some (.own b c))) (hs : σ[i]? = some (some (.ref a))) : ∀ x o, Gv O σ ρ H x = some o → Vis0 (fun x => (O x ∨ (Ow σ ρ x ∧ x ≠ a)) ∨ x = a) H x = some o := fun x o h => by
  obtain ⟨h1, h2, h3⟩ := of_Gv h
  exact vis0.mpr ⟨fun z => z.elim (fun z => z.elim h1 fun z => h2 z.1) fun z => h2 ⟨i, b, c, e, by rw [z]; exact hs⟩, h3⟩
theorem gv_hid {i : Nat} {b : Bool} {c c' : Cell} {a : Addr} {H' : Hp} (e : ρ[i]? = some (some (.own b c))) : ∀ x o, Vis0 (fun x => (O x ∨ (Ow σ ρ x ∧ x ≠ a)) ∨ x = a) H' x = some o → Gv O σ (ρ.set i (some (.own b c'))) H' x = some o := fun x o h => by
  obtain ⟨h1, h2⟩ := vis0.mp h
  exact Gv_of (fun z => h1 (.inl (.inl z))) (fun z => h1 (by
    by_cases q : x = a
    · exact .inr q
    · exact .inl (.inr ⟨(ow_put e x).mp z, q⟩))) h2
theorem io_pre {i : Nat} {b : Bool} {ds es : List D} {us : List V} {a : Addr} (r : RelEnv K O σ H ρ) (e : ρ[i]? = some (some (.own b (.lst ds)))) (hs : σ[i]? = some (some (.ref a))) (h2 : DpAll K (Gv O σ ρ H) us es) {F : IFn} {Q : VK} {n : Nat} {E : XK} (hn : us.length + 1 = n)
    (h : SatIF K (fun x => O x ∨ (Ow σ ρ x ∧ x ≠ a)) a H Q (F ds es)) : spI K n F (.ref a :: us) H Q E := by
  obtain ⟨a', k1, k2, k3⟩ := r.own i b _ e
  rw [hs] at k1
  cases k1
  refine ⟨by simpa using hn, _, a, us, ds, es, rfl, fun z => z.elim k2 fun z => z.2 rfl, fun x z => z.elim (r.oa x) fun z => ?_, k3.mono (hid_gv e hs) fun _ q => q, dpAll_mono (hid_gv e hs) _ _ h2, h⟩
  obtain ⟨o, ho⟩ := r.owSome z.1
  rw [ho]; exact fun z => nomatch z
theorem callI_core {n : Nat} {F : IFn} {u0 : V} {us : List V} {i : Nat} {b : Bool} {ws : List EV} {ds es : List D} {Q : VK} {E : XK} (r : RelEnv K O σ H ρ) (hu : σ[i]? = some (some u0)) (e : RelEs K O σ ρ H us ws) (hd : valsOf ws = some es) (hn : us.length + 1 = n) (hi : ρ[i]? = some (some (.own b (.lst ds))))
    (h : Sat K mg O σ ρ H W (fun ρ' H' u a => RelE K O σ ρ' H' u a) Q (match F ds es with
      | some (.val d, ds') => .ok (.val d) (ρ.set i (some (.own b (.lst ds'))))
      | some (.own (.lst l), ds') => .ok (.val (.list l)) (ρ.set i (some (.own b (.lst ds'))))
      | _ => .bad)) : spI K n F (u0 :: us) H Q E := by
  obtain ⟨a, k1, k2, k3⟩ := r.own i b _ hi
  rw [hu] at k1
  cases k1
  refine io_pre r hi hu (valsOf_rel e hd) hn ?_
  cases hF : F ds es with
  | none => rw [hF] at h; exact h.elim
  | some z =>
    obtain ⟨v, ds'⟩ := z
    rw [hF] at h
    cases v with
    | val d =>
      intro u H' ext al hc hdp
      obtain ⟨r', st⟩ := put_gen (c' := .lst ds') r hi hu ext al (hc.mono (gv_hid hi) fun _ q => q)
      exact h u H' st r' (dp_mono (gv_hid hi) _ _ hdp)
    | own c =>
      cases c with
      | dK _ => exact h.elim
      | dT _ => exact h.elim
      | lst l =>
        intro p H' ext al hp hc hc2
        have g2 : ∀ x o, Vis0 (fun b => ((O b ∨ (Ow σ ρ b ∧ b ≠ a)) ∨ b = a) ∨ b = p) H' x = some o → Gv O σ (ρ.set i (some (.own b (.lst ds')))) H' x = some o := fun x o q => gv_hid hi x o (vis0.mpr ⟨fun z => (vis0.mp q).1 (.inl z), (vis0.mp q).2⟩)
        obtain ⟨r', st⟩ := put_gen (c' := .lst ds') r hi hu ext al (hc.mono g2 fun _ q => q)
        obtain ⟨xs, h1, h2⟩ := hc2
        refine h _ H' st r' (L2.Dp.lst (SqL.of (Gv_of (r.fresh hp).1 (fun z => (r.fresh hp).2 ((ow_put hi p).mp z)) h1)) (dpAll_mono g2 _ _ h2))
theorem callI_coreL {n : Nat} {F : IFn} {u0 : V} {us : List V} {i : Nat} {b : Bool} {ws : List EV} {ds es : List D} {Q : VK} {E : XK} (r : RelEnv K O σ H ρ) (hu : σ[i]? = some (some u0)) (e : RelEs K O σ ρ H us ws) (hd : valsOf ws = some es) (hn : us.length + 1 = n) (hi : ρ[i]? = some (some (.own b (.lst ds))))
    (h : SatL K mg O σ ρ H W Q (match F ds es with
      | some (.own c, ds') => .ok c (ρ.set i (some (.own b (.lst ds'))))
      | _ => .bad)) : spI K n F (u0 :: us) H Q E := by
  obtain ⟨a, k1, k2, k3⟩ := r.own i b _ hi
  rw [hu] at k1
  cases k1
  refine io_pre r hi hu (valsOf_rel e hd) hn ?_
  cases hF : F ds es with
  | none => rw [hF] at h; exact h.elim
  | some z =>
    obtain ⟨v, ds'⟩ := z
    rw [hF] at h
    cases v with
    | val d => exact h.elim
    | own c =>
      intro p H' ext al hp hc hc2
      have g2 : ∀ x o, Vis0 (fun b => ((O b ∨ (Ow σ ρ b ∧ b ≠ a)) ∨ b = a) ∨ b = p) H' x = some o → Gv O σ (ρ.set i (some (.own b (.lst ds')))) H' x = some o := fun x o q => gv_hid hi x o (vis0.mpr ⟨fun z => (vis0.mp q).1 (.inl z), (vis0.mp q).2⟩)
      have g3 : ∀ x o, Vis0 (fun b => ((O b ∨ (Ow σ ρ b ∧ b ≠ a)) ∨ b = a) ∨ b = p) H' x = some o → Gv (fun b => O b ∨ b = p) σ (ρ.set i (some (.own b (.lst ds')))) H' x = some o := fun x o q => by
        obtain ⟨q1, q2, q3⟩ := of_Gv (g2 x o q)
        exact Gv_of (fun z => z.elim q1 fun z => (vis0.mp q).1 (.inr z)) q2 q3
      -- the list's new cell, and p hidden
      have rp : RelEnv K (fun b => O b ∨ b = p) σ (upd H p (.lst [])) ρ := r.hidden hp
      have n1 : ∀ x o, upd H p (.lst []) x = some o → x ≠ a → H' x = some o ∨ x = p := fun x o q hx => by
        by_cases z : x = p
        · exact .inr z
        · rw [upd_ne z] at q; exact .inl (ext x o q hx)
      obtain ⟨r', st⟩ := put_gen (c' := .lst ds') r hi hu ext al (hc.mono g2 fun _ q => q)
      refine h p H' st hp ⟨?_, (r.fresh hp).1, fun z => (r.fresh hp).2 ((ow_put hi p).mp z), hc2.mono g3 fun _ q => q⟩
      have gh : ∀ x o, Gv O σ ρ H x = some o → Gv (fun b => O b ∨ b = p) σ (ρ.set i (some (.own b (.lst ds')))) H' x = some o := fun x o q => by
        obtain ⟨q1, q2, q3⟩ := of_Gv (st.gv x o q)
        exact Gv_of (fun z => z.elim q1 (ne_of_none (of_Gv q).2.2 hp)) q2 q3
      have hil : i < ρ.length := (List.getElem?_eq_some_iff.mp hi).1
      refine ⟨r'.len, fun x q => ?_, fun j d q => ?_, fun j b2 c2 q => ?_, r'.inj, r'.raw⟩
      · rcases q with q | q
        · exact r'.oa x q
        · obtain ⟨o, ho⟩ := hc2.some
          rw [q, ho]; exact fun z => nomatch z
      · have hj : i ≠ j := by rintro rfl; rw [List.getElem?_set_self hil] at q; cases q
        rw [List.getElem?_set_ne hj] at q
        obtain ⟨v, h1, h2⟩ := r.val j d q
        exact ⟨v, h1, dp_mono gh _ _ h2⟩
      · by_cases hj : i = j
        · subst hj
          rw [List.getElem?_set_self hil] at q
          cases q
          exact ⟨a, hu, fun z => z.elim k2 (ne_of_none k3.some.choose_spec hp), hc.mono g3 fun _ q => q⟩
        · rw [List.getElem?_set_ne hj] at q
          obtain ⟨a2, h1, h2, h3⟩ := r.own j b2 c2 q
          obtain ⟨o, ho⟩ := h3.some
          have na : a2 ≠ a := fun z => hj (r.inj i j a _ _ _ _ hi q hu (by rw [← z]; exact h1))
          exact ⟨a2, h1, fun z => z.elim h2 (ne_of_none ho hp), h3.mono gh fun u q => ext _ _ q na⟩
end
section
variable {X : Cx} {W : WX} {x : Str} {p pos : Pos} {e : Expr} {es : List Expr} {k n : Nat} {ps : List Str} {F : IFn} {g : DEnv → Res (List EV)}
theorem de_callI (C : FOk X.prog X.w X.K X.mg X.base x k ps (spI X.K n F)) (hr : Room k X.A) (hx : ∀ σ, PassesAt (L2N.CX X.prog X.w) X σ (WE W σ)) (ha : DA X W (e :: es) g) (hl : (e :: es).length = n := by rfl) (hg : Gl X x := by rfl) (hdb : (x == ("__debug__" : Str)) = false := by decide)
    (he : starEach (e :: es) X.env = (false, eval e X.env) :: starEach es X.env := by rfl) (hpl : (backTo pos (starEach es X.env)).any (·.1) = false := by rfl) (hlen : ∀ ρ vs ρ', g ρ = .ok vs ρ' → vs.length = n) :
    DE X W (.Call (.Name x p) (e :: es) [] pos) (xCallI F g) := by
  obtain ⟨f, fd, Fo, hm, hk, hb⟩ := C
  refine ⟨pe_imp (pe_callS (E := WE W) Fo hr hg hm hk hb hx ha.pa hdb he hpl) fun σ H Q ⟨O, ρ, r, s⟩ => ⟨O, ρ, r, ?_⟩⟩
  unfold xCallI at s
  cases q : g ρ with
  | err x ρ1 => rw [q] at s; exact s
  | bad => rw [q] at s; exact s
  | ok vs ρ1 =>
    rw [q, bindR_ok] at s
    intro us H1 st r1 e1
    have s1 := Sat.shift s st
    have hln := hlen _ _ _ q
    have hul := RelEs.len e1
    try dsimp only at s1
    split at s1
    case h_2 => exact s1.elim
    rename_i i ws
    obtain ⟨es', hd, s2⟩ := optR_sat s1
    split at s2
    case h_2 => exact s2.elim
    rename_i b ds hi
    cases us with
    | nil => exact e1.elim
    | cons u0 us => exact callI_core r1 e1.1 e1.2 hd (by simp at hul hln; omega) hi s2
theorem dl_callI (C : FOk X.prog X.w X.K X.mg X.base x k ps (spI X.K n F)) (hr : Room k X.A) (hx : ∀ σ, PassesAt (L2N.CX X.prog X.w) X σ (WE W σ)) (ha : DA X W (e :: es) g) (hl : (e :: es).length = n := by rfl) (hg : Gl X x := by rfl) (hdb : (x == ("__debug__" : Str)) = false := by decide)
    (he : starEach (e :: es) X.env = (false, eval e X.env) :: starEach es X.env := by rfl) (hpl : (backTo pos (starEach es X.env)).any (·.1) = false := by rfl) (hlen : ∀ ρ vs ρ', g ρ = .ok vs ρ' → vs.length = n) :
    DLs X W (.Call (.Name x p) (e :: es) [] pos) (xCallIL F g) := by
  obtain ⟨f, fd, Fo, hm, hk, hb⟩ := C
  refine ⟨pe_imp (pe_callS (E := WE W) Fo hr hg hm hk hb hx ha.pa hdb he hpl) fun σ H Q ⟨O, ρ, r, s⟩ => ⟨O, ρ, r, ?_⟩⟩
  unfold xCallIL at s
  cases q : g ρ with
  | err x ρ1 => rw [q] at s; exact s
  | bad => rw [q] at s; exact s
  | ok vs ρ1 =>
    rw [q, bindR_ok] at s
    intro us H1 st r1 e1
    have s1 := SatL.shift s st st.none
    have hln := hlen _ _ _ q
    have hul := RelEs.len e1
    try dsimp only at s1
    split at s1
    case h_2 => exact s1.elim
    rename_i i ws
    obtain ⟨es', hd, s2⟩ := optR_satL s1
    split at s2
    case h_2 => exact s2.elim
    rename_i b ds hi
    cases us with
    | nil => exact e1.elim
    | cons u0 us => exact callI_coreL r1 e1.1 e1.2 hd (by simp at hul hln; omega) hi s2
end

/-! ### such a def's body -/
def cellAt0 (ρ : DEnv) : Option (List D) := match ρ[(0 : Nat)]? with
  | some (some (SV.own _ (Cell.lst ds))) => some ds
  | _ => none
def startI (m : Nat) (ds es : List D) : DEnv := some (.own true (.lst ds)) :: startD (m - 1) es
def runI (m : Nat) (body : DSt) : IFn := fun ds es => match body (startI m ds es) with
  | .nx ρ => (cellAt0 ρ).map fun l => (.val .none, l)
  | .rt v ρ => (cellAt0 ρ).map fun l => (v, l)
  | _ => none
section
variable {P : Program} {w : World} {K : Frg} {mg : Mg} {base : Heap}
theorem start_cons {N : List Str} {u : V} {us : List V} (h : 0 < N.length) : L2.start N (u :: us) = some u :: L2.start (N.drop 1) us := by
  unfold L2.start
  cases N with
  | nil => simp at h
  | cons y N => simp
theorem startI_rel {O : Addr → Prop} {N : List Str} {a : Addr} {us : List V} {ds es : List D} {H : Hp} (hN : 0 < N.length) (ha : ¬ O a) (ho : ∀ b, O b → H b ≠ none) (hc : CellOk K (Vis0 (fun b => O b ∨ b = a) H) H a (.lst ds)) (h : DpAll K (Vis0 (fun b => O b ∨ b = a) H) us es) :
    RelEnv K O (L2.start N (.ref a :: us)) H (startI N.length ds es) := by
  rw [start_cons hN]
  have r0 : RelEnv K (fun b => O b ∨ b = a) (L2.start (N.drop 1) us) H (startD (N.drop 1).length es) := start_rel (fun b q => q.elim (ho b) fun q => by obtain ⟨o, e⟩ := hc.some; rw [q, e]; exact fun z => nomatch z) h
  have hl : (N.drop 1).length = N.length - 1 := by simp
  rw [hl] at r0
  have only : ∀ (i : Nat) (b : Bool) (c : Cell), (startI N.length ds es)[i]? = some (some (.own b c)) → i = 0 ∧ b = true ∧ c = .lst ds := fun i b c e => by
    cases i with
    | zero => cases e; exact ⟨rfl, rfl, rfl⟩
    | succ i => exact absurd (show (startD (N.length - 1) es)[i]? = some (some (.own b c)) from e) startD_own
  have gv : ∀ x o, Vis0 (fun b => O b ∨ b = a) H x = some o → Gv O (some (.ref a) :: L2.start (N.drop 1) us) (startI N.length ds es) H x = some o := fun x o q => by
    obtain ⟨q1, q2⟩ := vis0.mp q
    refine Gv_of (fun z => q1 (.inl z)) (fun ⟨i, b, c, e1, e2⟩ => ?_) q2
    obtain ⟨rfl, _, _⟩ := only i b c e1
    cases e2
    exact q1 (.inr rfl)
  have gv0 : ∀ x o, Gv (fun b => O b ∨ b = a) (L2.start (N.drop 1) us) (startD (N.length - 1) es) H x = some o → Vis0 (fun b => O b ∨ b = a) H x = some o := fun x o q => vis0.mpr ⟨(of_Gv q).1, (of_Gv q).2.2⟩
  refine ⟨?_, ho, fun i d e => ?_, fun i b c e => ?_, fun i j x b c b' c' e1 e2 _ _ => ?_, fun i x e => ?_⟩
  · have := r0.len
    simp only [startI, List.length_cons, this]
  · cases i with
    | zero => cases e
    | succ i =>
      obtain ⟨v, h1, h2⟩ := r0.val i d e
      exact ⟨v, h1, dp_mono (fun x o q => gv x o (gv0 x o q)) _ _ h2⟩
  · obtain ⟨rfl, rfl, rfl⟩ := only i b c e
    exact ⟨a, rfl, ha, hc.mono gv fun _ q => q⟩
  · rw [(only i b c e1).1, (only j b' c' e2).1]
  · cases i with
    | zero => cases e
    | succ i => exact r0.raw i x e
/-- THE RULE for a def whose first parameter is a list that it changes -/
theorem fn_io {x qual : Str} {st : Stmt} {f : Addr} {fd : FuncData} {N ps : List Str} {k : Nat} {body : DSt} (F : Fun K x qual st f fd) (S : FnScope N ps (defScope st)) (hN : 0 < N.length)
    (hbody : ∀ (cdv : Value) (A : Around) (outer : List Env) (s : Shared) (H : Hp) (E : XK), Room k (A.deeper (envOfC qual (defScope st) s.heap.objs.size f cdv)) →
      L2N.Takes (cxN P w K mg base N qual st f cdv A outer s H E) (fun cls d _ H => E cls d H) → PassesOwn (model P w) (cxN P w K mg base N qual st f cdv A outer s H E).A (cxN P w K mg base N qual st f cdv A outer s H E).env (cxN P w K mg base N qual st f cdv A outer s H E).xe →
      DSs (cxN P w K mg base N qual st f cdv A outer s H E) (fun cls d _ H => E cls d H) (defBody st) body) :
    FnOk P w K mg base (L2N.CX P w) (k + 1) f fd ps (spI K ps.length (runI N.length body)) := by
  obtain ⟨oc, od, kV, doc, pm, an, cdv, ct, osl, rfl, lk, hcd⟩ := F.ex
  refine fn_of lk hcd S (fun vs H Q E h => h.1) fun A outer s H vs Q E hr h => ?_
  obtain ⟨hn, O, a, us, ds, es, rfl, ha, ho, hc, hd, h⟩ := h
  refine ⟨_, (hbody cdv A outer s H E hr (L2N.takes_of rfl rfl rfl rfl) (passes_of rfl)).pss, O, startI N.length ds es, startI_rel hN ha ho hc hd, ?_⟩
  have h0 : (startI N.length ds es)[0]? = some (some (.own true (.lst ds))) := rfl
  have s0 : (L2.start N (.ref a :: us))[0]? = some (some (V.ref a)) := by rw [start_cons hN]; rfl
  have only : ∀ b, Ow (L2.start N (.ref a :: us)) (startI N.length ds es) b → b = a := fun b ⟨i, io, c, e1, e2⟩ => by
    cases i with
    | zero => rw [s0] at e2; cases e2; rfl
    | succ i => exact absurd (show (startD (N.length - 1) es)[i]? = some (some (.own io c)) from e1) startD_own
  have ext : ∀ {σ' : L2.St} {ρ' : DEnv} {H' : Hp}, SStp (L2.start N (.ref a :: us)) (startI N.length ds es) H σ' ρ' H' → ∀ b o, H b = some o → b ≠ a → H' b = some o := fun st b o e n => st.ext b o e fun z => n (only b z)
  have at0 : ∀ {σ' : L2.St} {ρ' : DEnv} {H' : Hp}, SStp (L2.start N (.ref a :: us)) (startI N.length ds es) H σ' ρ' H' → σ'[0]? = some (some (V.ref a)) ∧ ∃ c', ρ'[0]? = some (some (.own true c')) := fun st => by
    obtain ⟨e1, c', e2⟩ := st.io 0 _ h0
    exact ⟨e1.trans s0, c', e2⟩
  have gvs : ∀ {O' : Addr → Prop} {σ' : L2.St} {ρ' : DEnv} {H' : Hp} {c' : Cell}, σ'[0]? = some (some (V.ref a)) → ρ'[0]? = some (some (.own true c')) → ∀ b o, Gv O' σ' ρ' H' b = some o → b ≠ a := fun e1 e2 b o q z => by
    obtain ⟨_, q2, _⟩ := of_Gv q
    exact q2 ⟨0, true, _, e2, by rw [z]; exact e1⟩
  show SatS K mg O (L2.start N (.ref a :: us)) (startI N.length ds es) H _ _ (body (startI N.length ds es))
  change SatIF K O a H Q (match body (startI N.length ds es) with
    | .nx ρ => (cellAt0 ρ).map fun l => (.val .none, l)
    | .rt v ρ => (cellAt0 ρ).map fun l => (v, l)
    | _ => none) at h
  have cell : ∀ {ρ' : DEnv} {c' : Cell} {l : List D}, ρ'[0]? = some (some (.own true c')) → cellAt0 ρ' = some l → c' = .lst l := fun e2 q => by
    unfold cellAt0 at q
    rw [e2] at q
    split at q
    · rename_i z; cases z; cases q; rfl
    · cases q
  cases q : body (startI N.length ds es) with
  | nx ρ' =>
    rw [q] at h
    dsimp only at h
    intro σ' H' st r
    obtain ⟨e1, c', e2⟩ := at0 st
    cases hl : cellAt0 ρ' with
    | none => rw [hl] at h; exact h.elim
    | some l =>
      rw [hl] at h
      obtain rfl := cell e2 hl
      obtain ⟨a', k1, k2, k3⟩ := r.own 0 _ _ e2
      rw [e1] at k1
      cases k1
      exact h .non H' (ext st) st.al (k3.mono (fun b o z => vis0.mpr ⟨fun y => y.elim (of_Gv z).1 (gvs e1 e2 b o z), (of_Gv z).2.2⟩) fun _ z => z) .non
  | rt v ρ' =>
    rw [q] at h
    dsimp only at h
    intro u σ' H' st r
    obtain ⟨e1, c', e2⟩ := at0 st
    cases hl : cellAt0 ρ' with
    | none => rw [hl] at h; exact h.elim
    | some l =>
      rw [hl] at h
      obtain rfl := cell e2 hl
      cases v with
      | val d =>
        obtain ⟨r1, r2⟩ := r
        obtain ⟨a', k1, k2, k3⟩ := r1.own 0 _ _ e2
        rw [e1] at k1
        cases k1
        have g : ∀ b o, Gv O σ' ρ' H' b = some o → Vis0 (fun b => O b ∨ b = a) H' b = some o := fun b o z => vis0.mpr ⟨fun y => y.elim (of_Gv z).1 (gvs e1 e2 b o z), (of_Gv z).2.2⟩
        exact h u H' (ext st) st.al (k3.mono g fun _ z => z) (dp_mono g _ _ r2)
      | own c =>
        obtain ⟨p, rfl, ⟨r1, r2, r3, r4⟩, r5⟩ := r
        obtain ⟨a', k1, k2, k3⟩ := r1.own 0 _ _ e2
        rw [e1] at k1
        cases k1
        have pa : p ≠ a := fun z => k2 (.inr z.symm)
        have g : ∀ b o, Gv (fun b => O b ∨ b = p) σ' ρ' H' b = some o → Vis0 (fun b => (O b ∨ b = a) ∨ b = p) H' b = some o := fun b o z => vis0.mpr ⟨fun y => y.elim (fun y => y.elim (fun y => (of_Gv z).1 (.inl y)) (gvs e1 e2 b o z)) fun y => (of_Gv z).1 (.inr y), (of_Gv z).2.2⟩
        exact h p H' (ext st) st.al (r5.elim (fun z => absurd (only p z) pa) fun z => z) (k3.mono g fun _ z => z) (r4.mono g fun _ z => z)
  | bk ρ' => rw [q] at h; exact h.elim
  | ct ρ' => rw [q] at h; exact h.elim
  | err x ρ' => rw [q] at h; exact h.elim
  | bad => rw [q] at h; exact h.elim
end
end DL

namespace DL
open L2 PySem PySem.Spec PyProof.Rows

/-! ### raise of an own class -/
/-- an own class of exceptions of the text, below ValueError -/
structure Own (K : Frg) (mg : Mg) (x : Str) (C : Addr) : Prop where
  xi : PySem.W.excIn K C [.type "ValueError", .type "Exception", .type "BaseException", .type "object"] "ValueError.__new__" = true
  gC : mg x = some (.ref C)
  kC : PySem.W.keepIn K (.ref C) = true
  s1 : PySem.W.subIn K (.ref C) (.type "BaseException") = some true
  s2 : PySem.W.typeIn K (.ref C) = some (.type "type")
def gRaise (x : Str) : DSt := fun ρ => .err ⟨x, none⟩ ρ
theorem ds_raise {X : Cx} {W : WX} {x m : Str} {C : Addr} {j : Nat} {p p2 pos1 pos : Pos} (c : Own X.K X.mg x C) (hc : X.calm = true) (tk : L2N.Takes X W) (hg : Gl X x := by rfl) (hdb : (x == ("__debug__" : Str)) = false := by decide) :
    DS X W (.Raise (some (.Call (.Name x p) [.Constant (.str m) j p2] [] pos1)) none pos) (gRaise x) := by
  refine ⟨ps_imp (L2N.ps_raise hc tk (L2N.pmk_own PySem.F.excBase_ValueError c.xi c.gC c.kC (raises_own c.s1 c.s2) hg hdb)) fun E σ H ⟨O, ρ, r, s⟩ => ?_⟩
  exact s (.ref C) none σ H .refl r ⟨C, c.gC, rfl, rfl⟩

/-! ### a def that is told a caught exception, called in the suite -/
structure KFn (P : Program) (w : World) (K : Frg) (mg : Mg) (base : Heap) (k : Nat) (f : Addr) (fd : FuncData) (ps : List Str) (C : Addr) (d : PyData) : Prop where
  one : ps.length = 1
  run : ∀ (A : Around) (outer : List Env) (s : Shared) (H : Hp) (args : Args) (us : List Value) (Q : VK) (p : Addr × Obj), L2H.RoomH k A → L2H.Hot1 A p → L2N.Zn (.ref C) none p.2 → L2H.PinOk outer H s p → Env0 P w K mg base A outer s H →
    BindsTo s fd args (ps.zip us) → Vals [V.ref p.1] us → (∀ u H', Same H H' → Dp K H' u d → Q u H') → codeAny (model P w) A (.call (.ref f) args) (CR (L2N.CX P w) outer P w H s Q (fun _ _ _ => False)) s
def startK (m : Nat) (a : Addr) : DEnv := some (.raw a) :: List.replicate (m - 1) none
theorem startK_own {m : Nat} {a : Addr} {i : Nat} {b : Bool} {c : Cell} : (startK m a)[i]? ≠ some (some (.own b c)) := by
  cases i with
  | zero => exact fun z => nomatch z
  | succ i =>
    show (List.replicate (m - 1) none)[i]? ≠ _
    rw [List.getElem?_replicate]
    split
    · exact fun z => nomatch z
    · exact fun z => nomatch z
theorem startK_rel {K : Frg} {N : List Str} {a : Addr} {H : Hp} (hN : 0 < N.length) : RelEnv K (fun _ => False) (L2.start N [V.ref a]) H (startK N.length a) := by
  have e : L2.start N [V.ref a] = some (.ref a) :: List.replicate (N.length - 1) none := rfl
  rw [e]
  refine ⟨by simp [startK], fun _ z => z.elim, fun i d q => ?_, fun i b c q => absurd q startK_own, fun i j x b c b' c' q => absurd q startK_own, fun i x q => ?_⟩
  · cases i with
    | zero => cases q
    | succ i =>
      have q' : (List.replicate (N.length - 1) (none : Option SV))[i]? = some (some (.val d)) := q
      rw [List.getElem?_replicate] at q'
      split at q' <;> cases q'
  · cases i with
    | zero => cases q; rfl
    | succ i =>
      have q' : (List.replicate (N.length - 1) (none : Option SV))[i]? = some (some (.raw x)) := q
      rw [List.getElem?_replicate] at q'
      split at q' <;> cases q'
theorem kfn_of {P : Program} {w : World} {K : Frg} {mg : Mg} {base : Heap} {x qual : Str} {st : Stmt} {f C : Addr} {fd : FuncData} {N ps : List Str} {k : Nat} {body : Addr → DSt} {d : PyData} (F : Fun K x qual st f fd) (S : FnScope N ps (defScope st)) (h1 : ps.length = 1) (hN : 0 < N.length)
    (hbody : ∀ (cdv : Value) (A : Around) (outer : List Env) (s : Shared) (H : Hp) (E : XK) (p : Addr × Obj), L2H.Hot1 A p → L2N.Zn (.ref C) none p.2 → L2H.RoomH k (A.deeper (envOfC qual (defScope st) s.heap.objs.size f cdv)) →
      DSs (L2H.cxH (L2N.CX P w) P w K mg base N qual (defScope st) f cdv A outer s H E p) W0 (defBody st) (body p.1))
    (hres : ∀ a, ∃ ρ', body a (startK N.length a) = .rt (.val d) ρ') : KFn P w K mg base (k + 1) f fd ps C d := by
  obtain ⟨oc, od, kV, doc, pm, an, cdv, ct, osl, rfl, lk, hcd⟩ := F.ex
  refine ⟨h1, fun A outer s H args us Q p hr hot hz hpin e0 hb rv hQ => ?_⟩
  -- a def for this exception alone: its promise speaks of this p
  have KX : K.In s.heap := e0.mod.kin.keeps fun b o e => (e0.bs b o e).1
  have kinds : ∀ y ∈ ps.zip us, (defScope st).names.lookup y.1 = some .local ∨ ((defScope st).names.lookup y.1 = some .cell ∧ ((cellsFrom (s.heap.objs.size + 1) (defScope st).names []).lookup y.1).isSome = true) := by
    rintro ⟨n, v⟩ hy
    exact (S.par n (List.of_mem_zip hy).1).imp (fun q => q) fun q => ⟨q, PySem.W.cellsFrom_some _ _ _ (.inl q)⟩
  refine codeAny_call_function hr.depth (KX _ _ lk) rfl S.co S.gen rfl (PySem.W.codeRec_of KX hcd) (hb _ _ _ _ (wpAny_newFunctionEnv_cells S.kind kinds fun env he s1 x => ?_))
  cases he
  refine ⟨(e0.mod.nolimit.keeps fun b o e => (e0.bs b o e).1).keeps x.toInCall.keep, codeAny_func ?_⟩
  have I := L2H.inv_startH (CX := L2N.CX P w) (E := fun _ _ _ => False) S hpin e0 (show ([V.ref p.1] : List V).length = ps.length from h1.symm) rv x
  have B := hbody cdv A outer s H (fun _ _ _ => False) p hot hz (hr.deeper _)
  obtain ⟨ρ', hb'⟩ := hres p.1
  have fin : ∀ (u : V) (σ' : L2.St) (H' : Hp), SStp (L2.start N [V.ref p.1]) (startK N.length p.1) H σ' ρ' H' → RelR K (fun _ => False) (L2.start N [V.ref p.1]) (startK N.length p.1) H σ' ρ' H' u (.val d) → Q u H' := fun u σ' H' st' r' =>
    hQ u H' (fun b o e => st'.ext b o e fun ⟨i, io, c, e1, _⟩ => startK_own e1) (dp_mono Gv_sub _ _ r'.2)
  have B2 : SatS K mg (fun _ => False) (L2.start N [V.ref p.1]) (startK N.length p.1) H W0 { nx := fun _ H' => Q .non H', rt := Q } (body p.1 (startK N.length p.1)) := by
    rw [hb']
    exact fin
  refine wpAny_mono (B.pss.run [] s1 (L2.start N [V.ref p.1]) H { nx := fun _ H' => Q .non H', rt := Q } I ⟨_, _, startK_rel hN, B2⟩) (fun fl s' hs => ?_) fun e s' hs => hs
  cases fl with
  | ret u => exact let ⟨v, σ', H', J, rv', q⟩ := hs; ⟨v, H', J.os, J.bare, J.base, J.hok, rv', q⟩
  | next => exact let ⟨σ', H', J, q⟩ := hs; ⟨.non, H', J.os, J.bare, J.base, J.hok, (rfl : Value.none = Value.none), q⟩
  | brk => exact let ⟨_, _, _, q⟩ := hs; q.elim
  | cont => exact let ⟨_, _, _, q⟩ := hs; q.elim
/-- isinstance(e, C) of the exception at a, in a context that bears it -/
def xIs (i : Nat) (a : Addr) (b : Bool) : DX := fun ρ => match ρ[i]? with
  | some (some (.raw x)) => if x = a then .ok (.val (.bool b)) ρ else .bad
  | _ => .bad
section
variable {X : Cx} {W : WX} {i : Nat}
theorem call_isP {a C : Addr} {oe : Obj} (hp : (a, oe) ∈ X.pn) (c : ExcC X.K C) (hz : Zc (.ref C) none oe) (hf : ∃ vs, oe.data = .fields vs) : CallR X (.builtin "isinstance") (rIsE X.K C a) := by
  intro pins s σ H xs us Q I r h
  obtain ⟨c', cv, b, rfl, hcv, e, q⟩ := h
  cases r with
  | cons rx rr => cases rr with
    | cons rt rr =>
      cases rr
      cases rx
      cases hcv _ rt
      have J : PySem.W.InstAt s.heap a oe C none := by
        have g := (I.pin (a, oe) (List.mem_append_left _ hp)).1
        obtain ⟨vs, hv⟩ := hf
        cases oe
        obtain ⟨e1, e2⟩ := hz
        cases e1; cases e2; cases hv
        exact ⟨g, rfl, rfl, trivial⟩
      exact PySem.W.kia_one (PySem.W.handS_kitx_exc c.hg c.hk c.hs c.hd c.ha c.hn c.ht c.hm) I.kIn J e (fun z => nomatch z) fun tk => ⟨.bl b, H, I.kept (t' := tk) fun _ _ z => z, rfl, q⟩
theorem de_isE {a C D : Addr} {oe : Obj} {b : Bool} {x y : Str} {p px py pos : Pos} (hp : (a, oe) ∈ X.pn) (c : ExcC X.K C) (hz : Zc (.ref C) none oe) (hf : ∃ vs, oe.data = .fields vs) (hm : X.mg "isinstance" = none) (hb : bootBuiltins "isinstance" = some (.builtin "isinstance")) (hv : PE X (.Name x px) (tVar i)) (gy : X.mg y = some (.ref D))
    (kb : PySem.W.kitOne X.K (.ref C) (.ref D) = some b) (hg : Gl X "isinstance" := by rfl) (hgy : Gl X y := by rfl) (hdy : (y == ("__debug__" : Str)) = false := by decide)
    (hs : starEach [.Name x px, .Name y py] X.env = (false, eval (.Name x px) X.env) :: starEach [.Name y py] X.env := by rfl) (hs2 : starEach [.Name y py] X.env = (false, eval (.Name y py) X.env) :: starEach [] X.env := by rfl) (hpl : (backTo pos (starEach [.Name y py] X.env)).any (·.1) = false := by rfl) :
    DE X W (.Call (.Name "isinstance" p) [.Name x px, .Name y py] [] pos) (xIs i a b) := by
  have hy : PE X (.Name y py) (tC (.ref D)) := pe_glob hgy gy rfl hdy
  have P := pe_callB (p := p) (pos := pos) (call_isP hp c hz hf) hg hm hb (pa_cons hv (pa_cons hy pa_nil hs2) hs) (by decide) (by decide) hs hpl
  refine ⟨pe_imp P fun σ H Q ⟨O, ρ, r, s⟩ => ?_⟩
  unfold xIs at s
  split at s
  case h_2 => exact s.elim
  rename_i x' hx
  split at s
  case isFalse => exact s.elim
  rename_i hxa
  subst hxa
  have hs1 := r.raw i _ hx
  exact ⟨_, hs1, .ref D, .ref D, b, rfl, fun u q => q, kb, s (.bl b) H .refl r (L2.Dp.bl b)⟩

/-! ### the suite: return of something made of the caught exception -/
def xKind (i : Nat) (a : Addr) (d : D) : DX := fun ρ => match ρ[i]? with
  | some (some (.raw x)) => if x = a then .ok (.val d) ρ else .bad
  | _ => .bad
theorem de_kind {x : Str} {f C : Addr} {fd : FuncData} {ps : List Str} {k : Nat} {d : D} {q pos : Pos} {e : Expr} {p : Addr × Obj} (hot : L2H.Hot1 X.A p) (hp : p ∈ X.pn) (hz : L2N.Zn (.ref C) none p.2) (F : KFn X.prog X.w X.K X.mg X.base k f fd ps C d) (hr : L2H.RoomH k X.A)
    (hm : X.mg x = some (.ref f)) (hk : PySem.W.keepIn X.K (.ref f) = true) (hb : Binds X.K fd ps []) (hv : PE X e (tVar i)) (hfl : ∃ v, flat d = some v) (hg : Gl X x := by rfl) (hdb : (x == ("__debug__" : Str)) = false := by decide)
    (he : starEach [e] X.env = (false, eval e X.env) :: starEach [] X.env := by rfl) (hpl : (backTo pos (starEach [] X.env)).any (·.1) = false := by rfl) :
    DE X W (.Call (.Name x q) [e] [] pos) (xKind i p.1 d) := by
  refine ⟨⟨fun pins s σ H Q I ⟨O, ρ, r, st⟩ => ?_⟩⟩
  unfold xKind at st
  split at st
  case h_2 => exact st.elim
  rename_i y hy
  split at st
  case isFalse => exact st.elim
  rename_i hya
  subst hya
  have s1 := r.raw i _ hy
  refine wpAny_Call_Name_kw (ld_glob I hg hm ?_ hdb)
  refine PySem.W.callWith_K (h₀ := X.base) I.ok.mod.kin hk (thn ((pa_cons hv pa_nil he).run pos pins s σ H (fun vs H1 => vs = [V.ref p.1] ∧ H1 = H) I ⟨_, s1, rfl, rfl⟩) fun us s2 ⟨vs, H1, I1, rv, q⟩ => ⟨I1.kIn, ?_⟩) he hpl
  obtain ⟨rfl, rfl⟩ := q
  have hl : us.length = ps.length := by rw [← rv.length, F.one]; rfl
  have b := hb s2 us I1.kIn (by rw [List.append_nil]; exact hl)
  rw [List.append_nil] at b
  have P1 := I1.pin p (List.mem_append_left _ hp)
  refine wpAny_call (codeAny_mono (F.run X.A X.stack s2 H1 ⟨us, []⟩ us Q p hr hot hz ⟨P1.1, P1.2.1, fun hm => (List.mem_cons.mp (I1.stkSub p.1 hm)).elim P1.2.2.1 P1.2.2.2.1, P1.2.2.2.2⟩ I1.env0 b rv fun u H' sm hu => ?_) fun rr s' hq => ?_)
  · obtain ⟨w, hw⟩ := hfl
    exact st u H' (.same sm) (r.same sm) (dp_any hu hw)
  · cases rr with
    | error e => obtain ⟨_, _, _, _, _, _, _, _, _, _, _, _, z⟩ := hq; exact z.elim
    | ok fl =>
      cases fl with
      | ret u => exact I1.after hq
      | next => exact False.elim hq
      | brk => exact False.elim hq
      | cont => exact False.elim hq
end
section
variable {K : Frg} {O : Addr → Prop} {σ : L2.St} {ρ : DEnv} {H : Hp}
theorem set_gen {v : Option V} {x : Option SV} {i : Nat} (r : RelEnv K O σ H ρ) (hio : isIo ρ[i]? = false) (h1 : ∀ io c, x ≠ some (.own io c)) (h2 : ∀ d, x ≠ some (.val d)) (h3 : ∀ a, x = some (.raw a) → v = some (.ref a)) :
    RelEnv K O (σ.set i v) H (ρ.set i x) ∧ SStp σ ρ H (σ.set i v) (ρ.set i x) H := by
  have ow : ∀ b, Ow (σ.set i v) (ρ.set i x) b → Ow σ ρ b := fun b h => ow_setV h1 h
  have st : SStp σ ρ H (σ.set i v) (ρ.set i x) H := ⟨fun _ _ h _ => h, fun _ h => h, fun b h => .inl (ow b h), fun j c h => by
    have hj : i ≠ j := by rintro rfl; rw [h] at hio; cases hio
    rw [List.getElem?_set_ne hj, List.getElem?_set_ne hj]; exact ⟨rfl, c, h⟩⟩
  have nt : ∀ {j : Nat} {y : SV}, (ρ.set i x)[j]? = some (some y) → (j = i ∧ x = some y) ∨ (i ≠ j ∧ ρ[j]? = some (some y)) := fun {j y} e => by
    by_cases hj : i = j
    · subst hj
      have hi : i < ρ.length := by
        have := (List.getElem?_eq_some_iff.mp e).1
        rw [List.length_set] at this; exact this
      rw [List.getElem?_set_self hi] at e
      exact .inl ⟨rfl, Option.some.inj e⟩
    · rw [List.getElem?_set_ne hj] at e
      exact .inr ⟨hj, e⟩
  refine ⟨⟨by rw [List.length_set, List.length_set]; exact r.len, r.oa, fun j d h => ?_, fun j b c h => ?_, fun j k a b c b' c' e1 e2 e3 e4 => ?_, fun j a h => ?_⟩, st⟩
  · rcases nt h with ⟨_, z⟩ | ⟨hj, h⟩
    · exact absurd z (h2 d)
    · obtain ⟨u, k1, k2⟩ := r.val j d h
      exact ⟨u, by rw [List.getElem?_set_ne hj]; exact k1, dp_mono st.gv _ _ k2⟩
  · rcases nt h with ⟨_, z⟩ | ⟨hj, h⟩
    · exact absurd z (h1 b c)
    · obtain ⟨a, k1, k2, k3⟩ := r.own j b c h
      exact ⟨a, by rw [List.getElem?_set_ne hj]; exact k1, k2, k3.mono st.gv fun _ q => q⟩
  · rcases nt e1 with ⟨_, z⟩ | ⟨hj, e1⟩
    · exact absurd z (h1 b c)
    · rcases nt e2 with ⟨_, z⟩ | ⟨hk, e2⟩
      · exact absurd z (h1 b' c')
      · rw [List.getElem?_set_ne hj] at e3
        rw [List.getElem?_set_ne hk] at e4
        exact r.inj j k a _ _ _ _ e1 e2 e3 e4
  · rcases nt h with ⟨hj, z⟩ | ⟨hj, h⟩
    · subst hj
      have hi : j < ρ.length := by
        have := (List.getElem?_eq_some_iff.mp h).1
        rw [List.length_set] at this; exact this
      rw [List.getElem?_set_self (by rw [r.len]; exact hi), h3 a z]
    · rw [List.getElem?_set_ne hj]; exact r.raw j a h
end
/-- try: body; except c as slot i: return (what hd tells of the exception) -/
def gTry (i : Nat) (g : DSt) (hd : Exn → Option D) : DSt := fun ρ => match g ρ with
  | .err x ρ1 => if (ρ1[i]?.isNone || isIo ρ1[i]?) = true then .bad else match hd x with
    | some d => .rt (.val d) (ρ1.set i none)
    | none => .bad
  | z => z
section
variable {X : Cx} {W : WX} {x n : Str} {c : Value} {i : Nat} {body : List Stmt} {e : Expr} {np pr pos pos' : Pos} {g : DSt} {hd : Exn → Option D}
theorem ds_tryAs (hs : X.stack = X.env :: X.outer) (hf : X.env.frame = some X.env.locals) (hN : X.N.Nodup) (hi : X.N[i]? = some n) (hln : X.env.kindOf n = some .local) (hc : Names X x c) (tk : L2N.Takes X W)
    (hb : ∀ (W' : WX) (pn : List (Addr × Obj)) (xe : Value → Shared → Prop), L2N.Takes (X.tr pn xe) W' → PassesOwn (model X.prog X.w) X.A X.env xe → DSs (X.tr pn xe) W' body g)
    (hh : ∀ y d, hd y = some d → ∃ C, X.mg y.cls = some (.ref C) ∧ y.arg = none ∧ PySem.W.exmOne X.K (.ref C) c = some true ∧ ∀ (a : Addr) (oe : Obj) (pn : List (Addr × Obj)), L2N.Zn (.ref C) none oe → (∃ vs, oe.data = .fields vs) →
      ∃ f, DE (X.suite a ((a, oe) :: pn)) W0 e f ∧ ∀ ρ, ρ[i]? = some (some (.raw a)) → f ρ = .ok (.val d) ρ) :
    DS X W (.Try body [.ExceptHandler (some (.Name x np)) (some n) [.Return (some e) pr] pos'] [] [] pos) (gTry i g hd) := by
  refine ⟨ps_imp (L2N.ps_try_as (Wout := W) (tb := fun W' => tDS X.K X.mg W' g) (ts := fun a cls dd E σ' H' => ∃ y d O ρ C, hd y = some d ∧ X.mg y.cls = some (.ref C) ∧ cls = .ref C ∧ dd = none ∧ RelEnv X.K O σ' H' ρ ∧ ρ[i]? = some (some (.raw a)) ∧
    ∀ u H'', EStp σ' ρ H' ρ H'' → RelEnv X.K O σ' H'' ρ → Dp X.K (Gv O σ' ρ H'') u d → E.rt u H'') hs hf hN hi hln hc tk (fun W' pn xe tk' po => (hb W' pn xe tk' po).pss) fun a oe cls dd pn hz hfl => ?_) fun E σ H ⟨O, ρ, r, s⟩ => ?_⟩
  · refine ⟨fun pins s σ H D I h => ?_⟩
    obtain ⟨y, d, O, ρ, C, h1, h2, h3, h4, h5, h6, h7⟩ := h
    subst h3 h4
    obtain ⟨C', k1, _, k3, k4⟩ := hh y d h1
    rw [h2] at k1
    cases k1
    obtain ⟨f, df, ef⟩ := k4 a oe pn hz hfl
    refine (pss_one (ps_ret (pos := pr) df.pe)).run pins s σ H D I ⟨O, ρ, h5, ?_⟩
    rw [ef ρ h6]
    exact fun u H'' st r' hu => h7 u H'' st r' hu
  · refine ⟨O, ρ, r, ?_⟩
    unfold gTry at s
    cases q : g ρ with
    | nx ρ1 => rw [q] at s; exact s
    | rt v ρ1 => rw [q] at s; exact s
    | bk ρ1 => rw [q] at s; exact s
    | ct ρ1 => rw [q] at s; exact s
    | bad => rw [q] at s; exact s
    | err y ρ1 =>
      rw [q] at s
      dsimp only at s
      intro cls dd σ' H' st r' ex
      split at s
      · exact s.elim
      rename_i hio
      have hio' : isIo ρ1[i]? = false := by
        cases z : isIo ρ1[i]? with
        | false => rfl
        | true => exact absurd (by rw [z, Bool.or_true]) hio
      split at s
      case h_2 => exact s.elim
      rename_i d hy
      obtain ⟨C, k1, k2, k3, _⟩ := hh y d hy
      obtain ⟨C', e1, e2, e3⟩ := ex
      rw [k1] at e1
      cases e1
      subst e2
      rw [k2] at e3
      refine ⟨true, k3, fun _ a ha => ?_, fun z => nomatch z⟩
      obtain ⟨r2, st2⟩ := set_gen (v := some (.ref a)) (x := some (.raw a)) r' hio' (fun _ _ z => nomatch z) (fun _ z => nomatch z) (fun b z => by cases z; rfl)
      have hlen : i < ρ1.length := by
        cases z : ρ1[i]? with
        | none => exact absurd (by rw [z]; rfl) hio
        | some _ => exact (List.getElem?_eq_some_iff.mp z).1
      refine ⟨y, d, O, ρ1.set i (some (.raw a)), C, hy, k1, rfl, e3, r2, List.getElem?_set_self hlen, fun u H'' st3 r3 hu => ?_⟩
      obtain ⟨r4, st4⟩ := set_gen (v := some (.ref a)) (x := none) r3 (by rw [List.getElem?_set_self hlen]; rfl) (fun _ _ z => nomatch z) (fun _ z => nomatch z) (fun b z => nomatch z)
      rw [List.set_set, List.set_set] at r4 st4
      exact s u _ H'' (((st.trans st2).trans st3.s).trans st4) ⟨r4, dp_mono st4.gv _ _ hu⟩
end
end DL

namespace DL
open L2 PySem PySem.Spec PyProof.Rows

theorem mul_same (l : Addr) (items : Array Value) (n : Nat) (dd : Option Addr) (sl : Array (Option Value)) (x : Int) (u : Tok) (c0 : (decide (x < -(2 ^ 63)) || decide (x ≥ 2 ^ 63)) = false) (c1 : (items.isEmpty || x == 1) = true) :
    Meets (Builtin.«tuple.__mul__» ⟨[.ref l, .int x u], []⟩) (fun _ R s => s.heap.get? l = some { cls := .type "tuple", dict := dd, data := .seq items n, slots := sl } ∧ R (.ok (.ret (Value.ref l))) s) :=
  .of_wp fun prog w A R s h => by
    obtain ⟨hp, g, d, tk, os⟩ := s
    obtain ⟨hl, h⟩ := h
    have f1 := AutoSeq1.idx_int
    wp_walk using wpAny_loadPart' hl
    refine wpAny_ite_false (decide_eq_false (by rw [c0]; exact Bool.false_ne_true)) ?_
    wp_walk using wpAny_loadPart' hl
    exact ⟨_, rfl, h⟩
theorem mul_none (l : Addr) (items : Array Value) (n : Nat) (dd : Option Addr) (sl : Array (Option Value)) (x : Int) (u : Tok) (c0 : (decide (x < -(2 ^ 63)) || decide (x ≥ 2 ^ 63)) = false) (c1 : (items.isEmpty || x == 1) = false) (c2 : (decide (x ≤ 0) || items.isEmpty) = true) :
    Meets (Builtin.«tuple.__mul__» ⟨[.ref l, .int x u], []⟩) (fun _ R s => s.heap.get? l = some { cls := .type "tuple", dict := dd, data := .seq items n, slots := sl } ∧
      R (.ok (.ret (Value.ref s.heap.objs.size))) { s with heap := s.heap.push { cls := Value.type "tuple", data := Data.seq #[] }, toks := s.toks }) :=
  .of_wp fun prog w A R s h => by
    obtain ⟨hp, g, d, tk, os⟩ := s
    obtain ⟨hl, h⟩ := h
    have f1 := AutoSeq1.idx_int
    wp_walk using wpAny_loadPart' hl
    refine wpAny_ite_false (decide_eq_false (by rw [c0]; exact Bool.false_ne_true)) ?_
    wp_walk using wpAny_loadPart' hl
    exact ⟨_, rfl, h⟩
/-- tuple * int, the rest: once, or none -/
def rRepO (K : PySem.W.Frag) : R2 := fun x y H Q => ∃ l k xs, x = .ref l ∧ y = .int k ∧ SqT K H l xs ∧ -(2 ^ 63) ≤ k ∧ k < 2 ^ 63 ∧ (((xs = [] ∨ k = 1) ∧ Q (.ref l) H) ∨ (xs ≠ [] ∧ k ≤ 0 ∧ ∀ p, H p = none → Q (.ref p) (upd H p (.tup []))))
theorem op_repO {X : Cx} : OpR X (binaryOp .Mult) (rRepO X.K) := by
  intro pins s σ H x y v u Q I rx ry h
  obtain ⟨l, k, xs, rfl, rfl, hT, h1, h2, h⟩ := h
  cases rx
  obtain ⟨t, rfl⟩ := ry
  obtain ⟨its, r, ⟨⟨cls, dd, data, sl⟩, ho, hc, n, hd⟩, hs⟩ := I.tuple hT
  simp only at hc hd
  subst hc hd
  have hle : its.length = xs.length := r.length.symm
  have c0 : (decide (k < -(2 ^ 63)) || decide (k ≥ 2 ^ 63)) = false := by
    rw [decide_eq_false (by omega), decide_eq_false (by omega)] <;> rfl
  rcases h with ⟨h3, q⟩ | ⟨h3, h4, q⟩
  · have c1 : (its.toArray.isEmpty || k == 1) = true := by
      rcases h3 with h3 | h3
      · subst h3
        have : its = [] := List.eq_nil_of_length_eq_zero hle
        subst this; rfl
      · subst h3; simp
    refine wpAny_binaryOp_repeat_ref (T := "tuple") (U := "int") (by decide) ⟨_, ho, rfl⟩ (fun s' => typeIs_int s' k t) noFill_tuple_mul F.fills_int_mul F.slot_int_rmul repeat_tuple F.slot_int_index.lookup
      (call_meets F.slot_int_rmul (typeIs_int s k t) F.entry_int_rmul (F.args_int_rmul_2 _ _) (int_rmul_tuple k t l its.toArray n dd sl)
        ⟨ho, rfl, ⟨_, ho, rfl⟩, call_meets F.slot_tuple_mul ⟨_, ho, rfl⟩ F.entry_tuple_mul (F.args_tuple_mul_2 _ _) (mul_same l its.toArray n dd sl k t c0 c1) ⟨ho, ?_⟩⟩)
    exact ⟨.ref l, H, I, rfl, q⟩
  · have c1 : (its.toArray.isEmpty || k == 1) = false := by
      have : its.toArray.isEmpty = false := by
        cases its with
        | nil => exact absurd (List.eq_nil_of_length_eq_zero hle.symm) h3
        | cons a b => rfl
      rw [this, Bool.false_or]
      exact beq_eq_false_iff_ne.mpr (by omega)
    have c2 : (decide (k ≤ 0) || its.toArray.isEmpty) = true := by rw [decide_eq_true h4]; rfl
    refine wpAny_binaryOp_repeat_ref (T := "tuple") (U := "int") (by decide) ⟨_, ho, rfl⟩ (fun s' => typeIs_int s' k t) noFill_tuple_mul F.fills_int_mul F.slot_int_rmul repeat_tuple F.slot_int_index.lookup
      (call_meets F.slot_int_rmul (typeIs_int s k t) F.entry_int_rmul (F.args_int_rmul_2 _ _) (int_rmul_tuple k t l its.toArray n dd sl)
        ⟨ho, rfl, ⟨_, ho, rfl⟩, call_meets F.slot_tuple_mul ⟨_, ho, rfl⟩ F.entry_tuple_mul (F.args_tuple_mul_2 _ _) (mul_none l its.toArray n dd sl k t c0 c1 c2) ⟨ho, ?_⟩⟩)
    refine ⟨.ref s.heap.objs.size, _, I.laid (t' := s.toks) (o := .tup []) (fun b ob q => Heap.get?_push_of_some _ q) (Nat.le_refl _) ?_, rfl, q _ (I.hok.fresh (Nat.le_refl _))⟩
    exact ⟨Nat.zero_le _, [], .nil, IsTup.new _ _⟩
/-- tuple * int, any small int -/
def kMulT : D → D → Option D
  | .tuple xs, .int k => if k ≤ 1000 ∧ xs.length ≤ 1000 ∧ -1000 ≤ k then some (.tuple (List.replicate k.toNat xs).flatten) else none
  | _, _ => none
theorem flat_nil {α : Type} : ∀ n : Nat, (List.replicate n ([] : List α)).flatten = []
  | 0 => rfl
  | n + 1 => by rw [List.replicate_succ, List.flatten_cons, flat_nil n]; rfl
theorem o_mulT {X : Cx} : OpR X (binaryOp .Mult) (rD2 X.K kMulT) := by
  intro pins s σ H x y v u Q I rx ry ⟨O, σ', ρ, a, b, d, e, z, r, ea, eb, hd, he, hk, q⟩
  unfold kMulT at hk
  split at hk
  · rename_i xs k
    split at hk
    · rename_i hz
      cases hk
      obtain ⟨p1, vs, rfl, s1, a1⟩ := RelE.tup ea r hd
      cases RelE.int eb r he
      have l1 := DL.DpAll.length a1
      by_cases hx : xs = []
      · subst hx
        have hv : vs = [] := List.eq_nil_of_length_eq_zero l1
        rw [flat_nil] at q
        exact op_repO pins s σ H _ _ v u Q I rx ry ⟨p1, k, vs, rfl, rfl, SqT.mono Gv_sub s1, by omega, by omega, .inl ⟨.inl hv, q _ H (Same.refl _) (.tup s1 a1)⟩⟩
      have hvx : vs ≠ [] := fun z => hx (List.eq_nil_of_length_eq_zero (by rw [← l1, z]; rfl))
      by_cases h1 : k = 1
      · subst h1
        have e1 : (List.replicate (1 : Int).toNat xs).flatten = xs := by simp
        rw [e1] at q
        exact op_repO pins s σ H _ _ v u Q I rx ry ⟨p1, 1, vs, rfl, rfl, SqT.mono Gv_sub s1, by omega, by omega, .inl ⟨.inr rfl, q _ H (Same.refl _) (.tup s1 a1)⟩⟩
      by_cases h0 : k ≤ 0
      · have e1 : (List.replicate k.toNat xs).flatten = [] := by rw [Int.toNat_of_nonpos h0]; rfl
        rw [e1] at q
        refine op_repO pins s σ H _ _ v u Q I rx ry ⟨p1, k, vs, rfl, rfl, SqT.mono Gv_sub s1, by omega, by omega, .inr ⟨hvx, h0, fun p hp => ?_⟩⟩
        obtain ⟨m1, m2⟩ := dp_new r hp (.nil)
        exact q _ _ m1 m2
      · refine op_repT pins s σ H _ _ v u Q I rx ry ⟨p1, k, vs, rfl, rfl, SqT.mono Gv_sub s1, hvx, by omega, hz.1, by omega, fun p hp => ?_⟩
        obtain ⟨m1, m2⟩ := dp_new r hp (DpAll.rep a1 k.toNat)
        exact q _ _ m1 m2
    · cases hk
  · cases hk
/-- [..] * k: a new list -/
def xRepL (f : DEnv → Res Cell) (g : DX) : DEnv → Res Cell := fun ρ => bindR (f ρ) fun c ρ1 => bindR (g ρ1) fun b ρ2 => match c, deref ρ2 b with
  | .lst ds, some (.int k) => if -1000 ≤ k ∧ k ≤ 1000 ∧ ds.length ≤ 1000 then .ok (.lst (List.replicate k.toNat ds).flatten) ρ2 else .bad
  | _, _ => .bad
theorem dl_repL {X : Cx} {W : WX} {a b : Expr} {f : DEnv → Res Cell} {g : DX} {pos : Pos} (ha : DLs X W a f) (hb : DE X W b g) : DLs X W (.BinOp a .Mult b pos) (xRepL f g) := by
  refine ⟨pe_imp (pe_op op_rep ha.pe hb.pe) fun σ H Q ⟨O, ρ, r, s⟩ => ⟨O, ρ, r, ?_⟩⟩
  unfold xRepL at s
  cases q : f ρ with
  | err x ρ1 => rw [q] at s; exact s
  | bad => rw [q] at s; exact s
  | ok c ρ1 =>
    rw [q] at s
    intro p H1 st hp n
    refine ⟨_, ρ1, n.1, ?_⟩
    dsimp only [bindR] at s
    cases q2 : g ρ1 with
    | err x ρ2 => rw [q2] at s; exact fun cls d H2 st2 r2 ex => s cls d H2 (st.trans st2) r2.unhide ex
    | bad => rw [q2] at s; exact s
    | ok y ρ2 =>
      rw [q2] at s
      intro v H2 st2 r2 e2
      dsimp only at s
      split at s
      case h_2 => exact s.elim
      rename_i ds k hk
      split at s
      case isFalse => exact s.elim
      rename_i hz
      obtain ⟨_, _, no, vs, n3, n4⟩ := n
      cases RelE.int e2 r2 hk
      have l1 := DL.DpAll.length n4
      have a1 : DpAll X.K (Gv O σ ρ2 H2) vs ds := dpAll_mono (fun a o z => gv_hide a o (st2.gv a o z)) _ _ n4
      have hzz : vs.length * k.toNat ≤ sizeLine := by
        have a1 : vs.length * k.toNat ≤ 1000 * 1000 := Nat.mul_le_mul (by omega) (by omega)
        rw [sizeLine_eq]; omega
      refine ⟨p, k, vs, rfl, rfl, st2.ext _ _ n3 no, by omega, by omega, hzz, fun p' hp' => ?_⟩
      refine s p' _ ((st.trans st2).trans (.same (same_upd hp'))) ((st.trans st2).none p' hp') (.mk' r2.unhide hp' (DpAll.rep a1 k.toNat))
end DL

namespace DL
open L2 PySem PySem.Spec PyProof.Rows

/-! ### methods that only look -/
def xMr (m : List D → List D → Option D) (fo : DX) (g : DEnv → Res (List EV)) : DX := fun ρ => bindR (fo ρ) fun a ρ1 => match deref ρ1 a with
  | some (.list _) => bindR (g ρ1) fun vs ρ2 => match deref ρ2 a with
    | some (.list ds) => optR (derefs ρ2 vs) fun as => optR (m ds as) fun z => .ok (.val z) ρ2
    | _ => .bad
  | _ => .bad
def MrOk (X : Cx) (id : String) (m : List D → List D → Option D) : Prop :=
  ∃ r, MtR X id r ∧ ∀ (H : Hp) (u : V) (args : List V) (ds as : List D) (z : D) (Q : VK), Dp X.K H u (.list ds) → DpAll X.K H args as → m ds as = some z → (∀ u H', Same H H' → Dp X.K H' u z → Q u H') → r u args H Q
theorem derefs_dp {K : Frg} {O : Addr → Prop} {σ : L2.St} {ρ : DEnv} {H : Hp} (r : RelEnv K O σ H ρ) : ∀ {us : List V} {vs : List EV} {ds : List D}, RelEs K O σ ρ H us vs → derefs ρ vs = some ds → DpAll K H us ds
  | [], [], _, _, e => by cases e; exact .nil
  | u :: us, v :: vs, ds, h, e => by
    unfold derefs at e
    split at e
    · rename_i d hd
      split at e
      · rename_i ds' hds
        cases e
        exact .cons (RelE.dp h.1 r hd) (derefs_dp r h.2 hds)
      · cases e
    · cases e
  | [], _ :: _, _, h, _ => h.elim
  | _ :: _, [], _, h, _ => h.elim
section
variable {X : Cx} {W : WX} {e : Expr} {es : List Expr} {o : Expr} {apos cpos : Pos} {name : Str} {id : String} {m : List D → List D → Option D}
theorem de_mr {fo : DX} (ho : DE X W o fo) (slot : Slot "list" name id) (hty : typeOf (.builtin id) = pure (.type "method_descriptor")) (hm : MrOk X id m) (hfl : ∀ ds as z, m ds as = some z → ∃ v, flat z = some v) {g : DEnv → Res (List EV)} (ha : DA X W (e :: es) g)
    (hbase : attributeBase o name X.env (eval o X.env) = eval o X.env := by rfl)
    (hfew : ((backTo cpos (starEach (e :: es) X.env)).all (fun x => !x.1) && (backToKw cpos (keywordEach [] X.env)).all (fun x => x.1.isSome)
      && decide ((e :: es).length + ([] : List Keyword).length + (if ([] : List Keyword).isEmpty then 0 else 1) < 30)) = true := by rfl)
    (hline : (apos.endLine == cpos.line) = true := by rfl) (hs : starEach (e :: es) X.env = (false, eval e X.env) :: starEach es X.env := by rfl) (hplain : (backTo cpos (starEach es X.env)).any (·.1) = false := by rfl) :
    DE X W (.Call (.Attribute o name apos) (e :: es) [] cpos) (xMr m fo g) := by
  obtain ⟨r, h1, h2⟩ := hm
  refine ⟨pe_imp (pe_bm PySem.F.plainAttrs_list slot hty h1 ho.pe ha.pa hbase hfew hline hs hplain) fun σ H Q ⟨O, ρ, rr, s⟩ => ⟨O, ρ, rr, (Sat.bind s).imp fun u H1 ⟨a, ρ1, r1, e1, s1⟩ => ?_⟩⟩
  try dsimp only at s1
  split at s1
  case h_2 => exact s1.elim
  rename_i ds0 hd0
  obtain ⟨p, vs0, hu, sq, _⟩ := RelE.lst e1 r1 hd0
  subst hu
  refine ⟨.inl ⟨rfl, vs0, sq⟩, O, ρ1, r1, ?_⟩
  cases q : g ρ1 with
  | err x ρ2 => rw [q] at s1; exact s1
  | bad => rw [q] at s1; exact s1
  | ok vs ρ2 =>
    rw [q, bindR_ok] at s1
    intro us H2 st2 r2 e2
    have s2 := Sat.shift s1 st2
    split at s2
    case h_2 => exact s2.elim
    rename_i ds hd
    obtain ⟨as, has, s3⟩ := optR_sat s2
    obtain ⟨z, hz, s4⟩ := optR_sat s3
    refine h2 H2 _ us ds as z Q (RelE.dp (e1.mono st2) r2 hd) (derefs_dp r2 e2 has) hz fun u' H' sm hu' => ?_
    obtain ⟨w, hw⟩ := hfl _ _ _ hz
    exact s4 u' H' (.same sm) (r2.same sm) (dp_any hu' hw)
/-- l.count(x) -/
def mCount : List D → List D → Option D := fun ds as => match as with
  | [d] => if SeqAt.shaped (.list ds) = true ∧ SeqAt.shaped d = true ∧ PyData.plainAll ds = true ∧ d.plain = true then some (.int ((ds.countP fun y => PyData.eqv y d : Nat) : Int)) else none
  | _ => none
def mIndex : List D → List D → Option D := fun ds as => match as with
  | [d] => if SeqAt.shaped (.list ds) = true ∧ SeqAt.shaped d = true then (ds.findIdx? fun y => PyData.eqv y d).map fun j => .int (j : Nat) else none
  | _ => none
theorem m_index (hu : X.A.units + 65 < cLine) : MrOk X "list.index" mIndex := by
  refine ⟨_, mt_indexD hu, fun H u args ds as z Q hd ha hz q => ?_⟩
  unfold mIndex at hz
  split at hz
  case h_2 => cases hz
  rename_i d
  split at hz
  case isFalse => cases hz
  rename_i hs
  cases hj : ds.findIdx? fun y => PyData.eqv y d with
  | none => rw [hj] at hz; cases hz
  | some j =>
    rw [hj] at hz
    cases hz
    cases ha with
    | cons h1 h2 =>
      cases h2
      obtain ⟨hlt, hp, hno⟩ := List.findIdx?_eq_some_iff_getElem.mp hj
      cases hd with
      | lst s a =>
        refine ⟨_, _, d, ds, j, ds[j], rfl, rfl, .lst s a, h1, hs.1, hs.2, List.getElem?_eq_getElem hlt, hp, fun m z' hm hz' => ?_, q _ H (Same.refl _) (.int _)⟩
        obtain ⟨hml, rfl⟩ := List.getElem?_eq_some_iff.mp hz'
        simpa using hno m hm
theorem m_count (hu : X.A.units + 66 < cLine) : MrOk X "list.count" mCount := by
  refine ⟨fun u args H Q => ∃ (ds : List D) (d : D) (y : V), args = [y] ∧ Dp X.K H u (.list ds) ∧ Dp X.K H y d ∧ SeqAt.shaped (.list ds) = true ∧ SeqAt.shaped d = true ∧ PyData.plainAll ds = true ∧ d.plain = true ∧ Q (.int ((ds.countP fun y => PyData.eqv y d : Nat) : Int)) H, fun pins s σ H x xs v us Q I rx rxs h => ?_, fun H u args ds as z Q hd ha hz q => ?_⟩
  · obtain ⟨ds, d, y, rfl, hx, hy, h1, h2, h3, h4, q⟩ := h
    cases rxs with
    | cons ry rt =>
      cases rt
      cases hx with
      | lst sq a =>
        cases rx
        obtain ⟨its, rv, pl, _⟩ := I.list sq
        obtain ⟨as, r4⟩ := Dp.readsAll I ds _ its a rv
        obtain ⟨bs, r5⟩ := Dp.reads I d y _ hy ry
        exact SeqAt.count_list_data pl.isList (show ReadsAll s.heap its.toArray.toList ds as from r4) r5 h3 h4 (room_in_shaped h2 (by omega)) ⟨.int _, H, I.tok _, ⟨_, rfl⟩, q⟩
  · unfold mCount at hz
    split at hz
    case h_2 => cases hz
    rename_i d
    split at hz
    case isFalse => cases hz
    rename_i hs
    cases hz
    cases ha with
    | cons h1 h2 =>
      cases h2
      exact ⟨ds, d, _, rfl, hd, h1, hs.1, hs.2.1, hs.2.2.1, hs.2.2.2, q _ H (Same.refl _) (.int _)⟩
end

/-! ### zip -/
section
variable {X : Cx} {W : WX} {K : Frg} {G0 : Hp}
def zipD : List D → List D → List D
  | a :: as, b :: bs => .tuple [a, b] :: zipD as bs
  | _, _ => []
theorem zipD_len : ∀ as bs : List D, (zipD as bs).length = min as.length bs.length
  | [], _ => by simp [zipD]
  | _ :: _, [] => by simp [zipD]
  | a :: as, b :: bs => by simp [zipD, zipD_len as bs] <;> omega
theorem zipD_at : ∀ {as bs : List D} {i : Nat} {x y : D}, as[i]? = some x → bs[i]? = some y → (zipD as bs)[i]? = some (.tuple [x, y])
  | [], _, _, _, _, h, _ => by simp at h
  | _ :: _, [], _, _, _, _, h => by simp at h
  | a :: as, b :: bs, 0, x, y, h1, h2 => by simp at h1 h2; subst h1 h2; rfl
  | a :: as, b :: bs, i + 1, x, y, h1, h2 => by simpa [zipD] using zipD_at (i := i) (by simpa using h1) (by simpa using h2)
theorem src_pair {J : It} {n : Nat} {G : Hp → Prop} {f g : Nat → Option V} {ds : List D} (w : Walk J n G (YPair f g)) (hn : ds.length = n) (hG : ∀ H, (∀ a o, G0 a = some o → H a = some o) → G H)
    (h : ∀ i x y, f i = some x → g i = some y → ∃ d e, ds[i]? = some (.tuple [d, e]) ∧ Dp K G0 x d ∧ Dp K G0 y e) : Src K G0 J ds := by
  unfold Src
  rw [hn]
  refine w.mono hG fun i H v H' hi hg y => ?_
  obtain ⟨T, x, y, rfl, hT, rfl, hx, hy⟩ := y
  obtain ⟨d, e, h1, h2, h3⟩ := h i x y hx hy
  refine ⟨_, h1, same_upd hT, fun O σ ρ r g => ?_⟩
  obtain ⟨n1, n2⟩ := r.fresh hT
  have mo : ∀ a o, G0 a = some o → Gv O σ ρ (upd H T (.tup [x, y])) a = some o := fun a o q => (EStp.same (same_upd hT)).gv a o (g a o q)
  exact L2.Dp.tup (SqT.of (Gv_of n1 n2 upd_same)) (.cons (dp_mono mo _ _ h2) (.cons (dp_mono mo _ _ h3) .nil))
theorem src_zip {a b : Addr} {vs ws : List V} {ds es : List D} (s1 : SqL K G0 a vs) (s2 : SqL K G0 b ws) (h1 : DpAll K G0 vs ds) (h2 : DpAll K G0 ws es) : Src K G0 (Itz K a b) (zipD ds es) := by
  refine src_pair (walk_zip (xs := vs) (ys := ws) (n := (zipD ds es).length) (by rw [zipD_len, DL.DpAll.length h1, DL.DpAll.length h2])) rfl (fun H g => ⟨SqL.mono g s1, SqL.mono g s2⟩) fun i x y hx hy => ?_
  obtain ⟨d, k1, k2⟩ := DL.DpAll.atV h1 hx
  obtain ⟨e, k3, k4⟩ := DL.DpAll.atV h2 hy
  exact ⟨d, e, zipD_at k1 k3, k2, k4⟩
theorem walk_zipT {a b : Addr} {xs ys : List V} {n : Nat} (hn : n = min xs.length ys.length) : Walk (RZ.ItzT K a b) n (fun H => SqT K H a xs ∧ SqT K H b ys) (YPair (fun i => xs[i]?) (fun i => ys[i]?)) := by
  refine ⟨fun i _ hi q => ?_, fun _ q => ?_, fun i H v H' _ q y => ?_⟩
  · have l1 : i < xs.length := by omega
    have l2 : i < ys.length := by omega
    exact ⟨xs, ys, xs[i], ys[i], q.1, q.2, List.getElem?_eq_getElem l1, List.getElem?_eq_getElem l2⟩
  · exact ⟨xs, ys, q.1, q.2, by omega⟩
  · obtain ⟨T, x, z, e1, e2, e3, e4, e5⟩ := y
    exact ⟨T, x, z, e1, e2, e3, e4 xs q.1, e5 ys q.2⟩
theorem src_zipT {a b : Addr} {vs ws : List V} {ds es : List D} (s1 : SqT K G0 a vs) (s2 : SqT K G0 b ws) (h1 : DpAll K G0 vs ds) (h2 : DpAll K G0 ws es) : Src K G0 (RZ.ItzT K a b) (zipD ds es) := by
  refine src_pair (walk_zipT (xs := vs) (ys := ws) (n := (zipD ds es).length) (by rw [zipD_len, DL.DpAll.length h1, DL.DpAll.length h2])) rfl (fun H g => ⟨SqT.mono g s1, SqT.mono g s2⟩) fun i x y hx hy => ?_
  obtain ⟨d, k1, k2⟩ := DL.DpAll.atV h1 hx
  obtain ⟨e, k3, k4⟩ := DL.DpAll.atV h2 hy
  exact ⟨d, e, zipD_at k1 k3, k2, k4⟩
def iZip (g : DEnv → Res (List EV)) : DEnv → Res (List D) := fun ρ => bindR (g ρ) fun vs ρ1 => optR (keeps vs ρ1) fun p => match p.1 with
  | [.list ds, .list es] => .ok (zipD ds es) p.2
  | [.tuple ds, .tuple es] => .ok (zipD ds es) p.2
  | _ => .bad
theorem di_zip {e e2 : Expr} {g : DEnv → Res (List EV)} {p pos tpos : Pos} {elts : List Expr} {kk : Nat} (hm : X.mg "zip" = none) (ha : DA X W [e, e2] g) (hg : Gl X "zip" := by rfl)
    (hs : starEach [e, e2] X.env = (false, eval e X.env) :: starEach [e2] X.env := by rfl) (hpl : (backTo pos (starEach [e2] X.env)).any (·.1) = false := by rfl) :
    DI X W (.Tuple elts kk tpos) (.Call (.Name "zip" p) [e, e2] [] pos) (iZip g) := by
  refine ⟨pi_imp (RZ.pi_zipA hg hm ha.pa hs hpl) fun σ H R ⟨O, ρ, r, s⟩ => ⟨O, ρ, r, (sat_bindI s).imp fun us H1 ⟨vs, ρ1, r1, e1, st, s1⟩ => ?_⟩⟩
  obtain ⟨⟨ds, ρ2⟩, hk, s2⟩ := optR_satI s1
  obtain ⟨r2, st2, a⟩ := keeps_ok r1 e1 hk
  try dsimp only at s2
  split at s2
  · cases a with
    | cons a1 a2 => cases a2 with
      | cons a2 a3 =>
        cases a3
        cases a1 with
        | lst s1 b1 => cases a2 with
          | lst s2' b2 => exact ⟨_, _, _, _, rfl, .inl ⟨SqL.mono Gv_sub s1, SqL.mono Gv_sub s2', s2 _ H1 st2 r2 (src_zip s1 s2' b1 b2)⟩⟩
  · cases a with
    | cons a1 a2 => cases a2 with
      | cons a2 a3 =>
        cases a3
        cases a1 with
        | tup s1 b1 => cases a2 with
          | tup s2' b2 => exact ⟨_, _, _, _, rfl, .inr ⟨SqT.mono Gv_sub s1, SqT.mono Gv_sub s2', s2 _ H1 st2 r2 (src_zipT s1 s2' b1 b2)⟩⟩
  · exact s2.elim
end

/-! ### a, b = x, y; target = x; return of an own thing -/
def gPar (i j : Nat) (g : DEnv → Res (List EV)) : DSt := fun ρ => bindF (g ρ) fun vs ρ1 => optF (keeps vs ρ1) fun p => match p.1 with
  | [d, e] => if (isIo p.2[i]? || isIo (p.2.set i (some (.val d)))[j]?) = true then .bad else .nx ((p.2.set i (some (.val d))).set j (some (.val e)))
  | _ => .bad
section
variable {X : Cx} {W : WX}
theorem ds_par {i j : Nat} {x y : Str} {a b : Expr} {g : DEnv → Res (List EV)} {px py pt pos : Pos} {kt k2 pt2} (hc : X.calm = true) (hN : X.N.Nodup) (ha : DA X W [a, b] g) (hij : i ≠ j := by decide) (hi : X.N[i]? = some x := by rfl) (hj : X.N[j]? = some y := by rfl)
    (hx : X.env.scope.names.lookup x = some .local := by rfl) (hy : X.env.scope.names.lookup y = some .local := by rfl)
    (hw : swappedStores [.Tuple [.Name x px, .Name y py] kt pt] (.Tuple [a, b] k2 pt2) X.env = pure (some [x, y]) := by rfl)
    (hs : swapsWithSole [.Tuple [.Name x px, .Name y py] kt pt] (.Tuple [a, b] k2 pt2) pos.line X.env = pure false := by rfl) :
    DS X W (.Assign [.Tuple [.Name x px, .Name y py] kt pt] (.Tuple [a, b] k2 pt2) pos) (gPar i j g) := by
  refine ⟨ps_imp (ps_par hc hN hi hj hij hx hy ha.pa hw hs) fun E σ H ⟨O, ρ, r, s⟩ => ⟨O, ρ, r, (SatS.bind s).imp fun us H1 ⟨vs, ρ1, r1, e1, st1, s1⟩ => ?_⟩⟩
  obtain ⟨⟨ds, ρ2⟩, hk, s2⟩ := optF_sat s1
  obtain ⟨r2, st2, a⟩ := keeps_ok r1 e1 hk
  try dsimp only at s2
  split at s2
  case h_2 => exact s2.elim
  rename_i d e
  split at s2
  · exact s2.elim
  rename_i hio
  have h12 : isIo ρ2[i]? = false ∧ isIo (ρ2.set i (some (.val d)))[j]? = false := by simpa using hio
  cases a with
  | cons a1 a2 => cases a2 with
    | cons a2 a3 =>
      cases a3
      obtain ⟨r3, st3⟩ := set_val r2 h12.1 a1
      obtain ⟨r4, st4⟩ := set_val r3 h12.2 (dp_mono st3.gv _ _ a2)
      exact ⟨_, _, rfl, s2 _ H1 ((st2.s.trans st3).trans st4) r4⟩
def gAsg (f : DX) (bind : D → DEnv → Option DEnv) : DSt := fun ρ => bindF (f ρ) fun v ρ1 => optF (keep v ρ1) fun p => optF (bind p.1 p.2) fun ρ3 => .nx ρ3
theorem ds_asg {tg e : Expr} {f : DX} {sl : List Nat} {bind : D → DEnv → Option DEnv} {pos : Pos} (he : DE X W e f) (hg : DG X tg sl bind) (hs : swapsWithSole [tg] e pos.line X.env = pure false := by rfl) (hw : swappedStores [tg] e X.env = pure none := by rfl)
    (h1 : (assignEach [tg] X.env).map (·.2) = [assign tg X.env] := by rfl) : DS X W (.Assign [tg] e pos) (gAsg f bind) := by
  refine ⟨ps_imp (ps_asg he.pe hg.pg hs hw h1) fun E σ H ⟨O, ρ, r, s⟩ => ⟨O, ρ, r, (SatS.bind s).imp fun u H1 ⟨v, ρ1, r1, e1, st1, s1⟩ => ?_⟩⟩
  obtain ⟨⟨d, ρ2⟩, hk, s2⟩ := optF_sat s1
  obtain ⟨r2, st2, a⟩ := keep_ok r1 e1 hk
  obtain ⟨ρ3, h3, s3⟩ := optF_sat s2
  exact ⟨O, ρ2, d, ρ3, r2, a, h3, fun σ1 st r3 _ _ => s3 σ1 H1 (st2.s.trans st) r3⟩
theorem ds_retOwn {i : Nat} {e : Expr} {pos : Pos} (he : PE X e (tVar i)) : DS X W (.Return (some e) pos) (gRetOwn i) := by
  refine ⟨ps_imp (ps_ret he) fun E σ H ⟨O, ρ, r, s⟩ => ?_⟩
  unfold gRetOwn at s
  split at s
  case h_2 => exact s.elim
  rename_i c hi
  obtain ⟨a, h1, h2, h3⟩ := r.own i _ _ hi
  have hil : i < ρ.length := (List.getElem?_eq_some_iff.mp hi).1
  have hio : isIo ρ[i]? = false := by rw [hi]; rfl
  -- given up: the name holds nothing
  have st : SStp σ ρ H σ (ρ.set i none) H := ⟨fun _ _ h _ => h, fun _ h => h, fun b ⟨j, io, c', e1, e2⟩ => .inl (by
    by_cases hj : i = j
    · subst hj; rw [List.getElem?_set_self hil] at e1; cases e1
    · rw [List.getElem?_set_ne hj] at e1; exact ⟨j, io, c', e1, e2⟩), fun j c' h => by
    have hj : i ≠ j := by rintro rfl; rw [h] at hio; cases hio
    rw [List.getElem?_set_ne hj]; exact ⟨rfl, c', h⟩⟩
  have nt : ∀ {j : Nat} {y : SV}, (ρ.set i none)[j]? = some (some y) → i ≠ j ∧ ρ[j]? = some (some y) := fun {j y} e1 => by
    by_cases hj : i = j
    · subst hj; rw [List.getElem?_set_self hil] at e1; cases e1
    · rw [List.getElem?_set_ne hj] at e1; exact ⟨hj, e1⟩
  have no : ¬ Ow σ (ρ.set i none) a := fun ⟨j, io, c', e1, e2⟩ => by
    obtain ⟨hj, e1⟩ := nt e1
    exact hj (r.inj i j a _ _ _ _ hi e1 h1 e2)
  have gv : ∀ x o, Gv O σ ρ H x = some o → Gv (fun b => O b ∨ b = a) σ (ρ.set i none) H x = some o := fun x o q => by
    obtain ⟨q1, q2, q3⟩ := of_Gv (st.gv (O := O) x o q)
    exact Gv_of (fun z => z.elim q1 fun z => (of_Gv q).2.1 ⟨i, false, c, hi, by rw [z]; exact h1⟩) q2 q3
  refine ⟨_, h1, s _ σ H st ⟨a, rfl, ⟨⟨by rw [List.length_set]; exact r.len, fun x q => ?_, fun j d q => ?_, fun j b c' q => ?_, fun j k x b c' b' c'' e1 e2 e3 e4 => ?_, fun j x q => r.raw j x (nt q).2⟩, h2, no, h3.mono gv fun _ q => q⟩, .inl ⟨i, false, c, hi, h1⟩⟩⟩
  · rcases q with q | q
    · exact r.oa x q
    · obtain ⟨o, ho⟩ := h3.some
      rw [q, ho]; exact fun z => nomatch z
  · obtain ⟨v, k1, k2⟩ := r.val j d (nt q).2
    exact ⟨v, k1, dp_mono gv _ _ k2⟩
  · obtain ⟨a2, k1, k2, k3⟩ := r.own j b c' (nt q).2
    refine ⟨a2, k1, fun z => z.elim k2 fun z => (nt q).1 (r.inj i j a _ _ _ _ hi (nt q).2 h1 (by rw [← z]; exact k1)), k3.mono gv fun _ q => q⟩
  · exact r.inj j k x _ _ _ _ (nt e1).2 (nt e2).2 e3 e4
end
end DL

namespace DL
open L2 PySem PySem.Spec PyProof.Rows

/-! ### [f, g, h][i](e, ..) -/
theorem FOk.mono {P : Program} {w : World} {K : Frg} {mg : Mg} {base : Heap} {x : Str} {j k : Nat} {ps : List Str} {sp : Sp} (h : FOk P w K mg base x j ps sp) (hj : j ≤ k) : FOk P w K mg base x k ps sp :=
  let ⟨f, fd, a, b, c, d⟩ := h
  ⟨f, fd, a.mono hj, b, c, d⟩
inductive Sel (X : Cx) (k n : Nat) : List Expr → List Addr → List Fn → Prop
  | nil : Sel X k n [] [] []
  | cons {x : Str} {p : Pos} {es : List Expr} {f : Addr} {fs : List Addr} {F : Fn} {Fs : List Fn} (hg : Gl X x) (hd : (x == ("__debug__" : Str)) = false) (hm : X.mg x = some (.ref f))
      (h : ∃ fd ps, FnOk X.prog X.w X.K X.mg X.base (L2N.CX X.prog X.w) k f fd ps (spP X.K X.mg n F) ∧ PySem.W.keepIn X.K (.ref f) = true ∧ Binds X.K fd ps []) (r : Sel X k n es fs Fs) : Sel X k n (.Name x p :: es) (f :: fs) (F :: Fs)
theorem Sel.one {X : Cx} {k j n : Nat} {x : Str} {p : Pos} {ps : List Str} {es : List Expr} {Fs : List Fn} {F : Fn} (C : FOk X.prog X.w X.K X.mg X.base x j ps (spP X.K X.mg n F)) (hj : j ≤ k) (r : ∃ fs, Sel X k n es fs Fs) (hg : Gl X x := by rfl) (hd : (x == ("__debug__" : Str)) = false := by decide) :
    ∃ fs, Sel X k n (.Name x p :: es) fs (F :: Fs) := by
  obtain ⟨f, fd, a, b, c, d⟩ := C.mono hj
  obtain ⟨fs, r⟩ := r
  exact ⟨f :: fs, .cons hg hd b ⟨fd, ps, a, c, d⟩ r⟩
theorem Sel.pa {X : Cx} {k n : Nat} {es : List Expr} {fs : List Addr} {Fs : List Fn} (h : Sel X k n es fs Fs) : PA X es (fun σ H Q => Q (fs.map V.ref) H) := by
  induction h with
  | nil => exact pa_imp pa_nil fun σ H Q q => q
  | @cons x p es f fs F Fs hg hd hm h r ih => exact pa_imp (pa_cons (pe_glob (u := .ref f) hg hm (show RelV (V.ref f) (Value.ref f) from rfl) hd) ih rfl) fun σ H Q q => q
theorem Sel.at {X : Cx} {k n : Nat} {es : List Expr} {fs : List Addr} {Fs : List Fn} (h : Sel X k n es fs Fs) : fs.length = Fs.length ∧ ∀ (i : Nat) (F : Fn), Fs[i]? = some F →
    ∃ f fd ps, fs[i]? = some f ∧ FnOk X.prog X.w X.K X.mg X.base (L2N.CX X.prog X.w) k f fd ps (spP X.K X.mg n F) ∧ PySem.W.keepIn X.K (.ref f) = true ∧ Binds X.K fd ps [] := by
  induction h with
  | nil => exact ⟨rfl, fun i F e => by simp at e⟩
  | @cons x p es f fs F0 Fs hg hd hm h r ih =>
    refine ⟨by simp [ih.1], fun i F e => ?_⟩
    cases i with
    | zero =>
      simp at e; subst e
      obtain ⟨fd, ps, a, b, c⟩ := h
      exact ⟨f, fd, ps, rfl, a, b, c⟩
    | succ i => simpa using ih.2 i F (by simpa using e)
/-- what a call asks of its arguments -/
theorem callD {K : Frg} {mg : Mg} {O : Addr → Prop} {σ : L2.St} {ρ : DEnv} {H : Hp} {W : WX} {n : Nat} {F : Fn} {g : DEnv → Res (List EV)} {Q : VK} (r : RelEnv K O σ H ρ) (hlen : ∀ ρ vs ρ', g ρ = .ok vs ρ' → vs.length = n)
    (s : Sat K mg O σ ρ H W (fun ρ' H' u a => RelE K O σ ρ' H' u a) Q (xCall F g ρ)) : tDA K mg W g σ H (fun us H1 => spP K mg n F us H1 Q (WE W σ)) := by
  refine ⟨O, ρ, r, ?_⟩
  unfold xCall at s
  cases q : g ρ with
  | ok vs ρ1 =>
    rw [q, bindR_ok] at s
    intro us H1 st r1 e1
    obtain ⟨ds, hd, s2⟩ := optR_sat (Sat.shift s st)
    exact call_core (k := 0) r1 e1 hd ((RelEs.len e1).trans (hlen _ _ _ q)) s2
  | err x ρ1 => rw [q] at s; exact s
  | bad => rw [q] at s; exact s
def xSel (Fs : List Fn) (fi : DX) (g : DEnv → Res (List EV)) : DX := fun ρ => bindR (fi ρ) fun j ρ1 => match deref ρ1 j with
  | some (.int i) => match atI Fs i with
    | some F => xCall F g ρ1
    | none => .bad
  | _ => .bad
section
variable {X : Cx} {W : WX} {k n : Nat} {fes : List Expr} {Fs : List Fn} {fi : DX} {g : DEnv → Res (List EV)} {ix e : Expr} {es : List Expr} {lp sp_ pos : Pos}
theorem de_sel (C : ∃ fs, Sel X k n fes fs Fs) (hz : Fs.length ≤ 1000) (hr : Room k X.A) (hx : ∀ σ, PassesAt (L2N.CX X.prog X.w) X σ (WE W σ)) (hi : DE X W ix fi) (ha : DA X W (e :: es) g) (hpi : PlainIx ix := by exact fun _ _ => rfl)
    (ht : eval (.Call (.Subscript (.List fes lp) ix sp_) (e :: es) [] pos) X.env = (do callWith pos (← eval (.Subscript (.List fes lp) ix sp_) X.env) [] (backTo pos (starEach (e :: es) X.env)) (backToKw pos (keywordEach [] X.env))) := by rfl)
    (he : starEach (e :: es) X.env = (false, eval e X.env) :: starEach es X.env := by rfl) (hpl : (backTo pos (starEach es X.env)).any (·.1) = false := by rfl) (hlen : ∀ ρ vs ρ', g ρ = .ok vs ρ' → vs.length = n) :
    DE X W (.Call (.Subscript (.List fes lp) ix sp_) (e :: es) [] pos) (xSel Fs fi g) := by
  obtain ⟨fs, S⟩ := C
  obtain ⟨hl, hat⟩ := S.at
  refine ⟨⟨fun pins s σ H Q I ⟨O, ρ, r, st⟩ => ?_⟩⟩
  have pf := pe_ix (pos := sp_) ix_list (pe_lst (pos := lp) S.pa) hi.pe hpi
  refine Call_ (thn (pf.run pins s σ H (fun v H1 => ∃ f F fd ps O' ρ1, v = .ref f ∧ FnOk X.prog X.w X.K X.mg X.base (L2N.CX X.prog X.w) k f fd ps (spP X.K X.mg n F) ∧ PySem.W.keepIn X.K (.ref f) = true ∧ Binds X.K fd ps [] ∧ RelEnv X.K O' σ H1 ρ1 ∧
    Sat X.K X.mg O' σ ρ1 H1 W (fun ρ' H' u a => RelE X.K O' σ ρ' H' u a) Q (xCall F g ρ1)) I ?_) fun u s1 ⟨v, H1, I1, rv, f, F, fd, ps, O', ρ1, ev, Fo, hk, hb, r1, s2⟩ => ?_) ht
  · refine ⟨by rw [List.length_map, hl]; exact Nat.le_trans hz (by rw [sizeLine_eq]; omega), fun p hp => ⟨_, ρ, r.hidden hp, ?_⟩⟩
    unfold xSel at st
    cases q : fi ρ with
    | err x ρ1 => rw [q] at st; exact fun cls d H2 st2 r2 ex => st cls d H2 ((EStp.same (same_upd hp)).trans st2) r2.unhide ex
    | bad => rw [q] at st; exact st
    | ok j ρ1 =>
      rw [q, bindR_ok] at st
      intro y H2 st2 r2 e2
      split at st
      case h_2 => exact st.elim
      rename_i i hd
      split at st
      case h_2 => exact st.elim
      rename_i F hF
      cases RelE.int e2 r2 hd
      have hF' := hF
      unfold atI at hF'
      cases qn : ixN Fs.length i with
      | none => rw [qn] at hF'; cases hF'
      | some m =>
        rw [qn] at hF'
        obtain ⟨f, fd, ps, hf, Fo, hk, hb⟩ := hat m F hF'
        have np := (r.fresh hp).2
        refine ⟨p, fs.map V.ref, i, .ref f, rfl, rfl, SqL.of (st2.ext _ _ upd_same np), ?_, f, F, fd, ps, O, ρ1, rfl, Fo, hk, hb, r2.unhide, Sat.shift st ((EStp.same (same_upd hp)).trans st2)⟩
        unfold atI
        rw [List.length_map, hl, qn]
        show (fs.map V.ref)[m]? = _
        rw [List.getElem?_map, hf]; rfl
  · subst ev
    obtain rfl : u = Value.ref f := rv
    refine PySem.W.callWith_K (h₀ := X.base) I1.ok.mod.kin hk (thn (ha.pa.run pos pins s1 σ H1 _ I1 (callD r1 hlen s2)) fun us s3 ⟨vs, H3, I3, r3, q3⟩ => ⟨I3.kIn, run_fnS Fo hr hb (hx σ) I3 r3 q3⟩) he hpl
end
end DL

namespace DL
open L2 PySem PySem.Spec PyProof.Rows

/-! ### the law's own def, run from the claim's caller alone (its guards are known) -/
def LawRun (P : Program) (w : World) (K : Frg) (mg : Mg) (base : Heap) (f : Addr) (fd : FuncData) (ps : List Str) (sp : Sp) : Prop :=
  ∀ (s : Shared) (H : Hp) (args : Args) (us : List Value) (vs : List V) (Q : VK), Env0 P w K mg base callerA [] s H → BindsTo s fd args (ps.zip us) → Vals vs us → sp vs H Q (fun _ _ _ => False) →
    codeAny (model P w) callerA (.call (.ref f) args) (CR (L2N.CX P w) [] P w H s Q (fun _ _ _ => False)) s
section
variable {P : Program} {w : World} {K : Frg} {mg : Mg} {base : Heap}
theorem law_run {x qual : Str} {st : Stmt} {f : Addr} {fd : FuncData} {N ps : List Str} {k : Nat} {body : DSt} (F : Fun K x qual st f fd) (S : FnScope N ps (defScope st)) (hroom : Room (k + 1) callerA)
    (hbody : ∀ (cdv : Value) (s : Shared) (H : Hp), Room k (callerA.deeper (envOfC qual (defScope st) s.heap.objs.size f cdv)) →
      L2N.Takes (cxN P w K mg base N qual st f cdv callerA [] s H (fun _ _ _ => False)) (fun _ _ _ _ => False) → PassesOwn (model P w) (cxN P w K mg base N qual st f cdv callerA [] s H (fun _ _ _ => False)).A (cxN P w K mg base N qual st f cdv callerA [] s H (fun _ _ _ => False)).env (cxN P w K mg base N qual st f cdv callerA [] s H (fun _ _ _ => False)).xe →
      DSs (cxN P w K mg base N qual st f cdv callerA [] s H (fun _ _ _ => False)) (fun _ _ _ _ => False) (defBody st) body) :
    LawRun P w K mg base f fd ps (spP K mg ps.length (runF N.length body)) := by
  obtain ⟨oc, od, kV, doc, pm, an, cdv, ct, osl, rfl, lk, hcd⟩ := F.ex
  intro s H args us vs Q e0 hb rv ⟨hl, O, ds, ho, ha, h⟩
  have KX : K.In s.heap := e0.mod.kin.keeps fun b o e => (e0.bs b o e).1
  have kinds : ∀ y ∈ ps.zip us, (defScope st).names.lookup y.1 = some .local ∨ ((defScope st).names.lookup y.1 = some .cell ∧ ((cellsFrom (s.heap.objs.size + 1) (defScope st).names []).lookup y.1).isSome = true) := by
    rintro ⟨n, v⟩ hy
    exact (S.par n (List.of_mem_zip hy).1).imp (fun q => q) fun q => ⟨q, PySem.W.cellsFrom_some _ _ _ (.inl q)⟩
  refine codeAny_call_function (show callerA.depth < recursionLimit from by have := hroom.dp; omega) (KX _ _ lk) rfl S.co S.gen rfl (PySem.W.codeRec_of KX hcd) (hb _ _ _ _ (wpAny_newFunctionEnv_cells S.kind kinds fun env he s1 x => ?_))
  cases he
  refine ⟨(e0.mod.nolimit.keeps fun b o e => (e0.bs b o e).1).keeps x.toInCall.keep, codeAny_func ?_⟩
  have I := L2.inv_start (CX := L2N.CX P w) (E := fun _ _ _ => False) S hroom.hd e0 hl rv x
  have B := hbody cdv s H (hroom.deeper _) (L2N.takes_of rfl rfl rfl rfl) (passes_of rfl)
  have now : ∀ a, ¬ Ow (L2.start N vs) (startD N.length ds) a := fun a ⟨i, b, c, e, _⟩ => startD_own e
  have same : ∀ {σ' : L2.St} {ρ' : DEnv} {H' : Hp}, SStp (L2.start N vs) (startD N.length ds) H σ' ρ' H' → Same H H' := fun st b o e => st.ext b o e (now b)
  have gvs : ∀ {σ' : L2.St} {ρ' : DEnv} {H' : Hp}, ∀ a o, Gv O σ' ρ' H' a = some o → Vis0 O H' a = some o := fun a o q => vis0.mpr ⟨(of_Gv q).1, (of_Gv q).2.2⟩
  have R : SatS K mg O (L2.start N vs) (startD N.length ds) H (fun _ _ _ _ => False) { nx := fun _ H' => Q .non H', rt := Q } (body (startD N.length ds)) := by
    change SatF K mg O H Q _ (match body (startD N.length ds) with
      | .nx _ => .ok (.val .none)
      | .rt v _ => .ok v
      | .err x _ => .err x
      | _ => .bad) at h
    cases q : body (startD N.length ds) with
    | nx ρ' => rw [q] at h; exact fun σ' H' st r => h .non H' (same st) .non
    | rt v ρ' =>
      rw [q] at h
      intro u σ' H' st r
      cases v with
      | val d => exact h u H' (same st) (dp_mono gvs _ _ r.2)
      | own c =>
        obtain ⟨p, rfl, ⟨r1, r2, r3, r4⟩, r5⟩ := r
        exact h p H' (same st) (r5.elim (fun z => absurd z (now p)) fun z => z) (r4.mono (fun a o z => vis0.mpr ⟨(of_Gv z).1, (of_Gv z).2.2⟩) fun _ z => z)
    | bk ρ' => rw [q] at h; exact h.elim
    | ct ρ' => rw [q] at h; exact h.elim
    | err x ρ' => rw [q] at h; exact fun cls d σ' H' st r ex => h cls d H' (same st) ex
    | bad => rw [q] at h; exact h.elim
  refine wpAny_mono (B.pss.run [] s1 (L2.start N vs) H { nx := fun _ H' => Q .non H', rt := Q } I ⟨O, startD N.length ds, start_rel ho ha, R⟩) (fun fl s' hs => ?_) fun e s' hs => hs
  cases fl with
  | ret u => exact let ⟨v, σ', H', J, rv', q⟩ := hs; ⟨v, H', J.os, J.bare, J.base, J.hok, rv', q⟩
  | next => exact let ⟨σ', H', J, q⟩ := hs; ⟨.non, H', J.os, J.bare, J.base, J.hok, (rfl : Value.none = Value.none), q⟩
  | brk => exact let ⟨_, _, _, q⟩ := hs; q.elim
  | cont => exact let ⟨_, _, _, q⟩ := hs; q.elim

/-- the heap as the law finds it: the script may be known, nothing else is -/
def Sees (K : Frg) (s : Shared) (a : Addr) (vs : List Value) (ns : List Int) (H : Hp) : Prop :=
  (∀ b u, H b = some u → b = a ∧ u = .frz { cls := .type "list", data := .seq vs.toArray } (.lst (ns.map V.int)) ∧ K.lookup a = none) ∧ SqL K H a (ns.map V.int) ∧ HOk P w H s.heap
theorem sees_env0 {s : Shared} {a : Addr} {vs : List Value} {ns : List Int} {H : Hp} {mb : Mg} (S : Sees (P := P) (w := w) K s a vs ns H) (ha : s.heap.get? a = some { cls := .type "list", data := .seq vs.toArray }) (KX : K.In s.heap) (hns : s.heap.Ns mainGlobals mg)
    (hb : s.heap.Ns builtinsNs mb) (hbb : ∀ x : Str, x ≠ "__name__" → mb x = bootBuiltins x) (hlim : s.heap.NoLimit) (hg : s.gens = #[]) :
    K.In (hidT s.heap H) ∧ (hidT s.heap H).Ns mainGlobals mg ∧ Env0 P w K mg (hidT s.heap H) callerA [] s H := by
  obtain ⟨only, _, hok⟩ := S
  have dicts : ∀ {b : Addr} {m : Mg}, s.heap.Ns b m → (hidT s.heap H).Ns b m := fun {b m} ⟨o, es, ep, e, d, r⟩ => by
    refine ⟨o, es, ep, hidT_get e ?_, d, r⟩
    cases q : H b with
    | none => rfl
    | some u =>
      obtain ⟨z, _, _⟩ := only b u q
      rw [z, ha] at e
      cases e
      have d' : Data.seq vs.toArray _ = Data.dict es ep := d
      cases d'
  have kin : K.In (hidT s.heap H) := fun b o e => hidT_get (KX b o e) (by
    cases q : H b with
    | none => rfl
    | some u =>
      obtain ⟨z, _, z2⟩ := only b u q
      rw [z, z2] at e; cases e)
  obtain ⟨mc, c1, c2⟩ := hlim
  exact ⟨kin, dicts hns, ⟨rfl, ⟨kin, dicts hns, ⟨mb, dicts hb, hbb⟩, ⟨mc, dicts c1, c2⟩⟩, fun b o e => of_hidT e, Nat.le_of_eq (hidT_size _ _), trivial, (fun b hb => nomatch (show b ∈ ([] : List Addr) from hb)), hok, .of_eq hg⟩⟩
theorem head_call {mb : Mg} {fa a : Addr} {fd : FuncData} {x : Str} {sp : Sp} {s₁ : Shared} {vs : List Value} {ns : List Int}
    (KX : K.In s₁.heap) (hns : s₁.heap.Ns mainGlobals mg) (hb : s₁.heap.Ns builtinsNs mb) (hbb : ∀ x : Str, x ≠ "__name__" → mb x = bootBuiltins x) (hlim : s₁.heap.NoLimit) (hg : s₁.gens = #[])
    (ha : s₁.heap.get? a = some { cls := .type "list", data := .seq vs.toArray }) (hi : IntsAre vs ns) (hl : ns.length ≤ sizeLine)
    (F : ∀ base : Heap, K.In base → base.Ns mainGlobals mg → LawRun P w K mg base fa fd [x] sp) (hbind : ∀ (s : Shared) (u : Value), BindsTo s fd ⟨[u], []⟩ [(x, u)])
    (hsp : ∀ H : Hp, SqL K H a (ns.map V.int) → sp [.ref a] H (fun v _ => v = .bl true) fun _ _ _ => False) :
    codeAny (model P w) callerA (.call (.ref fa) ⟨[.ref a], []⟩) (fun r s' => r = .ok (.ret (.bool true)) ∧ OldK s₁.heap s'.heap ∧ s'.os = s₁.os ∧ AllBare s'.gens) s₁ := by
  have rv := vals_ints hi
  have some_H : ∃ H, Sees (P := P) (w := w) K s₁ a vs ns H := by
    cases hk : K.lookup a with
    | some o =>
      have e := KX a o hk
      rw [ha] at e
      cases e
      exact ⟨fun _ => none, (fun b u z => nomatch (show (none : Option HO) = some u from z)), .inr ⟨_, vs.toArray, _, hk, rfl, rfl, rfl, by rw [List.size_toArray, hi.length]; exact hl, by simpa using rv⟩, (fun b u z => nomatch (show (none : Option HO) = some u from z))⟩
    | none =>
      have key : ∀ b u, (if b = a then some (HO.frz { cls := .type "list", data := .seq vs.toArray } (.lst (ns.map V.int))) else none) = some u → b = a ∧ u = .frz { cls := .type "list", data := .seq vs.toArray } (.lst (ns.map V.int)) := fun b u z => by
        split at z
        · rename_i hba; cases z; exact ⟨hba, rfl⟩
        · cases z
      refine ⟨fun b => if b = a then some (.frz { cls := .type "list", data := .seq vs.toArray } (.lst (ns.map V.int))) else none, fun b u z => ⟨(key b u z).1, (key b u z).2, hk⟩, .inl (.inr ⟨_, if_pos rfl⟩), fun b u z => ?_⟩
      obtain ⟨rfl, rfl⟩ := key b u z
      exact ⟨ha, by rw [List.length_map]; exact hl, vs, _, rv, ha⟩
  obtain ⟨H, S⟩ := some_H
  obtain ⟨k1, k2, e0⟩ := sees_env0 S ha KX hns hb hbb hlim hg
  refine codeAny_mono (F _ k1 k2 s₁ H ⟨[.ref a], []⟩ [.ref a] [.ref a] _ e0 (hbind s₁ (.ref a)) (.cons rfl .nil) (hsp H S.2.1)) fun r s' h => ?_
  cases r with
  | error e => obtain ⟨_, _, _, _, _, _, _, _, _, _, _, _, z⟩ := h; exact z.elim
  | ok fl =>
    cases fl with
    | next => exact False.elim h
    | brk => exact False.elim h
    | cont => exact False.elim h
    | ret u =>
      obtain ⟨v, H', os, bare, un, hok', r', q⟩ := h
      cases (show v = .bl true from q)
      cases (show u = Value.bool true from r')
      refine ⟨rfl, OldK.of_keep fun b o e => ?_, os, bare⟩
      cases z : H b with
      | none => exact un.keep b o e z (fun q => nomatch (show b ∈ ([] : List Addr) from q)) (fun q => nomatch (show b ∈ ([] : List Addr) from q))
      | some u =>
        obtain ⟨_, zu, _⟩ := S.1 b u z
        subst zu
        have t1 := (S.2.2 b _ z).1
        rw [e] at t1
        cases t1
        exact (hok' b _ (un.frzs b _ _ z)).1
theorem walk_D {l : PySem.W.OpenLaw} {n : Nat} {q : Program} {loose : List Str} {XP : (Str → Option Value) → Heap → Prop} {YP : World → Heap → Prop} {d : DefRec} {K : Params → Frg} {x : Str}
    (hn : l.most = some n) (hn2 : n ≤ sizeLine) (hdf : d.params.defaults = []) (hY : ∀ (w : World) (h : Heap), YP w h → (K w.params).In h)
    (F : ∀ (w : World) (mg : Mg) (fa : Addr) (h : Heap), (K w.params).In h → h.Ns mainGlobals mg → mg d.name = some (.ref fa) →
      ∃ (fd : FuncData) (Fl : Fn), (∀ (s : Shared) (u : Value), BindsTo s fd ⟨[u], []⟩ [(x, u)]) ∧ (∀ ns : List Int, ns.length ≤ n → (∀ z ∈ ns, Builtin.Int.intBits z ≤ 1048576) → Fl [.list (ns.map PyData.int)] = .ok (.val (.bool true))) ∧
        ∀ base : Heap, (K w.params).In base → base.Ns mainGlobals mg → LawRun l.prog w (K w.params) mg base fa fd [x] (spP (K w.params) mg 1 Fl)) :
    PySem.W.WalkO q loose XP YP l.row.toRowW d [] (fun f vs => PySem.call f vs) := by
  refine Att.attach_callB hn hdf fun w s₀ s₁ mg mb fa o pm cd doc a vs ns G Y ho hd hcd hmg hobj hints hlen hbits hg => ?_
  obtain ⟨fd, Fl, hb, hF, hrun⟩ := F w mg fa _ (hY w _ Y) G.T.g hmg
  refine head_call (hY w _ Y) G.T.g G.T.b G.T.builtins G.T.nolimit hg hobj hints (Nat.le_trans hlen hn2) hrun hb fun H hS => ⟨rfl, fun _ => False, [.list (ns.map PyData.int)], fun _ z => z.elim, ?_, ?_⟩
  · exact .cons (.lst (SqL.mono (fun b o e => vis0.mpr ⟨fun z => z, e⟩) hS) (DpAll.of_ints ns)) .nil
  · rw [hF ns hlen hbits]
    exact fun u H' _ hu => by cases hu; rfl
end
end DL

namespace DL
open L2 PySem PySem.Spec PyProof.Rows

/-! ### what the top has written -/
def Cst (mg : Mg) (x : Str) (n : Int) : Prop := ∃ t, mg x = some (.int n t)
theorem de_cint {X : Cx} {W : WX} {x : Str} {n : Int} {pos : Pos} (c : Cst X.mg x n) (hg : Gl X x := by rfl) (hd : (x == ("__debug__" : Str)) = false := by decide) : DE X W (.Name x pos) (xC (.int n)) := by
  obtain ⟨t, h⟩ := c
  exact de_glob (v := V.int n) h ⟨t, rfl⟩ (fun _ => L2.Dp.int n) hg hd
def Def (K : Frg) (mg : Mg) (x : Str) (st : Stmt) : Prop := ∃ f fd, Fun K x x st f fd ∧ mg x = some (.ref f)
def BindOk (x : Str) (st : Stmt) (ps : List Str) : Prop :=
  ∀ (kV doc pm : Value) (an : Option Addr) (cdv ct : Value) (us : List Value), us.length = ps.length → bindArgs (PySem.W.fnOf x x (defArgs st) (defBody st) (defScope st) .none kV doc pm an cdv ct) ⟨us, []⟩ = pure (ps.zip us)
theorem room_u {k : Nat} {A : Around} (r : Room k A) : A.units + 200 < cLine := by have := r.un; omega
section
variable {P : Program} {w : World} {K : Frg} {mg : Mg} {base : Heap}
theorem fok_data {x : Str} {st : Stmt} {N ps : List Str} {k : Nat} {body : DSt} (D : Def K mg x st) (S : FnScope N ps (defScope st)) (hb : BindOk x st ps)
    (hbody : ∀ (f : Addr) (cdv : Value) (A : Around) (outer : List Env) (s : Shared) (H : Hp) (E : XK), Room k (A.deeper (envOfC x (defScope st) s.heap.objs.size f cdv)) →
      L2N.Takes (cxN P w K mg base N x st f cdv A outer s H E) (fun cls d _ H => E cls d H) → PassesOwn (model P w) (cxN P w K mg base N x st f cdv A outer s H E).A (cxN P w K mg base N x st f cdv A outer s H E).env (cxN P w K mg base N x st f cdv A outer s H E).xe →
      DSs (cxN P w K mg base N x st f cdv A outer s H E) (fun cls d _ H => E cls d H) (defBody st) body) :
    FOk P w K mg base x (k + 1) ps (spP K mg ps.length (runF N.length body)) := by
  obtain ⟨f, fd, F, hm⟩ := D
  exact ⟨f, fd, fn_data F S (hbody f), hm, F.kp, F.binds hb⟩
theorem fok_io {x : Str} {st : Stmt} {N ps : List Str} {k : Nat} {body : DSt} (D : Def K mg x st) (S : FnScope N ps (defScope st)) (hN : 0 < N.length) (hb : BindOk x st ps)
    (hbody : ∀ (f : Addr) (cdv : Value) (A : Around) (outer : List Env) (s : Shared) (H : Hp) (E : XK), Room k (A.deeper (envOfC x (defScope st) s.heap.objs.size f cdv)) →
      L2N.Takes (cxN P w K mg base N x st f cdv A outer s H E) (fun cls d _ H => E cls d H) → PassesOwn (model P w) (cxN P w K mg base N x st f cdv A outer s H E).A (cxN P w K mg base N x st f cdv A outer s H E).env (cxN P w K mg base N x st f cdv A outer s H E).xe →
      DSs (cxN P w K mg base N x st f cdv A outer s H E) (fun cls d _ H => E cls d H) (defBody st) body) :
    FOk P w K mg base x (k + 1) ps (spI K ps.length (runI N.length body)) := by
  obtain ⟨f, fd, F, hm⟩ := D
  exact ⟨f, fd, fn_io F S hN (hbody f), hm, F.kp, F.binds hb⟩
theorem mflat_count : ∀ ds as z, mCount ds as = some z → ∃ v, flat z = some v := fun ds as z h => by
  unfold mCount at h
  split at h
  · split at h
    · cases h; exact ⟨_, rfl⟩
    · cases h
  · cases h
theorem mflat_index : ∀ ds as z, mIndex ds as = some z → ∃ v, flat z = some v := fun ds as z h => by
  unfold mIndex at h
  split at h
  · split at h
    · cases q : ds.findIdx? fun y => PyData.eqv y _ with
      | none => rw [q] at h; cases h
      | some j => rw [q] at h; cases h; exact ⟨_, rfl⟩
    · cases h
  · cases h

/-! ### a def that tells the kind of a caught exception -/
def KOk (P : Program) (w : World) (K : Frg) (mg : Mg) (base : Heap) (x : Str) (k : Nat) (c : Value) (hd : Exn → Option D) : Prop :=
  ∃ f fd ps, mg x = some (.ref f) ∧ PySem.W.keepIn K (.ref f) = true ∧ Binds K fd ps [] ∧ ∀ y d, hd y = some d → ∃ C, mg y.cls = some (.ref C) ∧ y.arg = none ∧ PySem.W.exmOne K (.ref C) c = some true ∧ (∃ v, flat d = some v) ∧ KFn P w K mg base k f fd ps C d
theorem suite_kind {X : Cx} {x n : Str} {k k' i : Nat} {c : Value} {hd : Exn → Option D} {q p pos : Pos} (Kk : KOk X.prog X.w X.K X.mg X.base x k c hd) (hr : Room k' X.A) (hk : k ≤ k') (hv : ∀ a pn, PE (X.suite a pn) (.Name n p) (tVar i)) (hg : Gl X x := by rfl) (hdb : (x == ("__debug__" : Str)) = false := by decide) :
    ∀ y d, hd y = some d → ∃ C, X.mg y.cls = some (.ref C) ∧ y.arg = none ∧ PySem.W.exmOne X.K (.ref C) c = some true ∧ ∀ (a : Addr) (oe : Obj) (pn : List (Addr × Obj)), L2N.Zn (.ref C) none oe → (∃ vs, oe.data = .fields vs) →
      ∃ f, DE (X.suite a ((a, oe) :: pn)) W0 (.Call (.Name x q) [.Name n p] [] pos) f ∧ ∀ ρ, ρ[i]? = some (some (.raw a)) → f ρ = .ok (.val d) ρ := by
  obtain ⟨f, fd, ps, hm, hkp, hb, h⟩ := Kk
  intro y d hy
  obtain ⟨C, h1, h2, h3, h4, F⟩ := h y d hy
  refine ⟨C, h1, h2, h3, fun a oe pn hz hfl => ?_⟩
  obtain ⟨vs, hvs⟩ := hfl
  have r := hr.mono hk
  refine ⟨xKind i a d, de_kind (X := X.suite a ((a, oe) :: pn)) (p := (a, oe)) ⟨rfl, vs, hvs, hz.2.2 vs hvs⟩ List.mem_cons_self hz F ⟨r.dp, r.un⟩ hm hkp hb (hv a _) h4 hg hdb, fun ρ e => ?_⟩
  unfold xKind
  rw [e]
  exact if_pos rfl
/-- a suite that hands back a constant -/
theorem suite_const {X : Cx} {x : Str} {i : Nat} {c : Value} {hd : Exn → Option D} {e : Expr} {d0 : D} (he : ∀ a pn, DE (X.suite a pn) W0 e (xC d0)) (h : ∀ y d, hd y = some d → d = d0 ∧ ∃ C, X.mg y.cls = some (.ref C) ∧ y.arg = none ∧ PySem.W.exmOne X.K (.ref C) c = some true) :
    ∀ y d, hd y = some d → ∃ C, X.mg y.cls = some (.ref C) ∧ y.arg = none ∧ PySem.W.exmOne X.K (.ref C) c = some true ∧ ∀ (a : Addr) (oe : Obj) (pn : List (Addr × Obj)), L2N.Zn (.ref C) none oe → (∃ vs, oe.data = .fields vs) →
      ∃ f, DE (X.suite a ((a, oe) :: pn)) W0 e f ∧ ∀ ρ, ρ[i]? = some (some (.raw a)) → f ρ = .ok (.val d) ρ := fun y d hy => by
  obtain ⟨rfl, C, h1, h2, h3⟩ := h y d hy
  exact ⟨C, h1, h2, h3, fun a oe pn _ _ => ⟨_, he a _, fun ρ _ => rfl⟩⟩
theorem kok_of {x : Str} {st : Stmt} {N ps : List Str} {k : Nat} {c : Value} {hd : Exn → Option D} (D : Def K mg x st) (S : FnScope N ps (defScope st)) (hb : BindOk x st ps) (h1 : ps.length = 1) (hN : 0 < N.length)
    (h : ∀ y d, hd y = some d → ∃ C, mg y.cls = some (.ref C) ∧ y.arg = none ∧ PySem.W.exmOne K (.ref C) c = some true ∧ (∃ v, flat d = some v) ∧ ∃ body : Addr → DSt, (∀ a, ∃ ρ', body a (startK N.length a) = .rt (.val d) ρ') ∧
      ∀ (f : Addr) (cdv : Value) (A : Around) (outer : List Env) (s : Shared) (H : Hp) (E : XK) (p : Addr × Obj), L2H.Hot1 A p → L2N.Zn (.ref C) none p.2 → L2H.RoomH k (A.deeper (envOfC x (defScope st) s.heap.objs.size f cdv)) →
        DSs (L2H.cxH (L2N.CX P w) P w K mg base N x (defScope st) f cdv A outer s H E p) W0 (defBody st) (body p.1)) : KOk P w K mg base x (k + 1) c hd := by
  obtain ⟨f, fd, F, hm⟩ := D
  refine ⟨f, fd, ps, hm, F.kp, F.binds hb, fun y d hy => ?_⟩
  obtain ⟨C, k1, k2, k3, k4, body, k5, k6⟩ := h y d hy
  exact ⟨C, k1, k2, k3, k4, kfn_of F S h1 hN (k6 f) k5⟩
end
theorem de_isT {X : Cx} {W : WX} {i : Nat} {a C : Addr} {oe : Obj} {b : Bool} {x y : Str} {p px py pos : Pos} (c : ExcC X.K C) (hp : (a, oe) ∈ X.pn) (hz : Zc (.ref C) none oe) (hf : ∃ vs, oe.data = .fields vs) (hm : X.mg "isinstance" = none) (hb : bootBuiltins "isinstance" = some (.builtin "isinstance")) (hv : PE X (.Name x px) (tVar i))
    (hk : ∃ G, X.mg y = some (.ref G) ∧ PySem.W.kitOne X.K (.ref C) (.ref G) = some b) (hg : Gl X "isinstance" := by rfl) (hgy : Gl X y := by rfl) (hdy : (y == ("__debug__" : Str)) = false := by decide)
    (hs : starEach [.Name x px, .Name y py] X.env = (false, eval (.Name x px) X.env) :: starEach [.Name y py] X.env := by rfl) (hs2 : starEach [.Name y py] X.env = (false, eval (.Name y py) X.env) :: starEach [] X.env := by rfl) (hpl : (backTo pos (starEach [.Name y py] X.env)).any (·.1) = false := by rfl) :
    DE X W (.Call (.Name "isinstance" p) [.Name x px, .Name y py] [] pos) (xIs i a b) := by
  obtain ⟨G, h1, h2⟩ := hk
  exact de_isE hp c hz hf hm hb hv h1 h2 hg hgy hdy hs hs2 hpl
theorem kit_of {K : Frg} {C E : Addr} {b : Bool} (h2 : PySem.W.hasDictIn K E = true) (h3 : PySem.W.typeIn K (.ref E) = some (.type "type")) (h4 : PySem.W.subIn K (.ref C) (.ref E) = some b) (h5 : PySem.W.subIn K (.ref E) (.ref E) = some true) : PySem.W.kitOne K (.ref C) (.ref E) = some b := by
  obtain ⟨cd, hc, _⟩ := PySem.W.any_some h2
  have e2 : ((PySem.W.clsIn K E).isSome && PySem.W.typeIn K (.ref E) == some (.type "type")) = true := by rw [hc, h3] <;> rfl
  unfold PySem.W.kitOne
  by_cases q : (Value.ref C == Value.ref E) = true
  · rw [if_pos q]
    cases beq_iff_eq.mp q
    rw [h5] at h4
    exact h4
  · rw [if_neg q]
    show (if ((PySem.W.clsIn K E).isSome && PySem.W.typeIn K (.ref E) == some (.type "type")) = true then PySem.W.subIn K (.ref C) (.ref E) else none) = some b
    rw [if_pos e2]
    exact h4
theorem u_count {n : Nat} (h : n + 200 < cLine) : n + 66 < cLine := by omega
theorem u_index {n : Nat} (h : n + 200 < cLine) : n + 65 < cLine := by omega
/-- what a table of kinds tells -/
def kindD (tab : List (Str × Str)) : Exn → Option D := fun y => if y.arg.isSome = true then none else (tab.lookup y.cls).map PyData.str
theorem kindD_mem {tab : List (Str × Str)} {y : Exn} {d : D} (h : kindD tab y = some d) : ∃ x z, (x, z) ∈ tab ∧ y = ⟨x, none⟩ ∧ d = .str z := by
  obtain ⟨cls, arg⟩ := y
  unfold kindD at h
  cases arg with
  | some _ => cases h
  | none =>
    change (tab.lookup cls).map PyData.str = some d at h
    cases q : tab.lookup cls with
    | none => rw [q] at h; cases h
    | some z => rw [q] at h; cases h; exact ⟨cls, z, PySem.mem_of_lookup q, rfl, rfl⟩
end DL

namespace DL
open L2 PySem PySem.Spec PyProof.Rows

/-! ### the mirrors, stepped by simp -/
section
variable {α β γ : Type} {ρ : DEnv} {i j : Nat} {fa fb fc : DX} {ta tb : DEnv → Res Bool} {g h : DSt} {ga : DEnv → Res (List EV)} {fl : DEnv → Res Cell}
@[simp] theorem sl_eq : (sizeLine : Nat) = 16777216 := sizeLine_eq
@[simp] theorem xVar_ap : xVar i ρ = match ρ[i]? with
  | some (some (.val d)) => .ok (.val d) ρ
  | some (some (.own _ _)) => .ok (.bor i) ρ
  | _ => .bad := (Eq.refl _).trans (Eq.refl _)
@[simp] theorem xC_ap {d : D} : xC d ρ = .ok (.val d) ρ := (Eq.refl _).trans (Eq.refl _)
@[simp] theorem deref_val {d : D} : deref ρ (.val d) = some d := (Eq.refl _).trans (Eq.refl _)
@[simp] theorem deref_bor : deref ρ (.bor i) = match ρ[i]? with
  | some (some (.own _ (.lst ds))) => some (.list ds)
  | some (some (.val d)) => some d
  | _ => none := (Eq.refl _).trans (Eq.refl _)
@[simp] theorem keep_val {d : D} : keep (.val d) ρ = some (d, ρ) := (Eq.refl _).trans (Eq.refl _)
@[simp] theorem keep_bor : keep (.bor i) ρ = match ρ[i]? with
  | some (some (.own false (.lst ds))) => some (.list ds, ρ.set i (some (.val (.list ds))))
  | some (some (.val d)) => some (d, ρ)
  | _ => none := (Eq.refl _).trans (Eq.refl _)
@[simp] theorem keeps_nil : keeps [] ρ = some ([], ρ) := (Eq.refl _).trans (Eq.refl _)
@[simp] theorem keeps_cons {v : EV} {vs : List EV} : keeps (v :: vs) ρ = match keep v ρ with
    | some (d, ρ1) => match keeps vs ρ1 with
      | some (ds, ρ2) => some (d :: ds, ρ2)
      | none => none
    | none => none := (Eq.refl _).trans (Eq.refl _)
@[simp] theorem derefs_nil : derefs ρ [] = some [] := (Eq.refl _).trans (Eq.refl _)
@[simp] theorem derefs_cons {v : EV} {vs : List EV} : derefs ρ (v :: vs) = match deref ρ v with
    | some d => match derefs ρ vs with
      | some ds => some (d :: ds)
      | none => none
    | none => none := (Eq.refl _).trans (Eq.refl _)
@[simp] theorem x2_ap {k : D → D → Option D} : x2 k fa fb ρ = bindR (fa ρ) fun a ρ1 => bindR (fb ρ1) fun b ρ2 => optR (deref ρ2 a) fun d => optR (deref ρ2 b) fun e => optR (k d e) fun z => .ok (.val z) ρ2 := (Eq.refl _).trans (Eq.refl _)
@[simp] theorem x2L_ap {k : D → D → Option (List D)} : x2L k fa fb ρ = bindR (fa ρ) fun a ρ1 => bindR (fb ρ1) fun b ρ2 => optR (deref ρ2 a) fun d => optR (deref ρ2 b) fun e => optR (k d e) fun z => .ok (.lst z) ρ2 := (Eq.refl _).trans (Eq.refl _)
@[simp] theorem x1_ap {k : D → Option D} : x1 k fa ρ = bindR (fa ρ) fun a ρ1 => optR (deref ρ1 a) fun d => optR (k d) fun z => .ok (.val z) ρ1 := (Eq.refl _).trans (Eq.refl _)
@[simp] theorem xt2_ap {k : D → D → Option Bool} : xt2 k fa fb ρ = bindR (fa ρ) fun a ρ1 => bindR (fb ρ1) fun b ρ2 => optR (deref ρ2 a) fun d => optR (deref ρ2 b) fun e => optR (k d e) fun z => .ok z ρ2 := (Eq.refl _).trans (Eq.refl _)
@[simp] theorem xTr_ap : xTr fa ρ = bindR (fa ρ) fun a ρ1 => optR (deref ρ1 a) fun d => optR (truthD d) fun k => .ok k ρ1 := (Eq.refl _).trans (Eq.refl _)
@[simp] theorem xChain_ap {k k' : D → D → Option Bool} : xChain k k' fa fb fc ρ = bindR (fa ρ) fun a ρ1 => bindR (fb ρ1) fun b ρ2 => optR (deref ρ2 a) fun d => optR (deref ρ2 b) fun e => optR (k d e) fun z =>
  if z = true then bindR (fc ρ2) fun c ρ3 => optR (deref ρ3 b) fun e' => optR (deref ρ3 c) fun f => optR (k' e' f) fun z' => .ok z' ρ3 else .ok false ρ2 := (Eq.refl _).trans (Eq.refl _)
@[simp] theorem xOfT_ap : xOfT ta ρ = bindR (ta ρ) fun k ρ1 => .ok (.val (.bool k)) ρ1 := (Eq.refl _).trans (Eq.refl _)
@[simp] theorem xtNot_ap : xtNot ta ρ = bindR (ta ρ) fun k ρ1 => .ok (!k) ρ1 := (Eq.refl _).trans (Eq.refl _)
@[simp] theorem xtAnd_ap : xtAnd ta tb ρ = bindR (ta ρ) fun k ρ1 => if k = true then tb ρ1 else .ok false ρ1 := (Eq.refl _).trans (Eq.refl _)
@[simp] theorem xtOr_ap : xtOr ta tb ρ = bindR (ta ρ) fun k ρ1 => if k = true then .ok true ρ1 else tb ρ1 := (Eq.refl _).trans (Eq.refl _)
@[simp] theorem xAnd_ap : xAnd fa fb ρ = bindR (fa ρ) fun a ρ1 => optR (deref ρ1 a) fun d => optR (truthD d) fun k => if k = true then fb ρ1 else .ok a ρ1 := (Eq.refl _).trans (Eq.refl _)
@[simp] theorem xOr_ap : xOr fa fb ρ = bindR (fa ρ) fun a ρ1 => optR (deref ρ1 a) fun d => optR (truthD d) fun k => if k = true then .ok a ρ1 else fb ρ1 := (Eq.refl _).trans (Eq.refl _)
@[simp] theorem xNot_ap : xNot fa ρ = bindR (fa ρ) fun a ρ1 => optR (deref ρ1 a) fun d => optR (truthD d) fun k => .ok (.val (.bool (!k))) ρ1 := (Eq.refl _).trans (Eq.refl _)
@[simp] theorem xIf_ap : xIf ta fa fb ρ = bindR (ta ρ) fun k ρ1 => if k = true then fa ρ1 else fb ρ1 := (Eq.refl _).trans (Eq.refl _)
@[simp] theorem aNil_ap : aNil ρ = .ok [] ρ := (Eq.refl _).trans (Eq.refl _)
@[simp] theorem aCons_ap : aCons fa ga ρ = bindR (fa ρ) fun v ρ1 => bindR (ga ρ1) fun vs ρ2 => .ok (v :: vs) ρ2 := (Eq.refl _).trans (Eq.refl _)
@[simp] theorem xTup_ap : xTup ga ρ = bindR (ga ρ) fun vs ρ1 => optR (keeps vs ρ1) fun p => if p.1.length ≤ sizeLine then .ok (.val (.tuple p.1)) p.2 else .bad := (Eq.refl _).trans (Eq.refl _)
@[simp] theorem xLst_ap : xLst ga ρ = bindR (ga ρ) fun vs ρ1 => optR (keeps vs ρ1) fun p => if p.1.length ≤ sizeLine then .ok (.lst p.1) p.2 else .bad := (Eq.refl _).trans (Eq.refl _)
def cellR (c : Cell) (ρ' : DEnv) : Res EV := match c with
  | .lst ds => .ok (.val (.list ds)) ρ'
  | _ => .bad
@[simp] theorem cellR_lst {ds : List D} : cellR (.lst ds) ρ = .ok (.val (.list ds)) ρ := (Eq.refl _).trans (Eq.refl _)
@[simp] theorem ofL_ap : ofL fl ρ = bindR (fl ρ) cellR := (Eq.refl _).trans (Eq.refl _)
@[simp] theorem xCB_ap {k : List D → Option D} : xCB k ga ρ = bindR (ga ρ) fun vs ρ1 => optR (derefs ρ1 vs) fun ds => optR (k ds) fun z => .ok (.val z) ρ1 := (Eq.refl _).trans (Eq.refl _)
@[simp] theorem xCBL_ap {k : List D → Option (List D)} : xCBL k ga ρ = bindR (ga ρ) fun vs ρ1 => optR (derefs ρ1 vs) fun ds => optR (k ds) fun z => .ok (.lst z) ρ1 := (Eq.refl _).trans (Eq.refl _)
@[simp] theorem optR_ite {c : Prop} [Decidable c] {a b : Option α} {k : α → Res β} : optR (if c then a else b) k = if c then optR a k else optR b k := by split <;> rfl
@[simp] theorem optF_ite {c : Prop} [Decidable c] {a b : Option α} {k : α → Fl} : optF (if c then a else b) k = if c then optF a k else optF b k := by split <;> rfl
@[simp] theorem bindR_ite {c : Prop} [Decidable c] {a b : Res α} {k : α → DEnv → Res β} : bindR (if c then a else b) k = if c then bindR a k else bindR b k := by split <;> rfl
@[simp] theorem bindF_ite {c : Prop} [Decidable c] {a b : Res α} {k : α → DEnv → Fl} : bindF (if c then a else b) k = if c then bindF a k else bindF b k := by split <;> rfl
@[simp] theorem seqF_ite {c : Prop} [Decidable c] {a b : Fl} : seqF (if c then a else b) g = if c then seqF a g else seqF b g := by split <;> rfl
@[simp] theorem gNext_ap : gNext ρ = .nx ρ := (Eq.refl _).trans (Eq.refl _)
@[simp] theorem gSeq_ap : gSeq g h ρ = seqF (g ρ) h := (Eq.refl _).trans (Eq.refl _)
@[simp] theorem gBreak_ap : gBreak ρ = .bk ρ := (Eq.refl _).trans (Eq.refl _)
@[simp] theorem gCont_ap : gCont ρ = .ct ρ := (Eq.refl _).trans (Eq.refl _)
@[simp] theorem gIf_ap : gIf ta g h ρ = bindF (ta ρ) fun k ρ1 => if k = true then g ρ1 else h ρ1 := (Eq.refl _).trans (Eq.refl _)
@[simp] theorem gExpr_ap : gExpr fa ρ = bindF (fa ρ) fun _ ρ1 => .nx ρ1 := (Eq.refl _).trans (Eq.refl _)
@[simp] theorem gRet_ap : gRet fa ρ = bindF (fa ρ) fun v ρ1 => optF (keep v ρ1) fun p => .rt (.val p.1) p.2 := (Eq.refl _).trans (Eq.refl _)
@[simp] theorem gRetL_ap : gRetL fl ρ = bindF (fl ρ) fun c ρ1 => .rt (.own c) ρ1 := (Eq.refl _).trans (Eq.refl _)
@[simp] theorem gRetN_ap : gRetN ρ = .rt (.val .none) ρ := (Eq.refl _).trans (Eq.refl _)
@[simp] theorem gRetOwn_ap : gRetOwn i ρ = match ρ[i]? with
  | some (some (.own false c)) => .rt (.own c) (ρ.set i none)
  | _ => .bad := (Eq.refl _).trans (Eq.refl _)
@[simp] theorem isIo_none : isIo none = false := (Eq.refl _).trans (Eq.refl _)
@[simp] theorem isIo_some {x : Option SV} : isIo (some x) = match x with
  | some (.own true _) => true
  | _ => false := by
  cases x with
  | none => rfl
  | some v => cases v <;> first | rfl | (rename_i b _; cases b <;> rfl)
@[simp] theorem isOwn_none : isOwn none = false := (Eq.refl _).trans (Eq.refl _)
@[simp] theorem isOwn_some {x : Option SV} : isOwn (some x) = match x with
  | some (.own _ _) => true
  | _ => false := by
  cases x with
  | none => rfl
  | some v => cases v <;> rfl
@[simp] theorem gSet_ap : gSet i fa ρ = bindF (fa ρ) fun v ρ1 => optF (keep v ρ1) fun p => if isIo p.2[i]? = true then .bad else .nx (p.2.set i (some (.val p.1))) := (Eq.refl _).trans (Eq.refl _)
@[simp] theorem gSetL_ap : gSetL i fl ρ = bindF (fl ρ) fun c ρ1 => if isIo ρ1[i]? = true then .bad else .nx (ρ1.set i (some (.own false c))) := (Eq.refl _).trans (Eq.refl _)
@[simp] theorem gPar_ap : gPar i j ga ρ = bindF (ga ρ) fun vs ρ1 => optF (keeps vs ρ1) fun p => match p.1 with
  | [d, e] => if (isIo p.2[i]? || isIo (p.2.set i (some (.val d)))[j]?) = true then .bad else .nx ((p.2.set i (some (.val d))).set j (some (.val e)))
  | _ => .bad := (Eq.refl _).trans (Eq.refl _)
@[simp] theorem gAsg_ap {bind : D → DEnv → Option DEnv} : gAsg fa bind ρ = bindF (fa ρ) fun v ρ1 => optF (keep v ρ1) fun p => optF (bind p.1 p.2) fun ρ3 => .nx ρ3 := (Eq.refl _).trans (Eq.refl _)
@[simp] theorem gRaise_ap {x : Str} : gRaise x ρ = .err ⟨x, none⟩ ρ := (Eq.refl _).trans (Eq.refl _)
@[simp] theorem gTry_ap {hd : Exn → Option D} : gTry i g hd ρ = match g ρ with
  | .err x ρ1 => if (ρ1[i]?.isNone || isIo ρ1[i]?) = true then .bad else match hd x with
    | some d => .rt (.val d) (ρ1.set i none)
    | none => .bad
  | z => z := (Eq.refl _).trans (Eq.refl _)
@[simp] theorem truthD_none : truthD .none = some false := (Eq.refl _).trans (Eq.refl _)
@[simp] theorem truthD_bool {b : Bool} : truthD (.bool b) = some b := (Eq.refl _).trans (Eq.refl _)
@[simp] theorem truthD_int {n : Int} : truthD (.int n) = some (n != 0) := (Eq.refl _).trans (Eq.refl _)
@[simp] theorem truthD_list {ds : List D} : truthD (.list ds) = some (!ds.isEmpty) := (Eq.refl _).trans (Eq.refl _)
@[simp] theorem truthD_tuple {ds : List D} : truthD (.tuple ds) = some (!ds.isEmpty) := (Eq.refl _).trans (Eq.refl _)
@[simp] theorem kB_ap {k : D → D → Option Bool} {d e : D} : kB k d e = (k d e).map .bool := (Eq.refl _).trans (Eq.refl _)
@[simp] theorem optR_map {f : α → γ} {o : Option α} {k : γ → Res β} : optR (o.map f) k = optR o fun a => k (f a) := by cases o <;> rfl
@[simp] theorem kAdd_int {a b : Int} : kAdd (.int a) (.int b) = some (.int (a + b)) := (Eq.refl _).trans (Eq.refl _)
@[simp] theorem kAdd_tup {a b : List D} : kAdd (.tuple a) (.tuple b) = if a.length + b.length ≤ sizeLine then some (.tuple (a ++ b)) else none := (Eq.refl _).trans (Eq.refl _)
@[simp] theorem kSub_int {a b : Int} : kSub (.int a) (.int b) = some (.int (a - b)) := (Eq.refl _).trans (Eq.refl _)
@[simp] theorem kNeg_int {a : Int} : kNeg (.int a) = some (.int (-a)) := (Eq.refl _).trans (Eq.refl _)
@[simp] theorem kMul_int {a b : Int} : kMul (.int a) (.int b) = if mulOk a b = true then some (.int (a * b)) else none := (Eq.refl _).trans (Eq.refl _)
@[simp] theorem kMulT_ap {a : List D} {b : Int} : kMulT (.tuple a) (.int b) = if b ≤ 1000 ∧ a.length ≤ 1000 ∧ -1000 ≤ b then some (.tuple (List.replicate b.toNat a).flatten) else none := (Eq.refl _).trans (Eq.refl _)
@[simp] theorem kDiv_int {a b : Int} : kDiv (.int a) (.int b) = if divOk b = true then some (.int (a.fdiv b)) else none := (Eq.refl _).trans (Eq.refl _)
@[simp] theorem kMod_int {a b : Int} : kMod (.int a) (.int b) = if b ≠ 0 then some (.int (a.fmod b)) else none := (Eq.refl _).trans (Eq.refl _)
@[simp] theorem kAddL_ap {a b : List D} : kAddL (.list a) (.list b) = if a.length + b.length ≤ sizeLine then some (a ++ b) else none := (Eq.refl _).trans (Eq.refl _)
@[simp] theorem kLt_int {a b : Int} : kLt (.int a) (.int b) = some (decide (a < b)) := (Eq.refl _).trans (Eq.refl _)
@[simp] theorem kGt_int {a b : Int} : kGt (.int a) (.int b) = some (decide (b < a)) := (Eq.refl _).trans (Eq.refl _)
@[simp] theorem kLe_int {a b : Int} : kLe (.int a) (.int b) = some (decide (a ≤ b)) := (Eq.refl _).trans (Eq.refl _)
@[simp] theorem kGe_int {a b : Int} : kGe (.int a) (.int b) = some (decide (b ≤ a)) := (Eq.refl _).trans (Eq.refl _)
@[simp] theorem kEq_int {a b : Int} : kEq (.int a) (.int b) = some (decide (a = b)) := by
  simp [kEq, SeqAt.shaped, PyData.canLay0, PyData.depth, PyData.eqv]; rfl
@[simp] theorem kNe_int {a b : Int} : kNe (.int a) (.int b) = some (!decide (a = b)) := by
  simp [kNe, SeqAt.shaped, PyData.canLay0, PyData.depth, PyData.eqv]; rfl
@[simp] theorem kNe_str {a b : Str} : kNe (.str a) (.str b) = some (!decide (a = b)) := (Eq.refl _).trans (Eq.refl _)
@[simp] theorem kEq_str {a b : Str} : kEq (.str a) (.str b) = some (decide (a = b)) := (Eq.refl _).trans (Eq.refl _)
@[simp] theorem kIs_none {d : D} : kIs d .none = some (match d with
  | .none => true
  | _ => false) := by cases d <;> rfl
@[simp] theorem kIsNot_bool {a b : Bool} : kIsNot (.bool a) (.bool b) = some (!(a == b)) := (Eq.refl _).trans (Eq.refl _)
@[simp] theorem kLen_list {ds : List D} : kLen [.list ds] = some (.int ds.length) := (Eq.refl _).trans (Eq.refl _)
@[simp] theorem kLen_tup {ds : List D} : kLen [.tuple ds] = some (.int ds.length) := (Eq.refl _).trans (Eq.refl _)
@[simp] theorem kInt_int {n : Int} : kInt [.int n] = some (.int n) := (Eq.refl _).trans (Eq.refl _)
@[simp] theorem kTuple_list {ds : List D} : kTuple [.list ds] = some (.tuple ds) := (Eq.refl _).trans (Eq.refl _)
@[simp] theorem kTuple_tup {ds : List D} : kTuple [.tuple ds] = some (.tuple ds) := (Eq.refl _).trans (Eq.refl _)
@[simp] theorem kIx_list {ds : List D} {n : Int} : kIx (.list ds) (.int n) = atI ds n := (Eq.refl _).trans (Eq.refl _)
@[simp] theorem kIx_tup {ds : List D} {n : Int} : kIx (.tuple ds) (.int n) = atI ds n := (Eq.refl _).trans (Eq.refl _)
@[simp] theorem atI_zero {d : α} {ds : List α} : atI (d :: ds) 0 = some d := by simp [atI, ixN]
theorem atI_nat {ds : List α} {n : Nat} {d : α} (h : ds[n]? = some d) : atI ds n = some d := by
  have hl : n < ds.length := (List.getElem?_eq_some_iff.mp h).1
  unfold atI ixN
  have e : (0 : Int) ≤ (n : Int) := Int.natCast_nonneg n
  have e2 : (n : Int) < (ds.length : Int) := by omega
  simp [e, e2, h]
@[simp] theorem bName_ap {d : D} : bName i d ρ = if isIo ρ[i]? = true then none else some (ρ.set i (some (.val d))) := (Eq.refl _).trans (Eq.refl _)
@[simp] theorem bTup_ap {r : List D → DEnv → Option DEnv} {ds : List D} : bTup r (.tuple ds) ρ = r ds ρ := (Eq.refl _).trans (Eq.refl _)
@[simp] theorem bNil_ap : bNil [] ρ = some ρ := (Eq.refl _).trans (Eq.refl _)
@[simp] theorem iSeq_ap : iSeq fa ρ = bindR (fa ρ) fun v ρ1 => optR (keep v ρ1) fun p => optR (itemsD p.1) fun ds => .ok ds p.2 := (Eq.refl _).trans (Eq.refl _)
@[simp] theorem itemsD_list {ds : List D} : itemsD (.list ds) = some ds := (Eq.refl _).trans (Eq.refl _)
@[simp] theorem itemsD_tup {ds : List D} : itemsD (.tuple ds) = some ds := (Eq.refl _).trans (Eq.refl _)
@[simp] theorem gFor_ap {it : DEnv → Res (List D)} {bind : D → DEnv → Option DEnv} : gFor it bind g ρ = bindF (it ρ) fun ds ρ1 => forD bind g ds ρ1 := (Eq.refl _).trans (Eq.refl _)
@[simp] theorem wipeD_nil : wipeD ρ [] = ρ := (Eq.refl _).trans (Eq.refl _)
@[simp] theorem wipeD_cons {v : Nat} {vs : List Nat} : wipeD ρ (v :: vs) = (wipeD ρ vs).set v none := (Eq.refl _).trans (Eq.refl _)
@[simp] theorem backD_nil {ρ' : DEnv} : backD ρ ρ' [] = ρ' := (Eq.refl _).trans (Eq.refl _)
@[simp] theorem backD_cons {ρ' : DEnv} {v : Nat} {vs : List Nat} : backD ρ ρ' (v :: vs) = (backD ρ ρ' vs).set v (ρ[v]?.join) := (Eq.refl _).trans (Eq.refl _)
@[simp] theorem pNo_ap : pNo ρ = .ok none ρ := (Eq.refl _).trans (Eq.refl _)
@[simp] theorem tTrue_ap : tTrue ρ = .ok true ρ := (Eq.refl _).trans (Eq.refl _)
@[simp] theorem flat_int {n : Int} : flat (.int n) = some (.int n) := (Eq.refl _).trans (Eq.refl _)
@[simp] theorem flat_bool {b : Bool} : flat (.bool b) = some (.bl b) := (Eq.refl _).trans (Eq.refl _)
@[simp] theorem flat_none : flat .none = some .non := (Eq.refl _).trans (Eq.refl _)
@[simp] theorem flat_str {x : Str} : flat (.str x) = some (.str x) := (Eq.refl _).trans (Eq.refl _)
@[simp] theorem flat_tup {ds : List D} : flat (.tuple ds) = none := (Eq.refl _).trans (Eq.refl _)
@[simp] theorem flat_list {ds : List D} : flat (.list ds) = none := (Eq.refl _).trans (Eq.refl _)
@[simp] theorem xIs_ap {a : Addr} {b : Bool} : xIs i a b ρ = match ρ[i]? with
  | some (some (.raw x)) => if x = a then .ok (.val (.bool b)) ρ else .bad
  | _ => .bad := (Eq.refl _).trans (Eq.refl _)
@[simp] theorem xMr_ap {m : List D → List D → Option D} : xMr m fa ga ρ = bindR (fa ρ) fun a ρ1 => match deref ρ1 a with
  | some (.list _) => bindR (ga ρ1) fun vs ρ2 => match deref ρ2 a with
    | some (.list ds) => optR (derefs ρ2 vs) fun as => optR (m ds as) fun z => .ok (.val z) ρ2
    | _ => .bad
  | _ => .bad := (Eq.refl _).trans (Eq.refl _)
end

/-! ### what a def answers -/
section
variable {m : Nat} {b : DSt} {ds : List D}
theorem runF_rt {v : RV} {ρ : DEnv} (h : b (startD m ds) = .rt v ρ) : runF m b ds = .ok v := by
  unfold runF
  unfold startD at h
  rw [h]
theorem runF_nx {ρ : DEnv} (h : b (startD m ds) = .nx ρ) : runF m b ds = .ok (.val .none) := by
  unfold runF
  unfold startD at h
  rw [h]
theorem runF_err {x : Exn} {ρ : DEnv} (h : b (startD m ds) = .err x ρ) : runF m b ds = .err x := by
  unfold runF
  unfold startD at h
  rw [h]
/-- the value alone -/
def outF : Fl → RF
  | .nx _ => .ok (.val .none)
  | .rt v _ => .ok v
  | .err x _ => .err x
  | _ => .bad
theorem runF_out : runF m b ds = outF (b (startD m ds)) := by
  unfold runF outF
  change (match b (startD m ds) with
    | .nx _ => RF.ok (.val .none)
    | .rt v _ => .ok v
    | .err x _ => .err x
    | _ => .bad) = _
  cases b (startD m ds) <;> rfl
@[simp] theorem outF_nx {ρ : DEnv} : outF (.nx ρ) = .ok (.val .none) := (Eq.refl _).trans (Eq.refl _)
@[simp] theorem outF_rt {v : RV} {ρ : DEnv} : outF (.rt v ρ) = .ok v := (Eq.refl _).trans (Eq.refl _)
@[simp] theorem outF_err {x : Exn} {ρ : DEnv} : outF (.err x ρ) = .err x := (Eq.refl _).trans (Eq.refl _)
@[simp] theorem outF_ite {c : Prop} [Decidable c] {a b : Fl} : outF (if c then a else b) = if c then outF a else outF b := by split <;> rfl
theorem ret_of {fl : Fl} {d : D} (h : outF fl = .ok (.val d)) (h2 : ∀ ρ, fl ≠ .nx ρ) : ∃ ρ, fl = .rt (.val d) ρ := by
  cases fl with
  | nx ρ => exact absurd rfl (h2 ρ)
  | rt v ρ => cases h; exact ⟨ρ, rfl⟩
  | bk ρ => cases h
  | ct ρ => cases h
  | err x ρ => cases h
  | bad => cases h
end

/-! ### comprehensions -/
def cs1 {β : Type} (o : Option DEnv) (k : DEnv → Option β) : Option β := match o with
  | some ρ => k ρ
  | none => none
def csT {β : Type} (r : Res Bool) (kt kf : DEnv → Option β) : Option β := match r with
  | .ok true ρ => kt ρ
  | .ok false ρ => kf ρ
  | _ => none
def csE {β : Type} (r : Res EV) (k : EV → DEnv → Option β) : Option β := match r with
  | .ok v ρ => k v ρ
  | _ => none
def csK {β : Type} (o : Option (D × DEnv)) (k : D → DEnv → Option β) : Option β := match o with
  | some p => k p.1 p.2
  | none => none
section
variable {β : Type} {ρ : DEnv}
@[simp] theorem cs1_some {k : DEnv → Option β} : cs1 (some ρ) k = k ρ := (Eq.refl _).trans (Eq.refl _)
@[simp] theorem cs1_ite {c : Prop} [Decidable c] {a b : Option DEnv} {k : DEnv → Option β} : cs1 (if c then a else b) k = if c then cs1 a k else cs1 b k := by split <;> rfl
@[simp] theorem csT_ok {z : Bool} {kt kf : DEnv → Option β} : csT (.ok z ρ) kt kf = if z = true then kt ρ else kf ρ := by cases z <;> rfl
@[simp] theorem csT_ite {c : Prop} [Decidable c] {a b : Res Bool} {kt kf : DEnv → Option β} : csT (if c then a else b) kt kf = if c then csT a kt kf else csT b kt kf := by split <;> rfl
@[simp] theorem csE_ok {v : EV} {k : EV → DEnv → Option β} : csE (.ok v ρ) k = k v ρ := (Eq.refl _).trans (Eq.refl _)
@[simp] theorem csE_ite {c : Prop} [Decidable c] {a b : Res EV} {k : EV → DEnv → Option β} : csE (if c then a else b) k = if c then csE a k else csE b k := by split <;> rfl
@[simp] theorem csK_some {d : D} {k : D → DEnv → Option β} : csK (some (d, ρ)) k = k d ρ := (Eq.refl _).trans (Eq.refl _)
end
/-- one turn: nothing, or what is taken (if anything) and the names behind it -/
def cstep (ow : List Nat) (bind : D → DEnv → Option DEnv) (test : DEnv → Res Bool) (elt : DX) (d : D) (ρ : DEnv) : Option (Option D × DEnv) :=
  cs1 (bind d (wipeD ρ ow)) fun ρ1 => csT (test ρ1) (fun ρ2 => csE (elt ρ2) fun v ρ3 => csK (keep v ρ3) fun z ρ4 => if (ow.all fun i => !isOwn ρ4[i]?) = true then some (some z, backD ρ ρ4 ow) else none)
    fun ρ2 => if (ow.all fun i => !isOwn ρ2[i]?) = true then some (none, backD ρ ρ2 ow) else none
@[simp] theorem cstep_ap {ow : List Nat} {bind : D → DEnv → Option DEnv} {test : DEnv → Res Bool} {elt : DX} {d : D} {ρ : DEnv} : cstep ow bind test elt d ρ =
  cs1 (bind d (wipeD ρ ow)) fun ρ1 => csT (test ρ1) (fun ρ2 => csE (elt ρ2) fun v ρ3 => csK (keep v ρ3) fun z ρ4 => if (ow.all fun i => !isOwn ρ4[i]?) = true then some (some z, backD ρ ρ4 ow) else none)
    fun ρ2 => if (ow.all fun i => !isOwn ρ2[i]?) = true then some (none, backD ρ ρ2 ow) else none := (Eq.refl _).trans (Eq.refl _)
section
variable {ow : List Nat} {bind : D → DEnv → Option DEnv} {test : DEnv → Res Bool} {elt : DX} {it : DEnv → Res (List D)}
theorem compD_step {d : D} {ds acc : List D} {ρ ρ' : DEnv} {z : Option D} (h : cstep ow bind test elt d ρ = some (z, ρ')) (hl : acc.length < sizeLine) : compD ow bind test elt (d :: ds) ρ acc = compD ow bind test elt ds ρ' (acc ++ z.toList) := by
  unfold cstep at h
  rw [compD]
  cases hb : bind d (wipeD ρ ow) with
  | none => rw [hb] at h; cases h
  | some ρ1 =>
    rw [hb] at h
    dsimp only [optR, cs1] at h ⊢
    cases ht : test ρ1 with
    | err x ρ2 => rw [ht] at h; cases h
    | bad => rw [ht] at h; cases h
    | ok k ρ2 =>
      rw [ht] at h
      cases k with
      | true =>
        dsimp only [csT] at h ⊢
        cases he : elt ρ2 with
        | err x ρ3 => rw [he] at h; cases h
        | bad => rw [he] at h; cases h
        | ok v ρ3 =>
          rw [he] at h
          dsimp only [csE] at h ⊢
          cases hk : keep v ρ3 with
          | none => rw [hk] at h; cases h
          | some p =>
            rw [hk] at h
            dsimp only [csK] at h ⊢
            split at h
            · rename_i ha
              cases h
              rw [if_pos ⟨hl, ha⟩]; rfl
            · cases h
      | false =>
        dsimp only [csT] at h ⊢
        split at h
        · rename_i ha
          cases h
          rw [if_pos ha]; simp
        · cases h
theorem compD_map {g : D → D} {ρ : DEnv} : ∀ {ds acc : List D}, acc.length + ds.length ≤ sizeLine → (∀ d ∈ ds, cstep ow bind test elt d ρ = some (some (g d), ρ)) → compD ow bind test elt ds ρ acc = .ok (.lst (acc ++ ds.map g)) ρ
  | [], acc, _, _ => by rw [compD]; simp
  | d :: ds, acc, hl, h => by
    rw [compD_step (h d List.mem_cons_self) (by simp at hl ⊢; omega), compD_map (by simp at hl ⊢; omega) fun e he => h e (List.mem_cons_of_mem _ he)]
    simp
theorem compD_filter {g : D → Option D} {ρ : DEnv} : ∀ {ds acc : List D}, acc.length + ds.length ≤ sizeLine → (∀ d ∈ ds, cstep ow bind test elt d ρ = some (g d, ρ)) → compD ow bind test elt ds ρ acc = .ok (.lst (acc ++ ds.filterMap g)) ρ
  | [], acc, _, _ => by rw [compD]; simp
  | d :: ds, acc, hl, h => by
    have hz : (g d).toList.length ≤ 1 := by cases g d <;> simp
    rw [compD_step (h d List.mem_cons_self) (by simp at hl ⊢; omega), compD_filter (by simp at hl ⊢; omega) fun e he => h e (List.mem_cons_of_mem _ he), List.filterMap_cons]
    cases g d <;> simp
inductive All2 (R : D → D → Prop) : List D → List D → Prop
  | nil : All2 R [] []
  | cons {a b : D} {as bs : List D} (h : R a b) (t : All2 R as bs) : All2 R (a :: as) (b :: bs)
theorem All2.len {R : D → D → Prop} {as bs : List D} (h : All2 R as bs) : as.length = bs.length := by
  induction h with
  | nil => rfl
  | cons _ _ ih => simp [ih]
theorem All2.right {R : D → D → Prop} {Q : D → Prop} {as bs : List D} (h : All2 R as bs) (q : ∀ a b, R a b → Q b) : ∀ b ∈ bs, Q b := by
  induction h with
  | nil => intro b hb; simp at hb
  | cons h _ ih =>
    intro b hb
    rcases List.mem_cons.mp hb with hb | hb
    · subst hb; exact q _ _ h
    · exact ih b hb
/-- a comprehension whose turns change the names, by an invariant -/
theorem compD_inv (I : DEnv → Prop) (R : D → D → Prop) : ∀ {ds acc : List D} {ρ : DEnv}, acc.length + ds.length ≤ sizeLine → I ρ → (∀ d ∈ ds, ∀ ρ, I ρ → ∃ z ρ', cstep ow bind test elt d ρ = some (some z, ρ') ∧ I ρ' ∧ R d z) →
    ∃ zs ρ', compD ow bind test elt ds ρ acc = .ok (.lst (acc ++ zs)) ρ' ∧ I ρ' ∧ All2 R ds zs
  | [], acc, ρ, _, hi, _ => ⟨[], ρ, by rw [compD]; simp, hi, .nil⟩
  | d :: ds, acc, ρ, hl, hi, h => by
    obtain ⟨z, ρ1, h1, h2, h3⟩ := h d List.mem_cons_self ρ hi
    obtain ⟨zs, ρ', h4, h5, h6⟩ := compD_inv I R (ds := ds) (acc := acc ++ [z]) (ρ := ρ1) (by simp at hl ⊢; omega) h2 fun e he => h e (List.mem_cons_of_mem _ he)
    refine ⟨z :: zs, ρ', ?_, h5, .cons h3 h6⟩
    rw [compD_step h1 (by simp at hl ⊢; omega)]
    simpa using h4
theorem xComp_of {ρ ρ1 : DEnv} {ds : List D} (hi : it ρ = .ok ds ρ1) (ho : (ow.all fun i => !isOwn ρ1[i]?) = true) : xComp it ow bind test elt ρ = compD ow bind test elt ds ρ1 [] := by
  unfold xComp
  rw [hi]
  exact if_pos ho
theorem xComp_map {g : D → D} {ρ : DEnv} {ds : List D} (hi : it ρ = .ok ds ρ) (ho : (ow.all fun i => !isOwn ρ[i]?) = true) (hl : ds.length ≤ sizeLine) (h : ∀ d ∈ ds, cstep ow bind test elt d ρ = some (some (g d), ρ)) : xComp it ow bind test elt ρ = .ok (.lst (ds.map g)) ρ := by
  rw [xComp_of hi ho, compD_map (by simpa using hl) h]; simp
theorem xComp_filter {g : D → Option D} {ρ : DEnv} {ds : List D} (hi : it ρ = .ok ds ρ) (ho : (ow.all fun i => !isOwn ρ[i]?) = true) (hl : ds.length ≤ sizeLine) (h : ∀ d ∈ ds, cstep ow bind test elt d ρ = some (g d, ρ)) : xComp it ow bind test elt ρ = .ok (.lst (ds.filterMap g)) ρ := by
  rw [xComp_of hi ho, compD_filter (by simpa using hl) h]; simp
theorem xComp_inv (I : DEnv → Prop) (R : D → D → Prop) {ρ : DEnv} {ds : List D} (hi : it ρ = .ok ds ρ) (ho : (ow.all fun i => !isOwn ρ[i]?) = true) (hl : ds.length ≤ sizeLine) (hI : I ρ) (h : ∀ d ∈ ds, ∀ ρ, I ρ → ∃ z ρ', cstep ow bind test elt d ρ = some (some z, ρ') ∧ I ρ' ∧ R d z) :
    ∃ zs ρ', xComp it ow bind test elt ρ = .ok (.lst zs) ρ' ∧ I ρ' ∧ All2 R ds zs := by
  obtain ⟨zs, ρ', h1, h2, h3⟩ := compD_inv I R (acc := []) (by simpa using hl) hI h
  exact ⟨zs, ρ', by rw [xComp_of hi ho, h1]; simp, h2, h3⟩
end

/-! ### for -/
theorem forD_inv {bind : D → DEnv → Option DEnv} {body : DSt} (I : Nat → DEnv → Prop) : ∀ {ds : List D} {n : Nat} {ρ : DEnv}, I n ρ → (∀ k d ρ, ds[k]? = some d → I (n + k) ρ → ∃ ρ1 ρ2, bind d ρ = some ρ1 ∧ body ρ1 = .nx ρ2 ∧ I (n + k + 1) ρ2) → ∃ ρ', forD bind body ds ρ = .nx ρ' ∧ I (n + ds.length) ρ'
  | [], n, ρ, hi, _ => ⟨ρ, rfl, hi⟩
  | d :: ds, n, ρ, hi, h => by
    obtain ⟨ρ1, ρ2, h1, h2, h3⟩ := h 0 d ρ rfl hi
    obtain ⟨ρ', h4, h5⟩ := forD_inv I (ds := ds) (n := n + 1) h3 fun k e ρ he hk => by
      have := h (k + 1) e ρ (by simpa using he) (by rw [show n + (k + 1) = n + 1 + k by omega]; exact hk)
      rw [show n + (k + 1) + 1 = n + 1 + k + 1 by omega] at this
      exact this
    refine ⟨ρ', ?_, by rw [List.length_cons, show n + (ds.length + 1) = n + 1 + ds.length by omega]; exact h5⟩
    rw [forD, h1]
    show (match body ρ1 with
      | .nx ρ2 => forD bind body ds ρ2
      | .ct ρ2 => forD bind body ds ρ2
      | .bk ρ2 => .nx ρ2
      | .rt v ρ2 => .rt v ρ2
      | .err x ρ2 => .err x ρ2
      | .bad => .bad) = _
    rw [h2]
    exact h4

/-! ### repr -/
mutual
def nice : D → Bool
  | .none => true
  | .bool _ => true
  | .int i => decide (i.natAbs.log2 < 1920)
  | .list xs => niceAll xs
  | .tuple xs => niceAll xs
  | _ => false
def niceAll : List D → Bool
  | [] => true
  | x :: xs => nice x && niceAll xs
end
mutual
theorem nice_show : ∀ d : D, nice d = true → d.showable = true ∧ d.hasDict = false ∧ d.leavesShort 1921 = true
  | .none, _ => ⟨rfl, rfl, rfl⟩
  | .bool _, _ => ⟨rfl, rfl, rfl⟩
  | .int i, h => by
    have h' : i.natAbs.log2 < 1920 := by simpa [nice] using h
    refine ⟨by simpa [PyData.showable] using h', rfl, ?_⟩
    simp only [PyData.leavesShort, decide_eq_true_eq]
    exact int_text_len_1921 h'
  | .str _, h => by simp [nice] at h
  | .dict _, h => by simp [nice] at h
  | .list xs, h => by
    obtain ⟨a, b, c⟩ := niceAll_show xs (by simpa [nice] using h)
    exact ⟨by simpa [PyData.showable] using a, by simpa [PyData.hasDict] using b, by simpa [PyData.leavesShort] using c⟩
  | .tuple xs, h => by
    obtain ⟨a, b, c⟩ := niceAll_show xs (by simpa [nice] using h)
    exact ⟨by simpa [PyData.showable] using a, by simpa [PyData.hasDict] using b, by simpa [PyData.leavesShort] using c⟩
theorem niceAll_show : ∀ xs : List D, niceAll xs = true → PyData.showableAll xs = true ∧ PyData.hasDictAll xs = false ∧ PyData.leavesShortAll 1921 xs = true
  | [], _ => ⟨rfl, rfl, rfl⟩
  | x :: xs, h => by
    simp only [niceAll, Bool.and_eq_true] at h
    obtain ⟨a, b, c⟩ := nice_show x h.1
    obtain ⟨a2, b2, c2⟩ := niceAll_show xs h.2
    exact ⟨by simp [PyData.showableAll, a, a2], by simp [PyData.hasDictAll, b, b2], by simp [PyData.leavesShortAll, c, c2]⟩
end
theorem kRepr_nice {d : D} (h : nice d = true) (hd : d.depth ≤ 64) (hw : d.weight ≤ 8000) : kRepr [d] = some (.str d.shown) := by
  obtain ⟨a, b, c⟩ := nice_show d h
  have l := PyData.shown_le 1921 (by omega) d c
  have l2 : (1921 + 2) * d.weight ≤ 1923 * 8000 := Nat.mul_le_mul (by omega) hw
  exact if_pos ⟨a, b, hd, by rw [sizeLine_eq]; omega⟩
end DL

theorem DL.lt62 (n : Nat) (h : n ≤ 1000000) : (n : Int) < 2 ^ 62 := by omega
theorem DL.ge62 (n : Nat) (h : n ≤ 1000000) : -(2 ^ 62) ≤ (n : Int) := by omega
namespace DL
open L2 PySem PySem.Spec PyProof.Rows

/-! ### tuples of ints, matrices -/
abbrev vec (r : List Int) : D := .tuple (r.map PyData.int)
abbrev mtx (M : List (List Int)) : D := .tuple (M.map vec)
section
variable {α : Type} {ow : List Nat} {bind : D → DEnv → Option DEnv} {test : DEnv → Res Bool} {elt : DX} {it : DEnv → Res (List D)}
theorem xComp_of_map {e g : α → D} {xs : List α} {ρ : DEnv} (hi : it ρ = .ok (xs.map e) ρ) (ho : (ow.all fun i => !isOwn ρ[i]?) = true) (hl : xs.length ≤ 1000000) (h : ∀ x ∈ xs, cstep ow bind test elt (e x) ρ = some (some (g x), ρ)) : xComp it ow bind test elt ρ = .ok (.lst (xs.map g)) ρ := by
  have key : ∀ {xs : List α} {acc : List D}, acc.length + xs.length ≤ sizeLine → (∀ x ∈ xs, cstep ow bind test elt (e x) ρ = some (some (g x), ρ)) → compD ow bind test elt (xs.map e) ρ acc = .ok (.lst (acc ++ xs.map g)) ρ := by
    intro xs
    induction xs with
    | nil => intro acc _ _; simp [compD]
    | cons x xs ih =>
      intro acc hl h
      rw [List.map_cons, compD_step (h x List.mem_cons_self) (by simp at hl ⊢; omega), ih (by simp at hl ⊢; omega) fun y hy => h y (List.mem_cons_of_mem _ hy)]
      simp
  rw [xComp_of hi ho, key (by rw [sizeLine_eq]; simp; omega) h]; simp
theorem xComp_of_filter {e : α → D} {g : α → Option D} {xs : List α} {ρ : DEnv} (hi : it ρ = .ok (xs.map e) ρ) (ho : (ow.all fun i => !isOwn ρ[i]?) = true) (hl : xs.length ≤ 1000000) (h : ∀ x ∈ xs, cstep ow bind test elt (e x) ρ = some (g x, ρ)) : xComp it ow bind test elt ρ = .ok (.lst (xs.filterMap g)) ρ := by
  have key : ∀ {xs : List α} {acc : List D}, acc.length + xs.length ≤ sizeLine → (∀ x ∈ xs, cstep ow bind test elt (e x) ρ = some (g x, ρ)) → compD ow bind test elt (xs.map e) ρ acc = .ok (.lst (acc ++ xs.filterMap g)) ρ := by
    intro xs
    induction xs with
    | nil => intro acc _ _; simp [compD]
    | cons x xs ih =>
      intro acc hl h
      have hz : (g x).toList.length ≤ 1 := by cases g x <;> simp
      rw [List.map_cons, compD_step (h x List.mem_cons_self) (by simp at hl ⊢; omega), ih (by simp at hl ⊢; omega) fun y hy => h y (List.mem_cons_of_mem _ hy), List.filterMap_cons]
      cases g x <;> simp
  rw [xComp_of hi ho, key (by rw [sizeLine_eq]; simp; omega) h]; simp
@[simp] theorem trusF_bools (f : α → Bool) : ∀ xs : List α, trusF (xs.map fun x => PyData.bool (f x)) = some (xs.map f)
  | [] => rfl
  | x :: xs => by
    show (match truF (.bool (f x)) with
      | some b => (trusF (xs.map fun x => PyData.bool (f x))).map (b :: ·)
      | none => none) = _
    rw [trusF_bools f xs]; rfl
@[simp] theorem kAll_bools {f : α → Bool} {xs : List α} : kAll [.list (xs.map fun x => PyData.bool (f x))] = some (.bool (xs.all f)) := by
  show (trusF (xs.map fun x => PyData.bool (f x))).map (fun bs => PyData.bool (bs.all id)) = _
  rw [trusF_bools]; simp
@[simp] theorem kAny_bools {f : α → Bool} {xs : List α} : kAny [.list (xs.map fun x => PyData.bool (f x))] = some (.bool (xs.any f)) := by
  show (trusF (xs.map fun x => PyData.bool (f x))).map (fun bs => PyData.bool (bs.any id)) = _
  rw [trusF_bools]; simp
theorem intsOf_mapI {f : α → Int} {xs : List α} : intsOf (xs.map fun x => PyData.int (f x)) = some (xs.map f) := by
  have := intsOf_map (xs.map f)
  rwa [List.map_map] at this
@[simp] theorem kSum_ints {f : α → Int} {xs : List α} : kSum [.list (xs.map fun x => PyData.int (f x))] = some (.int (xs.map f).sum) := by
  show (match intsOf (xs.map fun x => PyData.int (f x)) with
    | some ns => some (PyData.int ns.sum)
    | none => none) = _
  rw [intsOf_mapI]
theorem rangeD_eq (lo : Int) (n : Nat) : rangeD lo n = (List.range n).map fun (i : Nat) => PyData.int (lo + i) := rfl
theorem rangeD_nat {n : Nat} : rangeD 0 (n : Int).toNat = (List.range n).map fun (k : Nat) => PyData.int (k : Int) := by
  unfold rangeD
  simp
theorem iRange1_if {g : DEnv → Res (List EV)} {ρ ρ1 : DEnv} {j : Int} (h : g ρ = .ok [.val (.int j)] ρ1) : DL.iRange1 g ρ = if -(2 ^ 62) ≤ j ∧ j < 2 ^ 62 then .ok (rangeD 0 j.toNat) ρ1 else .bad := by
  unfold DL.iRange1
  rw [h]
  rfl
theorem iRange1_nat {g : DEnv → Res (List EV)} {ρ ρ1 : DEnv} {n : Nat} (h : g ρ = .ok [.val (.int (n : Int))] ρ1) (hn : n ≤ 1000000) : DL.iRange1 g ρ = .ok ((List.range n).map fun (k : Nat) => PyData.int (k : Int)) ρ1 := by
  rw [iRange1_if h, if_pos ⟨ge62 n hn, lt62 n hn⟩, rangeD_nat]
end
section
variable {F : Fn} {g : DEnv → Res (List EV)} {ρ : DEnv}
def callR (r : RF) (vs : List EV) (ρ1 : DEnv) : Res EV := match r with
  | .ok (.val d) => if (flat d).isSome = true then .ok (.val d) ρ1 else optR (keeps vs ρ1) fun p => .ok (.val d) p.2
  | .ok (.own (.lst l)) => optR (keeps vs ρ1) fun p => .ok (.val (.list l)) p.2
  | .ok (.own _) => .bad
  | .err x => .err x ρ1
  | .bad => .bad
@[simp] theorem xCall_ap : xCall F g ρ = bindR (g ρ) fun vs ρ1 => optR (derefs ρ1 vs) fun ds => callR (F ds) vs ρ1 := (Eq.refl _).trans (Eq.refl _)
@[simp] theorem callR_val {d : D} {vs : List EV} : callR (.ok (.val d)) vs ρ = if (flat d).isSome = true then .ok (.val d) ρ else optR (keeps vs ρ) fun p => .ok (.val d) p.2 := (Eq.refl _).trans (Eq.refl _)
@[simp] theorem callR_own {l : List D} {vs : List EV} : callR (.ok (.own (.lst l))) vs ρ = optR (keeps vs ρ) fun p => .ok (.val (.list l)) p.2 := (Eq.refl _).trans (Eq.refl _)
@[simp] theorem callR_err {x : Exn} {vs : List EV} : callR (.err x) vs ρ = .err x ρ := (Eq.refl _).trans (Eq.refl _)
def callL (r : RF) (vs : List EV) (ρ1 : DEnv) : Res Cell := match r with
  | .ok (.own c) => optR (keeps vs ρ1) fun p => .ok c p.2
  | .ok (.val _) => .bad
  | .err x => .err x ρ1
  | .bad => .bad
@[simp] theorem xCallL_ap : xCallL F g ρ = bindR (g ρ) fun vs ρ1 => optR (derefs ρ1 vs) fun ds => callL (F ds) vs ρ1 := (Eq.refl _).trans (Eq.refl _)
@[simp] theorem callL_own {c : Cell} {vs : List EV} : callL (.ok (.own c)) vs ρ = optR (keeps vs ρ) fun p => .ok c p.2 := (Eq.refl _).trans (Eq.refl _)
@[simp] theorem callL_err {x : Exn} {vs : List EV} : callL (.err x) vs ρ = .err x ρ := (Eq.refl _).trans (Eq.refl _)
def selR (Fs : List Fn) (g : DEnv → Res (List EV)) (j : EV) (ρ1 : DEnv) : Res EV := match deref ρ1 j with
  | some (.int i) => match atI Fs i with
    | some F => xCall F g ρ1
    | none => .bad
  | _ => .bad
@[simp] theorem xSel_ap {Fs : List Fn} {fi : DX} : xSel Fs fi g ρ = bindR (fi ρ) fun j ρ1 => selR Fs g j ρ1 := (Eq.refl _).trans (Eq.refl _)
@[simp] theorem selR_val {Fs : List Fn} {i : Int} : selR Fs g (.val (.int i)) ρ = match atI Fs i with
    | some F => xCall F g ρ
    | none => .bad := (Eq.refl _).trans (Eq.refl _)
end
end DL

namespace DL
open L2 PySem PySem.Spec PyProof.Rows

/-! ### own lists, stepped by simp -/
section
variable {α : Type} {ρ : DEnv} {i : Nat} {g : DEnv → Res (List EV)} {m : List D → List D → Option (D × List D)}
def xmA (o : Option (Option SV)) (k : Res α) : Res α := match o with
  | some (some (.own _ (.lst _))) => k
  | _ => .bad
def xmB (o : Option (Option SV)) (k : Bool → List D → Res α) : Res α := match o with
  | some (some (.own b (.lst ds))) => k b ds
  | _ => .bad
@[simp] theorem xmA_own {b : Bool} {ds : List D} {k : Res α} : xmA (some (some (.own b (.lst ds)))) k = k := (Eq.refl _).trans (Eq.refl _)
@[simp] theorem xmB_own {b : Bool} {ds : List D} {k : Bool → List D → Res α} : xmB (some (some (.own b (.lst ds)))) k = k b ds := (Eq.refl _).trans (Eq.refl _)
@[simp] theorem xM_ap : xM i m g ρ = xmA ρ[i]? (bindR (g ρ) fun vs ρ1 => optR (keeps vs ρ1) fun p => xmB p.2[i]? fun b ds => optR (m ds p.1) fun q => .ok (.val q.1) (p.2.set i (some (.own b (.lst q.2))))) := by
  unfold xM xmA xmB
  rfl
@[simp] theorem mAppend_ap {ds : List D} {d : D} : mAppend ds [d] = if ds.length < sizeLine then some (.none, ds ++ [d]) else none := (Eq.refl _).trans (Eq.refl _)
@[simp] theorem mReverse_ap {ds : List D} : mReverse ds [] = some (.none, ds.reverse) := (Eq.refl _).trans (Eq.refl _)
@[simp] theorem mPop_ap {ds : List D} {d : D} : mPop (ds ++ [d]) [] = some (d, ds) := by simp [mPop]
def exF (o : Option (Option SV)) (k : Fl) : Fl := match o with
  | some (some (.own _ (.lst _))) => k
  | _ => .bad
def exG (c : Cell) (o : Option (Option SV)) (k : Bool → List D → List D → Fl) : Fl := match c, o with
  | .lst es, some (some (.own b (.lst ds))) => k b ds es
  | _, _ => .bad
@[simp] theorem exF_own {b : Bool} {ds : List D} {k : Fl} : exF (some (some (.own b (.lst ds)))) k = k := (Eq.refl _).trans (Eq.refl _)
@[simp] theorem exG_own {b : Bool} {ds es : List D} {k : Bool → List D → List D → Fl} : exG (.lst es) (some (some (.own b (.lst ds)))) k = k b ds es := (Eq.refl _).trans (Eq.refl _)
@[simp] theorem gExtend_ap {f : DEnv → Res Cell} : gExtend i f ρ = exF ρ[i]? (bindF (f ρ) fun c ρ1 => exG c ρ1[i]? fun b ds es => if ds.length + es.length ≤ sizeLine then .nx (ρ1.set i (some (.own b (.lst (ds ++ es))))) else .bad) := by
  unfold gExtend exF exG
  rfl
def ciA (vs : List EV) (k : Nat → List EV → Res α) : Res α := match vs with
  | .bor i :: ws => k i ws
  | _ => .bad
@[simp] theorem ciA_bor {ws : List EV} {k : Nat → List EV → Res α} : ciA (.bor i :: ws) k = k i ws := (Eq.refl _).trans (Eq.refl _)
@[simp] theorem valsOf_nil : valsOf [] = some [] := (Eq.refl _).trans (Eq.refl _)
@[simp] theorem valsOf_val {d : D} {vs : List EV} : valsOf (.val d :: vs) = (valsOf vs).map (d :: ·) := by
  show (match valsOf vs with
    | some ds => some (d :: ds)
    | none => none) = _
  cases valsOf vs <;> rfl
def ciR (r : Option (RV × List D)) (kv : D → List D → Res EV) : Res EV := match r with
  | some (.val d, ds') => kv d ds'
  | some (.own (.lst l), ds') => kv (.list l) ds'
  | _ => .bad
@[simp] theorem ciR_val {d : D} {ds : List D} {kv : D → List D → Res EV} : ciR (some (.val d, ds)) kv = kv d ds := (Eq.refl _).trans (Eq.refl _)
def ciL (r : Option (RV × List D)) (kv : Cell → List D → Res Cell) : Res Cell := match r with
  | some (.own c, ds') => kv c ds'
  | _ => .bad
@[simp] theorem ciL_own {c : Cell} {ds : List D} {kv : Cell → List D → Res Cell} : ciL (some (.own c, ds)) kv = kv c ds := (Eq.refl _).trans (Eq.refl _)
@[simp] theorem xCallI_ap {F : IFn} : xCallI F g ρ = bindR (g ρ) fun vs ρ1 => ciA vs fun i ws => optR (valsOf ws) fun es => xmB ρ1[i]? fun b ds => ciR (F ds es) fun d ds' => .ok (.val d) (ρ1.set i (some (.own b (.lst ds')))) := by
  unfold xCallI
  cases g ρ with
  | err x ρ1 => rfl
  | bad => rfl
  | ok vs ρ1 =>
    simp only [bindR_ok]
    cases vs with
    | nil => rfl
    | cons v ws =>
      cases v with
      | val d => rfl
      | bor j =>
        rw [ciA_bor]
        refine congrArg (optR (valsOf ws)) (funext fun es => ?_)
        generalize ρ1[j]? = o
        rcases o with _ | _ | _ | ⟨b, _ | _ | _⟩ | _ <;> rfl
@[simp] theorem xCallIL_ap {F : IFn} : xCallIL F g ρ = bindR (g ρ) fun vs ρ1 => ciA vs fun i ws => optR (valsOf ws) fun es => xmB ρ1[i]? fun b ds => ciL (F ds es) fun c ds' => .ok c (ρ1.set i (some (.own b (.lst ds')))) := by
  unfold xCallIL
  cases g ρ with
  | err x ρ1 => rfl
  | bad => rfl
  | ok vs ρ1 =>
    simp only [bindR_ok]
    cases vs with
    | nil => rfl
    | cons v ws =>
      cases v with
      | val d => rfl
      | bor j =>
        rw [ciA_bor]
        refine congrArg (optR (valsOf ws)) (funext fun es => ?_)
        generalize ρ1[j]? = o
        rcases o with _ | _ | _ | ⟨b, _ | _ | _⟩ | _ <;> rfl
end
/-- what such a def answers -/
def outI : Fl → Option (RV × List D)
  | .nx ρ => (cellAt0 ρ).map fun l => (.val .none, l)
  | .rt v ρ => (cellAt0 ρ).map fun l => (v, l)
  | _ => none
theorem runI_out {m : Nat} {b : DSt} {ds es : List D} : runI m b ds es = outI (b (startI m ds es)) := by
  unfold runI outI
  cases b (startI m ds es) <;> rfl
@[simp] theorem outI_rt {v : RV} {b : Bool} {l : List D} {ρ : DEnv} : outI (.rt v (some (.own b (.lst l)) :: ρ)) = some (v, l) := (Eq.refl _).trans (Eq.refl _)
@[simp] theorem outI_nx {b : Bool} {l : List D} {ρ : DEnv} : outI (.nx (some (.own b (.lst l)) :: ρ)) = some (.val .none, l) := (Eq.refl _).trans (Eq.refl _)
/-- a name that holds nothing or data -/
def VS (x : Option SV) : Prop := x = none ∨ ∃ d, x = some (.val d)
theorem VS.val {d : D} : VS (some (.val d)) := .inr ⟨d, rfl⟩
theorem VS.io {x : Option SV} (h : VS x) : isIo (some x) = false := by rcases h with rfl | ⟨d, rfl⟩ <;> simp
theorem VS.own {x : Option SV} (h : VS x) : isOwn (some x) = false := by rcases h with rfl | ⟨d, rfl⟩ <;> simp
/-- a for that may break -/
theorem forD_brk {bind : D → DEnv → Option DEnv} {body : DSt} (I : Nat → DEnv → Prop) : ∀ {ds : List D} {n : Nat} {ρ : DEnv}, I n ρ → (∀ k d ρ, ds[k]? = some d → I (n + k) ρ → ∃ ρ1 ρ2, bind d ρ = some ρ1 ∧ (body ρ1 = .nx ρ2 ∨ body ρ1 = .bk ρ2) ∧ I (n + k + 1) ρ2) → ∃ ρ' n', forD bind body ds ρ = .nx ρ' ∧ I n' ρ' ∧ n' ≤ n + ds.length
  | [], n, ρ, hi, _ => ⟨ρ, n, rfl, hi, by simp⟩
  | d :: ds, n, ρ, hi, h => by
    obtain ⟨ρ1, ρ2, h1, h2, h3⟩ := h 0 d ρ rfl hi
    have step : forD bind body (d :: ds) ρ = (match body ρ1 with
      | .nx ρ2 => forD bind body ds ρ2
      | .ct ρ2 => forD bind body ds ρ2
      | .bk ρ2 => .nx ρ2
      | .rt v ρ2 => .rt v ρ2
      | .err x ρ2 => .err x ρ2
      | .bad => .bad) := by rw [forD, h1]; rfl
    rcases h2 with h2 | h2
    · obtain ⟨ρ', n', h4, h5, h6⟩ := forD_brk I (ds := ds) (n := n + 1) h3 fun k e ρ he hk => by
        have := h (k + 1) e ρ (by simpa using he) (by rw [show n + (k + 1) = n + 1 + k by omega]; exact hk)
        rw [show n + (k + 1) + 1 = n + 1 + k + 1 by omega] at this
        exact this
      refine ⟨ρ', n', ?_, h5, by simp; omega⟩
      rw [step, h2]; exact h4
    · refine ⟨ρ2, n + 1, ?_, h3, by simp⟩
      rw [step, h2]

/-! ### draws: ints from 0 to 999 -/
def Dr (xs : List Int) : Prop := ∀ x ∈ xs, 0 ≤ x ∧ x < 1000
theorem Dr.nil : Dr [] := fun x h => by simp at h
theorem Dr.app {xs ys : List Int} (h : Dr xs) (k : Dr ys) : Dr (xs ++ ys) := fun x hx => (List.mem_append.mp hx).elim (h x) (k x)
theorem Dr.rev {xs : List Int} (h : Dr xs) : Dr xs.reverse := fun x hx => h x (List.mem_reverse.mp hx)
theorem fmod_pos {a b : Int} (hb : 0 < b) : 0 ≤ a.fmod b ∧ a.fmod b < b := by
  rw [Int.fmod_eq_emod_of_nonneg a (Int.le_of_lt hb)]
  exact ⟨Int.emod_nonneg a (by omega), Int.emod_lt_of_pos a hb⟩
theorem Dr.one (a : Int) : Dr [a.fmod 1000] := fun x h => by
  rw [List.mem_singleton.mp h]; exact fmod_pos (by decide)
theorem fdiv_nonneg {a b : Int} (ha : 0 ≤ a) (hb : 0 < b) : 0 ≤ a.fdiv b := by
  rw [Int.fdiv_eq_ediv_of_nonneg a (Int.le_of_lt hb)]
  exact Int.ediv_nonneg ha (Int.le_of_lt hb)
theorem fdiv_le {a b : Int} (ha : 0 ≤ a) (hb : 0 < b) : a.fdiv b ≤ a := by
  rw [Int.fdiv_eq_ediv_of_nonneg a (Int.le_of_lt hb)]
  exact Int.ediv_le_self b ha
end DL

namespace DL
open L2 PySem PySem.Spec PyProof.Rows

/-- try: body; except c: return (what hd tells of the exception) -/
def gTry0 (g : DSt) (hd : Exn → Option D) : DSt := fun ρ => match g ρ with
  | .err x ρ1 => match hd x with
    | some d => .rt (.val d) ρ1
    | none => .bad
  | z => z
section
variable {X : Cx} {W : WX} {x : Str} {c : Value} {body : List Stmt} {e : Expr} {np pr pos pos' : Pos} {g : DSt} {hd : Exn → Option D}
theorem ds_try0 (hs : X.stack = X.env :: X.outer) (hf : X.env.frame = some X.env.locals) (hc : Names X x c) (tk : L2N.Takes X W)
    (hb : ∀ (W' : WX) (pn : List (Addr × Obj)) (xe : Value → Shared → Prop), L2N.Takes (X.tr pn xe) W' → PassesOwn (model X.prog X.w) X.A X.env xe → DSs (X.tr pn xe) W' body g)
    (hh : ∀ y d, hd y = some d → ∃ C, X.mg y.cls = some (.ref C) ∧ y.arg = none ∧ PySem.W.exmOne X.K (.ref C) c = some true ∧ ∀ (a : Addr) (pn : List (Addr × Obj)), DE (X.suite a pn) W0 e (xC d)) :
    DS X W (.Try body [.ExceptHandler (some (.Name x np)) none [.Return (some e) pr] pos'] [] [] pos) (gTry0 g hd) := by
  refine ⟨ps_imp (L2N.ps_try_many (Wout := W) (tb := fun W' => tDS X.K X.mg W' g) hs hf tk (fun W' pn xe tk' po => (hb W' pn xe tk' po).pss)
    (L2N.HdsOk.cons (ts := fun a cls dd E σ' H' => ∃ y d O ρ C, hd y = some d ∧ X.mg y.cls = some (.ref C) ∧ cls = .ref C ∧ RelEnv X.K O σ' H' ρ ∧
      ∀ u H'', EStp σ' ρ H' ρ H'' → RelEnv X.K O σ' H'' ρ → Dp X.K (Gv O σ' ρ H'') u d → E.rt u H'') hc (fun a oe cls dd pn hz hfl => ?_) .nil)) fun E σ H ⟨O, ρ, r, s⟩ => ?_⟩
  · refine ⟨fun pins s σ H D I h => ?_⟩
    obtain ⟨y, d, O, ρ, C, h1, h2, h3, h5, h7⟩ := h
    subst h3
    obtain ⟨C', k1, _, k3, k4⟩ := hh y d h1
    exact (pss_one (ps_ret (pos := pr) (k4 a ((a, oe) :: pn)).pe)).run pins s σ H D I ⟨O, ρ, h5, fun u H'' st r' hu => h7 u H'' st r' hu⟩
  · refine ⟨O, ρ, r, ?_⟩
    unfold gTry0 at s
    cases q : g ρ with
    | nx ρ1 => rw [q] at s; exact s
    | rt v ρ1 => rw [q] at s; exact s
    | bk ρ1 => rw [q] at s; exact s
    | ct ρ1 => rw [q] at s; exact s
    | bad => rw [q] at s; exact s
    | err y ρ1 =>
      rw [q] at s
      dsimp only at s
      intro cls dd σ' H' st r' ex
      split at s
      case h_2 => exact s.elim
      rename_i d hy
      obtain ⟨C, k1, k2, k3, _⟩ := hh y d hy
      obtain ⟨C', e1, e2, e3⟩ := ex
      rw [k1] at e1
      cases e1
      subst e2
      exact ⟨true, k3, fun _ a ha => ⟨y, d, O, ρ1, C, hy, k1, rfl, r', fun u H'' st3 r3 hu => s u σ' H'' (st.trans st3.s) ⟨r3, hu⟩⟩, fun z => nomatch z⟩
@[simp] theorem gTry0_ap {ρ : DEnv} : gTry0 g hd ρ = match g ρ with
  | .err x ρ1 => match hd x with
    | some d => .rt (.val d) ρ1
    | none => .bad
  | z => z := (Eq.refl _).trans (Eq.refl _)
end
end DL

namespace DL
open L2 PySem PySem.Spec PyProof.Rows

/-! ### a name's own dict, its keys whole numbers or texts -/
def keyD : D → Option Key
  | .int n => some (Sum.inl n)
  | .str x => some (Sum.inr x)
  | _ => none
theorem keyD_kV {K : Frg} {G : Hp} {d : D} {k : Key} {u : V} (h : keyD d = some k) (hd : Dp K G u d) : u = kV k := by
  cases d with
  | int n => cases h; cases hd; rfl
  | str x => cases h; cases hd; rfl
  | none => cases h
  | bool _ => cases h
  | list _ => cases h
  | tuple _ => cases h
  | dict _ => cases h
def valKD (kvs : List (Key × D)) (k : Key) : Option D := (kvs.find? fun kv => decide (kv.1 = k)).map (·.2)
def putKD (kvs : List (Key × D)) (k : Key) (v : D) : List (Key × D) :=
  if (kvs.any fun kv => decide (kv.1 = k)) = true then kvs.map (fun kv => if kv.1 = k then (kv.1, v) else kv) else kvs ++ [(k, v)]
section
variable {K : Frg} {G : Hp}
theorem valK_rel : ∀ {vvs : List (Key × V)} {kvs : List (Key × D)} (k : Key), vvs.map (·.1) = kvs.map (·.1) → DpAll K G (vvs.map (·.2)) (kvs.map (·.2)) →
    (valV vvs k = none ∧ valKD kvs k = none) ∨ ∃ v d, valV vvs k = some v ∧ valKD kvs k = some d ∧ Dp K G v d
  | [], [], k, _, _ => .inl ⟨rfl, rfl⟩
  | [], _ :: _, _, e, _ => by simp at e
  | _ :: _, [], _, e, _ => by simp at e
  | (k1, v) :: vvs, (k2, d) :: kvs, k, e, a => by
    simp only [List.map_cons, List.cons.injEq] at e
    obtain ⟨rfl, e⟩ := e
    cases a with
    | cons a1 a2 =>
      by_cases h : k1 = k
      · exact .inr ⟨v, d, by simp [valV, h], by simp [valKD, h], a1⟩
      · have := valK_rel k e a2
        simpa [valV, valKD, h] using this
theorem any_rel : ∀ {vvs : List (Key × V)} {kvs : List (Key × D)} (k : Key), vvs.map (·.1) = kvs.map (·.1) → (vvs.any fun kv => decide (kv.1 = k)) = (kvs.any fun kv => decide (kv.1 = k))
  | [], [], _, _ => rfl
  | [], _ :: _, _, e => by simp at e
  | _ :: _, [], _, e => by simp at e
  | (k1, v) :: vvs, (k2, d) :: kvs, k, e => by
    simp only [List.map_cons, List.cons.injEq] at e
    obtain ⟨rfl, e⟩ := e
    rw [List.any_cons, List.any_cons, any_rel k e]
theorem mapK_rel (k : Key) {y : V} {z : D} (hy : Dp K G y z) : ∀ {vvs : List (Key × V)} {kvs : List (Key × D)}, vvs.map (·.1) = kvs.map (·.1) → DpAll K G (vvs.map (·.2)) (kvs.map (·.2)) →
    ((vvs.map fun kv => if kv.1 = k then (kv.1, y) else kv).map (·.1) = (kvs.map fun kv => if kv.1 = k then (kv.1, z) else kv).map (·.1)) ∧ DpAll K G ((vvs.map fun kv => if kv.1 = k then (kv.1, y) else kv).map (·.2)) ((kvs.map fun kv => if kv.1 = k then (kv.1, z) else kv).map (·.2))
  | [], [], _, _ => ⟨rfl, .nil⟩
  | [], _ :: _, e, _ => by simp at e
  | _ :: _, [], e, _ => by simp at e
  | (k1, v) :: vvs, (k2, d) :: kvs, e, a => by
    simp only [List.map_cons, List.cons.injEq] at e
    obtain ⟨rfl, e⟩ := e
    cases a with
    | cons a1 a2 =>
      obtain ⟨h1, h2⟩ := mapK_rel k hy e a2
      by_cases h : k1 = k
      · simp only [List.map_cons, h, if_true]
        exact ⟨by rw [h1], .cons hy h2⟩
      · simp only [List.map_cons, h, if_false]
        exact ⟨by rw [h1], .cons a1 h2⟩
theorem putK_rel {vvs : List (Key × V)} {kvs : List (Key × D)} (k : Key) {y : V} {z : D} (hy : Dp K G y z) (e : vvs.map (·.1) = kvs.map (·.1)) (a : DpAll K G (vvs.map (·.2)) (kvs.map (·.2))) :
    (putK vvs k y).map (·.1) = (putKD kvs k z).map (·.1) ∧ DpAll K G ((putK vvs k y).map (·.2)) ((putKD kvs k z).map (·.2)) := by
  unfold putK putKD
  rw [any_rel k e]
  split
  · exact mapK_rel k hy e a
  · simp only [List.map_append, List.map_cons, List.map_nil]
    exact ⟨by rw [e], DL.DpAll.append a (.cons hy .nil)⟩
end
/-- x[e], x a name with its own dict -/
def xDGet (i : Nat) (f : DX) : DX := fun ρ => match ρ[i]? with
  | some (some (.own _ (.dK _))) => bindR (f ρ) fun v ρ1 => optR (deref ρ1 v) fun d => optR (keyD d) fun k => match ρ1[i]? with
    | some (some (.own _ (.dK kvs))) => optR (valKD kvs k) fun z => .ok (.val z) ρ1
    | _ => .bad
  | _ => .bad
/-- e in x, e not in x -/
def xtDIn (neg : Bool) (i : Nat) (f : DX) : DEnv → Res Bool := fun ρ => bindR (f ρ) fun v ρ1 => optR (deref ρ1 v) fun d => optR (keyD d) fun k => match ρ1[i]? with
    | some (some (.own _ (.dK kvs))) => .ok (if neg = true then !(valKD kvs k).isSome else (valKD kvs k).isSome) ρ1
    | _ => .bad
/-- x[e] = f -/
def gDPut (i : Nat) (fk fv : DX) : DSt := fun ρ => bindF (fv ρ) fun v ρ1 => optF (keep v ρ1) fun p => match p.2[i]? with
  | some (some (.own _ (.dK _))) => bindF (fk p.2) fun w ρ2 => optF (deref ρ2 w) fun d => optF (keyD d) fun k => match ρ2[i]? with
    | some (some (.own b (.dK kvs))) => if kvs.length < sizeLine then .nx (ρ2.set i (some (.own b (.dK (putKD kvs k p.1))))) else .bad
    | _ => .bad
  | _ => .bad
section
variable {X : Cx} {W : WX} {i : Nat} {o e v : Expr} {pos pos' : Pos} {f fk fv : DX}
theorem de_dget (hu : X.A.units + 200 < cLine) (ho : PE X o (tVar i)) (he : DE X W e f) (hs : NoSl e := by exact fun _ _ => rfl) : DE X W (.Subscript o e pos) (xDGet i f) := by
  refine ⟨pe_imp (pe_dget (by omega) ho he.pe hs) fun σ H Q ⟨O, ρ, r, s⟩ => ?_⟩
  unfold xDGet at s
  split at s
  case h_2 => exact s.elim
  rename_i b0 kvs0 e0
  obtain ⟨a, h1, _, _⟩ := r.own i _ _ e0
  refine ⟨_, h1, O, ρ, r, (Sat.bind s).imp fun u H1 ⟨w, ρ1, r1, e1, s1⟩ => ?_⟩
  obtain ⟨d, hd, s2⟩ := optR_sat s1
  obtain ⟨k, hk, s3⟩ := optR_sat s2
  split at s3
  case h_2 => exact s3.elim
  rename_i b kvs e3
  obtain ⟨z, hz, s4⟩ := optR_sat s3
  obtain ⟨a2, k1, k2, vvs, k3, k4, k5⟩ := r1.own i _ _ e3
  rw [h1] at k1
  cases k1
  have hu' := keyD_kV hk (e1.dp r1 hd)
  rcases valK_rel k k4 k5 with ⟨_, q⟩ | ⟨y, d', q1, q2, q3⟩
  · rw [q] at hz; cases hz
  · rw [q2] at hz
    cases hz
    refine ⟨a, y, rfl, ?_, s4 y H1 .refl r1 q3⟩
    rw [hu', ← q1]
    exact DGet.k k3
theorem valK_some {K : Frg} {G : Hp} {vvs : List (Key × V)} {kvs : List (Key × D)} (k : Key) (e : vvs.map (·.1) = kvs.map (·.1)) (a : DpAll K G (vvs.map (·.2)) (kvs.map (·.2))) : (valV vvs k).isSome = (valKD kvs k).isSome := by
  rcases valK_rel k e a with ⟨h1, h2⟩ | ⟨v, d, h1, h2, _⟩
  · rw [h1, h2]; rfl
  · rw [h1, h2]; rfl
theorem dt_din (hu : X.A.units + 200 < cLine) (ho : PE X o (tVar i)) (he : DE X W e f) (hm : behindInMarks .In o = false := by rfl) : DT X W (.Compare e [.In] [o] pos) (xtDIn false i f) := by
  refine ⟨pt_imp (pt_cmp (pc_din (by omega) he.pe ho) hm) fun σ H Q ⟨O, ρ, r, s⟩ => ?_⟩
  unfold xtDIn at s
  refine ⟨O, ρ, r, (Sat.bind s).imp fun u H1 ⟨w, ρ1, r1, e1, s1⟩ => ?_⟩
  obtain ⟨d, hd, s2⟩ := optR_sat s1
  obtain ⟨k, hk, s3⟩ := optR_sat s2
  split at s3
  case h_2 => exact s3.elim
  rename_i b kvs e3
  obtain ⟨a2, k1, k2, vvs, k3, k4, k5⟩ := r1.own i _ _ e3
  have hu' := keyD_kV hk (e1.dp r1 hd)
  refine ⟨_, k1, a2, valV vvs k, rfl, by rw [hu']; exact DGet.k k3, _, rfl, ?_⟩
  rw [valK_some k k4 k5]
  exact s3 _ H1 .refl r1 rfl
theorem dt_dnotin (hu : X.A.units + 200 < cLine) (ho : PE X o (tVar i)) (he : DE X W e f) (hm : behindInMarks .NotIn o = false := by rfl) : DT X W (.Compare e [.NotIn] [o] pos) (xtDIn true i f) := by
  refine ⟨pt_imp (pt_cmp (pc_dnotin (by omega) he.pe ho) hm) fun σ H Q ⟨O, ρ, r, s⟩ => ?_⟩
  unfold xtDIn at s
  refine ⟨O, ρ, r, (Sat.bind s).imp fun u H1 ⟨w, ρ1, r1, e1, s1⟩ => ?_⟩
  obtain ⟨d, hd, s2⟩ := optR_sat s1
  obtain ⟨k, hk, s3⟩ := optR_sat s2
  split at s3
  case h_2 => exact s3.elim
  rename_i b kvs e3
  obtain ⟨a2, k1, k2, vvs, k3, k4, k5⟩ := r1.own i _ _ e3
  have hu' := keyD_kV hk (e1.dp r1 hd)
  refine ⟨_, k1, a2, valV vvs k, rfl, by rw [hu']; exact DGet.k k3, _, rfl, ?_⟩
  rw [valK_some k k4 k5]
  exact s3 _ H1 .refl r1 rfl
theorem ds_dput (hu : X.A.units + 200 < cLine) (ho : PE X o (tVar i)) (he : DE X W e fk) (hv : DE X W v fv) (hs : swapsWith v (some (.Subscript o e pos')) pos.line X.env = pure false := by rfl) : DS X W (.Assign [.Subscript o e pos'] v pos) (gDPut i fk fv) := by
  refine ⟨ps_imp (ps_dput (by omega) ho he.pe hv.pe hs) fun E σ H ⟨O, ρ, r, s⟩ => ⟨O, ρ, r, (SatS.bind s).imp fun u H1 ⟨v, ρ1, r1, e1, st, s1⟩ => ?_⟩⟩
  obtain ⟨⟨d, ρ2⟩, hk, s2⟩ := optF_sat s1
  obtain ⟨r2, st2, hd⟩ := keep_ok r1 e1 hk
  try dsimp only at s2
  split at s2
  case h_2 => exact s2.elim
  rename_i b0 kvs0 e0
  obtain ⟨a, h1, _, _⟩ := r2.own i _ _ e0
  refine ⟨_, h1, O, ρ2, r2, (SatS.bind (s2.shift st2.s)).imp fun y H2 ⟨w, ρ3, r3, e3, st3, s3⟩ => ?_⟩
  obtain ⟨dk, hdk, s4⟩ := optF_sat s3
  obtain ⟨k, hkk, s5⟩ := optF_sat s4
  try dsimp only at s5
  split at s5
  case h_2 => exact s5.elim
  rename_i b kvs e5
  split at s5
  case isFalse => exact s5.elim
  rename_i hlen
  obtain ⟨a2, k1, k2, vvs, k3, k4, k5⟩ := r3.own i _ _ e5
  rw [h1] at k1
  cases k1
  have hu' := keyD_kV hkk (e3.dp r3 hdk)
  have hl : vvs.length = kvs.length := by
    have := congrArg List.length k4
    simpa using this
  have hdu : Dp X.K (Gv O σ ρ3 H2) u d := dp_mono st3.gv _ _ hd
  obtain ⟨p1, p2⟩ := putK_rel k hdu k4 k5
  obtain ⟨r6, st6⟩ := put_own (c' := .dK (putKD kvs k d)) (o := .dK (putK vvs k u)) r3 e5 h1 ⟨_, upd_same, p1, p2⟩
  exact ⟨a, _, rfl, by rw [hu']; exact DPut.k k3 (by omega), s5 σ _ st6.s r6⟩
/-- {e: f} with one pair -/
def xDOne (fk fv : DX) : DEnv → Res Cell := fun ρ => bindR (fk ρ) fun w ρ1 => optR (deref ρ1 w) fun d => optR (keyD d) fun k => bindR (fv ρ1) fun v ρ2 => optR (keep v ρ2) fun p => .ok (.dK [(k, p.1)]) p.2
end
section
variable {X : Cx} {W : WX} {i : Nat} {o e : Expr} {apos cpos : Pos} {f : DX}
/-- x.remove(e), the items ints, e among them -/
def xRem (i : Nat) (f : DX) : DX := fun ρ => match ρ[i]? with
  | some (some (.own _ (.lst _))) => bindR (f ρ) fun v ρ1 => match deref ρ1 v, ρ1[i]? with
    | some (.int k), some (some (.own b (.lst ds))) => optR (intsOf ds) fun ns => if k ∈ ns then .ok (.val .none) (ρ1.set i (some (.own b (.lst ((ns.erase k).map .int))))) else .bad
    | _, _ => .bad
  | _ => .bad
theorem tk0 : L2.Takes X (fun _ _ _ _ => False) := fun _ _ ⟨_, _, _, _, _, _, _, _, _, _, _, _, _, _, _, _, w⟩ => w.elim
theorem de_rem (hc : X.calm = true) (ho : PE X o (tVar i)) (he : DE X W e f) (hbase : attributeBase o "remove" X.env (eval o X.env) = eval o X.env := by rfl)
    (hfew : ((backTo cpos (starEach [e] X.env)).all (fun x => !x.1) && (backToKw cpos (keywordEach [] X.env)).all (fun x => x.1.isSome)
      && decide (([e] : List Expr).length + ([] : List Keyword).length + (if ([] : List Keyword).isEmpty then 0 else 1) < 30)) = true := by rfl)
    (hline : (apos.endLine == cpos.line) = true := by rfl) (hs : starEach [e] X.env = (false, eval e X.env) :: starEach [] X.env := by rfl) (hplain : (backTo cpos (starEach [] X.env)).any (·.1) = false := by rfl) :
    DE X W (.Call (.Attribute o "remove" apos) [e] [] cpos) (xRem i f) := by
  refine ⟨pe_imp (pe_remX hc tk0 ho he.pe hbase hfew hline hs hplain) fun σ H Q ⟨O, ρ, r, s⟩ => ?_⟩
  unfold xRem at s
  split at s
  case h_2 => exact s.elim
  rename_i b0 ds0 e0
  obtain ⟨a, h1, _, vs0, h3, h4⟩ := r.own i _ _ e0
  refine ⟨_, h1, .inl ⟨rfl, vs0, SqL.of h3⟩, O, ρ, r, (Sat.bind s).imp fun u H1 ⟨w, ρ1, r1, e1, s1⟩ => ?_⟩
  try dsimp only at s1
  split at s1
  case h_2 => exact s1.elim
  rename_i k b ds hd e2
  obtain ⟨ns, hn, s2⟩ := optR_sat s1
  split at s2
  case isFalse => exact s2.elim
  rename_i hin
  obtain ⟨a2, k1, k2, xs, k3, k4⟩ := r1.own i _ _ e2
  rw [h1] at k1
  cases k1
  have hl := intsOf_eq hn
  subst hl
  have hw := DL.DpAll.ints k4
  subst hw
  cases RelE.int e1 r1 hd
  refine ⟨a, ns, k, rfl, rfl, k3, fun _ => ?_, fun z => absurd hin z⟩
  obtain ⟨r3, st3⟩ := put_own (c' := .lst ((ns.erase k).map .int)) (o := .lst ((ns.erase k).map V.int)) r1 e2 h1 ⟨_, upd_same, DL.DpAll.of_ints _⟩
  exact s2 _ _ st3 r3 (show Dp _ _ _ _ from .non)
end
section
variable {K : Frg} {O : Addr → Prop} {σ : L2.St} {ρ : DEnv} {H : Hp} {p : Addr} {o : HO}
theorem gv_at : ∀ a u, Gv (fun a => O a ∨ a = p) σ ρ H a = some u → Gv (fun a => O a ∨ a = p) σ ρ (upd H p o) a = some u := fun a u e => by
  obtain ⟨h1, h2, h3⟩ := of_Gv e
  have n : a ≠ p := fun z => h1 (.inr z)
  exact Gv_of h1 h2 (by rw [upd_ne n]; exact h3)
theorem RelEnv.atHidden (r : RelEnv K (fun a => O a ∨ a = p) σ H ρ) : RelEnv K (fun a => O a ∨ a = p) σ (upd H p o) ρ := by
  refine ⟨r.len, fun a q => ?_, fun i d e => let ⟨v, h1, h2⟩ := r.val i d e; ⟨v, h1, dp_mono gv_at _ _ h2⟩, fun i b c e => ?_, r.inj, r.raw⟩
  · by_cases z : a = p
    · rw [z, upd_same]; exact fun z => nomatch z
    · rw [upd_ne z]; exact r.oa a q
  · obtain ⟨a, h1, h2, h3⟩ := r.own i b c e
    have n : a ≠ p := fun z => h2 (.inr z)
    exact ⟨a, h1, h2, h3.mono gv_at fun u e => by rw [upd_ne n]; exact e⟩
variable {X : Cx} {W : WX} {k v : Expr} {fk fv : DX} {pos : Pos}
theorem dl_done (hk : DE X W k fk) (hv : DE X W v fv) : DLs X W (.Dict [some k] [v] pos) (xDOne fk fv) := by
  refine ⟨pe_imp (pe_disp (pps_cons hk.pe hv.pe pps_nil) rfl rfl (by simp) (by simp)) fun σ H Q ⟨O, ρ, r, s⟩ => ?_⟩
  intro p hp
  have e0 : EStp σ ρ H ρ (upd H p (.dK [])) := EStp.same (same_upd hp)
  have r0 : RelEnv X.K (fun a => O a ∨ a = p) σ (upd H p (.dK [])) ρ := r.hidden hp
  have np : ¬ Ow σ ρ p := (r.fresh hp).2
  refine ⟨fun a => O a ∨ a = p, ρ, r0, ?_⟩
  unfold xDOne at s
  cases q : fk ρ with
  | bad => rw [q] at s; exact s
  | err x ρ1 => rw [q] at s; exact fun c d H' st r1 ex => s c d H' (e0.trans st) r1.unhide ex
  | ok w ρ1 =>
    rw [q] at s
    intro x H1 st1 r1 e1
    rw [bindR_ok] at s
    obtain ⟨d, hd, s2⟩ := optR_satL s
    obtain ⟨k, hkk, s3⟩ := optR_satL s2
    refine ⟨fun a => O a ∨ a = p, ρ1, r1, ?_⟩
    cases q2 : fv ρ1 with
    | bad => rw [q2] at s3; exact s3
    | err x ρ2 => rw [q2] at s3; exact fun c d H' st r2 ex => s3 c d H' ((e0.trans st1).trans st) r2.unhide ex
    | ok v ρ2 =>
      rw [q2] at s3
      intro y H2 st2 r2 e2
      rw [bindR_ok] at s3
      obtain ⟨⟨dv, ρ3⟩, hkp, s4⟩ := optR_satL s3
      obtain ⟨r3, st3, hdv⟩ := keep_ok r2 e2 hkp
      have E := (e0.trans st1).trans (st2.trans st3)
      have hx := keyD_kV hkk (e1.dp r1 hd)
      have atp : ∀ {ρ' : DEnv} {H' : Hp}, EStp σ ρ (upd H p (.dK [])) ρ' H' → H' p = some (.dK []) := fun E' => E'.ext p _ upd_same np
      have hp2 : H2 p = some (.dK []) := atp (st1.trans (st2.trans st3))
      refine ⟨hp2, [(k, y)], by rw [hx]; rfl, by simp, ?_⟩
      refine s4 p _ ⟨fun b o e n => by rw [upd_ne (ne_of_none e hp)]; exact E.ext b o e n, fun b e => ?_, E.own, E.io⟩ hp ⟨RelEnv.atHidden r3, (r.fresh hp).1, fun z => np (E.own p z), [(k, y)], upd_same, rfl, .cons (dp_mono gv_at _ _ hdv) .nil⟩
      by_cases z : b = p
      · rw [z, upd_same]; exact fun z => nomatch z
      · rw [upd_ne z]; exact E.al b e
end
/-! ### stepped by simp -/
section
variable {ρ : DEnv} {i : Nat} {f fk fv : DX} {α : Type}
def dkR (o : Option (Option SV)) (k : Bool → List (Key × D) → Res α) : Res α := match o with
  | some (some (.own b (.dK kvs))) => k b kvs
  | _ => .bad
def dkF (o : Option (Option SV)) (k : Bool → List (Key × D) → Fl) : Fl := match o with
  | some (some (.own b (.dK kvs))) => k b kvs
  | _ => .bad
@[simp] theorem dkR_own {b : Bool} {kvs : List (Key × D)} {k : Bool → List (Key × D) → Res α} : dkR (some (some (.own b (.dK kvs)))) k = k b kvs := (Eq.refl _).trans (Eq.refl _)
@[simp] theorem dkF_own {b : Bool} {kvs : List (Key × D)} {k : Bool → List (Key × D) → Fl} : dkF (some (some (.own b (.dK kvs)))) k = k b kvs := (Eq.refl _).trans (Eq.refl _)
@[simp] theorem keyD_int {n : Int} : keyD (.int n) = some (Sum.inl n) := (Eq.refl _).trans (Eq.refl _)
@[simp] theorem keyD_str {x : Str} : keyD (.str x) = some (Sum.inr x) := (Eq.refl _).trans (Eq.refl _)
@[simp] theorem xDGet_ap : xDGet i f ρ = dkR ρ[i]? fun _ _ => bindR (f ρ) fun v ρ1 => optR (deref ρ1 v) fun d => optR (keyD d) fun k => dkR ρ1[i]? fun _ kvs => optR (valKD kvs k) fun z => .ok (.val z) ρ1 := by
  unfold xDGet dkR; rfl
@[simp] theorem xtDIn_ap {neg : Bool} : xtDIn neg i f ρ = bindR (f ρ) fun v ρ1 => optR (deref ρ1 v) fun d => optR (keyD d) fun k => dkR ρ1[i]? fun _ kvs => .ok (if neg = true then !(valKD kvs k).isSome else (valKD kvs k).isSome) ρ1 := by
  unfold xtDIn dkR; rfl
@[simp] theorem gDPut_ap : gDPut i fk fv ρ = bindF (fv ρ) fun v ρ1 => optF (keep v ρ1) fun p => dkF p.2[i]? fun _ _ => bindF (fk p.2) fun w ρ2 => optF (deref ρ2 w) fun d => optF (keyD d) fun k => dkF ρ2[i]? fun b kvs =>
    if kvs.length < sizeLine then .nx (ρ2.set i (some (.own b (.dK (putKD kvs k p.1))))) else .bad := by
  unfold gDPut dkF; rfl
@[simp] theorem xDOne_ap : xDOne fk fv ρ = bindR (fk ρ) fun w ρ1 => optR (deref ρ1 w) fun d => optR (keyD d) fun k => bindR (fv ρ1) fun v ρ2 => optR (keep v ρ2) fun p => .ok (.dK [(k, p.1)]) p.2 := (Eq.refl _).trans (Eq.refl _)
def remR (o : Option D) (o2 : Option (Option SV)) (k : Int → Bool → List D → Res EV) : Res EV := match o, o2 with
  | some (.int n), some (some (.own b (.lst ds))) => k n b ds
  | _, _ => .bad
@[simp] theorem remR_own {n : Int} {b : Bool} {ds : List D} {k : Int → Bool → List D → Res EV} : remR (some (.int n)) (some (some (.own b (.lst ds)))) k = k n b ds := (Eq.refl _).trans (Eq.refl _)
@[simp] theorem xRem_ap : xRem i f ρ = xmA ρ[i]? (bindR (f ρ) fun v ρ1 => remR (deref ρ1 v) ρ1[i]? fun k b ds => optR (intsOf ds) fun ns => if k ∈ ns then .ok (.val .none) (ρ1.set i (some (.own b (.lst ((ns.erase k).map .int))))) else .bad) := by
  unfold xRem xmA remR; rfl
end
end DL


namespace HT
open PySem PySem.Spec PyProof.Rows
section
variable {prog : Program} {w : World} {A : Around} {E : Value → Shared → Prop} {s : Shared}
theorem sliceApplied_rev {sl : Addr} {vl vu vs : Value} {n : Nat} {Q : Int × Int × Nat → Shared → Prop} (hs : s.heap.IsSliceOf sl vl vu vs) (pl : IsPart vl none) (pu : IsPart vu none) (ps : IsPart vs (some (-1)))
    (h : Q ((n : Int) - 1, -1, n) s) : wpAny (model prog w) A (Builtin.Slice.sliceApplied (.ref sl) (pure (n : Int))) Q E s := by
  obtain ⟨os, hos, hcs, hds⟩ := id hs
  unfold Builtin.Slice.sliceApplied Builtin.Slice.sliceFields
  refine wpAny_bind (wpAny_bind (wpAny_field hos hds (x := vl) rfl (wpAny_bind (wpAny_field hos hds (x := vu) rfl (wpAny_bind (wpAny_field hos hds (x := vs) rfl (wpAny_pure ?_)))))))
  refine wpAny_bind (slicePart_ ps ?_)
  show wpAny _ _ (if ((-1 : Int) == 0) = true then _ else _) _ _ s
  rw [if_neg (by decide)]
  refine wpAny_bind (slicePart_ pl (wpAny_bind (slicePart_ pu (wpAny_bind (wpAny_pure ?_)))))
  have e : Builtin.Slice.slicePlaces ((n : Int) - 1) (-1) (-1) = n := by
    unfold Builtin.Slice.slicePlaces
    cases n with
    | zero => rfl
    | succ n =>
      simp
      omega
  have e2 : Builtin.Slice.sliceAdjust none none (-1) (n : Int) = ((n : Int) - 1, -1) := by
    unfold Builtin.Slice.sliceAdjust
    rfl
  show wpAny _ _ (match Builtin.Slice.sliceAdjust none none (-1) (n : Int) with | (lo, hi) => pure (lo, (-1 : Int), Builtin.Slice.slicePlaces lo hi (-1))) _ _ s
  rw [e2]
  show wpAny _ _ (pure ((n : Int) - 1, (-1 : Int), Builtin.Slice.slicePlaces ((n : Int) - 1) (-1) (-1))) _ _ s
  rw [e]
  exact wpAny_pure h
theorem fm_congr {α β : Type} {f g : α → Option β} : ∀ l : List α, (∀ k ∈ l, f k = g k) → l.filterMap f = l.filterMap g
  | [], _ => rfl
  | a :: l, h => by rw [List.filterMap_cons, List.filterMap_cons, h a List.mem_cons_self, fm_congr l fun k hk => h k (List.mem_cons_of_mem _ hk)]
theorem pick_rev (xs : Array Value) : ((List.range xs.size).filterMap fun (k : Nat) => xs[((xs.size : Int) - 1 + (k : Int) * (-1)).toNat]?).toArray = xs.toList.reverse.toArray := by
  have e : ((List.range xs.size).filterMap fun (k : Nat) => xs[((xs.size : Int) - 1 + (k : Int) * (-1)).toNat]?) = xs.toList.reverse := by
    have e1 : ∀ k ∈ List.range xs.size, xs[((xs.size : Int) - 1 + (k : Int) * (-1)).toNat]? = some (xs.toList.reverse.getD k default) := by
      intro k hk
      have hk' := List.mem_range.mp hk
      have e2 : ((xs.size : Int) - 1 + (k : Int) * (-1)).toNat = xs.size - 1 - k := by omega
      rw [e2, List.getD_eq_getElem?_getD, List.getElem?_reverse (by simpa using hk')]
      simp
      have : xs.size - 1 - k < xs.size := by omega
      simp [this]
    have : ((List.range xs.size).filterMap fun (k : Nat) => xs[((xs.size : Int) - 1 + (k : Int) * (-1)).toNat]?) = (List.range xs.size).map fun k => xs.toList.reverse.getD k default := by
      rw [← List.filterMap_eq_map]
      exact fm_congr _ fun k hk => by rw [e1 k hk]; rfl
    rw [this]
    refine List.ext_getElem (by simp) fun i h1 h2 => ?_
    have h2' : i < xs.size := by simpa using h2
    simp [h2']
  rw [e]
theorem getItem_tuple_rev {t sl : Addr} {items : Array Value} {vl vu vs : Value} {Q : Value → Shared → Prop} (ht : IsTup s.heap t items) (hs : s.heap.IsSliceOf sl vl vu vs) (pl : IsPart vl none) (pu : IsPart vu none) (ps : IsPart vs (some (-1)))
    (h : Q (.ref s.heap.objs.size) { s with heap := s.heap.push { cls := .type "tuple", data := .seq items.toList.reverse.toArray } })
    (hsz : items.size ≤ sizeLine) : wpAny (model prog w) A (getItem (.ref t) (.ref sl)) Q E s := by
  have htake : sizeOk (.seq items.toList.reverse.toArray) := by
    show items.toList.reverse.toArray.size ≤ sizeLine
    simpa using hsz
  obtain ⟨os, hos, hcs, hds⟩ := id hs
  have hTs : s.TypeIs (.ref sl) "slice" := ⟨os, hos, hcs⟩
  unfold getItem
  try with_reducible refine wpAny_holding ?_
  first | refine wpAny_bind (wpAny_pure ?_) | skip
  refine wpAny_bind (wpAny_sequenceKey ht.typeIs (by decide) ?_)
  refine wpAny_bind (wpAny_callSpecial?_slot (name := Str.ofString "__getitem__") ht.typeIs PyProof.Rows.slot_tuple_getitem
    (wpAny_call_entry PyProof.Rows.slot_tuple_getitem ht.typeIs entry_tuple_getitem ?_ (args_tuple_getitem _ _)))
  show wpAny _ _ (Builtin.Tuple.tupleItemsOf (.ref t) >>= _) _ _ s
  refine wpAny_bind (tupleItemsOf_ ht ?_)
  refine wpAny_bind (wpAny_typeOf hTs ?_)
  rw [if_pos (by decide)]
  refine wpAny_bind (sliceApplied_rev hs pl pu ps ?_)
  have hno : ¬ ((((items.size : Int) - 1 == 0 && (-1 : Int) == 1 && items.size == items.size) = true)) := by
    intro q
    rw [Bool.and_eq_true, Bool.and_eq_true] at q
    exact absurd q.1.2 (by decide)
  show wpAny _ _ (if (((items.size : Int) - 1 == 0 && (-1 : Int) == 1 && items.size == items.size) = true) then _ else _) _ _ s
  rw [if_neg hno, pick_rev]
  first
    | exact wpAny_bind (m := Builtin.Tuple.tupleExact _) (wpAny_newObj_type (wpAny_pure ⟨_, rfl, wpAny_pure h⟩) htake)
    | exact wpAny_bind (m := Builtin.Tuple.tupleExact _) (wpAny_newObj_type (wpAny_bind (wpAny_pure (wpAny_pure ⟨_, rfl, wpAny_pure h⟩))) htake)
    | exact wpAny_bind (wpAny_bind (m := Builtin.Tuple.tupleExact _) (wpAny_newObj_type (wpAny_pure (wpAny_pure ⟨_, rfl, wpAny_pure h⟩)) htake))
    | exact wpAny_bind (wpAny_bind (m := Builtin.Tuple.tupleExact _) (wpAny_newObj_type (wpAny_pure ⟨_, rfl, wpAny_pure h⟩) htake))
end
end HT

namespace L2
open PySem PySem.Spec PyProof.Rows
section
variable {X : Cx}
def tRevT (K : PySem.W.Frag) (te : TE) : TE := fun σ H Q => te σ H fun x H1 => ∃ a xs, x = .ref a ∧ SqT K H1 a xs ∧ ∀ p, H1 p = none → Q (.ref p) (upd H1 p (.tup xs.reverse))
theorem pe_revT {e : Expr} {te : TE} {k : Nat} {p1 p2 p3 pos : Pos} (he : PE X e te) : PE X (.Subscript e (.Slice none none (some (.UnaryOp .USub (.Constant (.int 1) k p1) p2)) p3) pos) (tRevT X.K te) := by
  refine ⟨fun pins s σ H Q I h => ?_⟩
  refine Subscript_ (thn (he.run pins s σ H _ I h) fun v s1 ⟨x, H1, I1, r1, q1⟩ => ?_)
  obtain ⟨a, xs, ex, hx, q⟩ := q1
  subst ex
  cases r1
  have hst : PO X (some (.UnaryOp .USub (.Constant (.int 1) k p1) p2)) (tPart (tUn (rU fun i => .int (-i)) (tC (.int 1)))) := po_some (pe_un un_neg pe_int)
  refine wpAny_Slice (thn (po_none.run pins s1 σ H1 (fun o H2 => o = none ∧ H2 = H1) I1 ⟨rfl, rfl⟩) fun vl s2 ⟨l, H2, I2, pl, el, e2⟩ => ?_)
  subst el e2
  refine thn (po_none.run pins s2 σ H2 (fun o H3 => o = none ∧ H3 = H2) I2 ⟨rfl, rfl⟩) fun vu s3 ⟨u, H3, I3, pu, eu, e3⟩ => ?_
  subst eu e3
  refine thn (hst.run pins s3 σ H3 (fun o H4 => o = some (-1) ∧ H4 = H3) I3 ⟨1, rfl, -1, rfl, rfl, rfl⟩) fun vs s4 ⟨o, H4, I4, ps, eo, e4⟩ => ?_
  subst eo e4
  have I5 : Inv X pins σ H4 { s4 with heap := s4.heap.push { cls := .type "slice", data := .fields #[vl, vu, vs] } } := I4.kept (t' := s4.toks) fun b ob q => Heap.get?_push_of_some _ q
  obtain ⟨its, r, ht, hz⟩ := I5.tuple hx
  have hlen := r.length
  show wpAny (model X.prog X.w) X.A (subscriptTail e (.Slice none none (some (.UnaryOp .USub (.Constant (.int 1) k p1) p2)) p3) (.ref a) (.ref s4.heap.objs.size)) (EP X pins σ Q) X.xe { s4 with heap := s4.heap.push { cls := .type "slice", data := .fields #[vl, vu, vs] } }
  refine tail_any (ops := [.ref a, .ref s4.heap.objs.size]) ht.typeIs (PyProof.Rows.slot_tuple_getitem.lookup) ?_ (by with_unfolding_all rfl)
  refine HT.getItem_tuple_rev ht (Heap.IsSliceOf.new _ vl vu vs) pl pu ps ?_ (by rw [List.size_toArray]; omega)
  refine ⟨.ref _, _, I5.laid (t' := s4.toks) (o := .tup xs.reverse) (fun b ob q => Heap.get?_push_of_some _ q) (Nat.le_refl _) ?_, rfl, q _ (I5.hok.fresh (Nat.le_refl _))⟩
  exact ⟨by rw [List.length_reverse]; exact hz, _, r.reverse, IsTup.new _ _⟩
end
end L2

namespace DL
open L2 PySem PySem.Spec PyProof.Rows
section
variable {X : Cx} {W : WX} {e : Expr} {f : DX} {k : Nat} {p1 p2 p3 pos : Pos}
/-- t[::-1], t a tuple -/
def kRevT : D → Option D
  | .tuple ds => some (.tuple ds.reverse)
  | _ => none
theorem de_revT (he : DE X W e f) : DE X W (.Subscript e (.Slice none none (some (.UnaryOp .USub (.Constant (.int 1) k p1) p2)) p3) pos) (x1 kRevT f) := by
  refine ⟨pe_imp (pe_revT he.pe) fun σ H Q ⟨O, ρ, r, s⟩ => ⟨O, ρ, r, (Sat.bind s).imp fun u H1 ⟨v, ρ1, r1, e1, s1⟩ => ?_⟩⟩
  obtain ⟨d, hd, s2⟩ := optR_sat s1
  obtain ⟨z, hz, s3⟩ := optR_sat s2
  unfold kRevT at hz
  split at hz
  · cases hz
    obtain ⟨p, vs, rfl, t1, a1⟩ := RelE.tup e1 r1 hd
    refine ⟨p, vs, rfl, SqT.mono Gv_sub t1, fun q hq => ?_⟩
    obtain ⟨m1, m2⟩ := dp_new r1 hq (DL.DpAll.reverse a1)
    exact s3 _ _ (.same m1) (r1.same m1) m2
  · cases hz
/-- l[::-1], l a list -/
def xRevL (f : DX) : DEnv → Res Cell := fun ρ => bindR (f ρ) fun a ρ1 => match deref ρ1 a with
  | some (.list ds) => .ok (.lst ds.reverse) ρ1
  | _ => .bad
theorem dl_revL (he : DE X W e f) : DLs X W (.Subscript e (.Slice none none (some (.UnaryOp .USub (.Constant (.int 1) k p1) p2)) p3) pos) (xRevL f) := by
  refine ⟨pe_imp (pe_revL he.pe) fun σ H Q ⟨O, ρ, r, s⟩ => ⟨O, ρ, r, (SatL.bind s).imp fun u H1 ⟨v, ρ1, r1, e1, st1, s1⟩ => ?_⟩⟩
  try dsimp only at s1
  split at s1
  case h_2 => exact s1.elim
  rename_i ds hd
  obtain ⟨p, vs, rfl, t1, a1⟩ := RelE.lst e1 r1 hd
  refine ⟨p, vs, rfl, t1, fun q hq => ?_⟩
  exact s1 q _ (.same (same_upd hq)) hq (.mk' r1 hq (DL.DpAll.reverse a1))
@[simp] theorem kRevT_ap {ds : List D} : kRevT (.tuple ds) = some (.tuple ds.reverse) := (Eq.refl _).trans (Eq.refl _)
def revR (o : Option D) (ρ1 : DEnv) : Res Cell := match o with
  | some (.list ds) => .ok (.lst ds.reverse) ρ1
  | _ => .bad
@[simp] theorem revR_ap {ds : List D} {ρ : DEnv} : revR (some (.list ds)) ρ = .ok (.lst ds.reverse) ρ := (Eq.refl _).trans (Eq.refl _)
@[simp] theorem xRevL_ap {ρ : DEnv} : xRevL f ρ = bindR (f ρ) fun a ρ1 => revR (deref ρ1 a) ρ1 := (Eq.refl _).trans (Eq.refl _)
end

/-! ### sorted -/
def isTup1 : D → Bool
  | .tuple (_ :: _) => true
  | _ => false
def notNT : D → Bool
  | .none => false
  | .tuple _ => false
  | _ => true
def sortableB (ds : List D) : Bool := (ds.all fun d => ds.all fun e => PySem.W.alike d e) && (ds.all isTup1 || ds.all notNT) && ds.all fun d => decide (d.depth ≤ 64)
def kSorted : List D → Option (List D)
  | [.list ds] => if sortableB ds = true then some (ds.mergeSort fun a b => !PySem.W.dataLt b a) else none
  | _ => none
section
variable {X : Cx}
theorem each_of {K : Frg} {G : Hp} : ∀ {ws : List V} {ds : List D} {us : List Value}, DpAll K G ws ds → Vals ws us → PySem.W.EachIs (fun (v : Value) (b : V × D) => RelV b.1 v ∧ Dp K G b.1 b.2) us (ws.zip ds)
  | [], _, _, a, r => by cases a; cases r; exact .nil
  | w :: ws, _, _, a, r => by
    cases a with
    | cons a1 a2 =>
      cases r with
      | cons r1 r2 => exact .cons ⟨r1, a1⟩ (each_of a2 r2)
theorem of_each {K : Frg} {G : Hp} : ∀ {bs : List (V × D)} {us : List Value}, PySem.W.EachIs (fun (v : Value) (b : V × D) => RelV b.1 v ∧ Dp K G b.1 b.2) us bs → Vals (bs.map (·.1)) us ∧ DpAll K G (bs.map (·.1)) (bs.map (·.2))
  | [], _, h => by cases h; exact ⟨.nil, .nil⟩
  | b :: bs, _, h => by
    cases h with
    | cons h1 h2 =>
      obtain ⟨a, c⟩ := of_each h2
      exact ⟨.cons h1.1 a, .cons h1.2 c⟩
theorem zip_snd {K : Frg} {G : Hp} : ∀ {ws : List V} {ds : List D}, DpAll K G ws ds → (ws.zip ds).map (·.2) = ds
  | [], _, a => by cases a; rfl
  | w :: ws, _, a => by
    cases a with
    | cons a1 a2 => rw [List.zip_cons_cons, List.map_cons, zip_snd a2]
theorem sortable_of {ds : List D} (h : sortableB ds = true) : PySem.W.AllAlike ds ∧ PySem.W.Sortable ds ∧ ∀ d ∈ ds, d.depth ≤ 64 := by
  simp only [sortableB, Bool.and_eq_true, List.all_eq_true, Bool.or_eq_true, decide_eq_true_eq] at h
  obtain ⟨⟨h1, h2⟩, h3⟩ := h
  refine ⟨fun d hd e he => h1 d hd e he, ?_, h3⟩
  rcases h2 with h2 | h2
  · refine .inl fun d hd => ?_
    have := h2 d hd
    unfold isTup1 at this
    split at this
    · exact ⟨_, _, rfl⟩
    · cases this
  · refine .inr fun d hd => ?_
    have := h2 d hd
    exact ⟨fun z => (by rw [z] at this; cases this), fun xs z => (by rw [z] at this; cases this)⟩
theorem c_sorted (hu : X.A.units + 200 < cLine) : CallR X (.builtin "sorted") (rDnL X.K kSorted) := by
  intro pins s σ H xs us Q I rs ⟨O, σ', ρ, vs, ds, z, r, e, hd, hk, q⟩
  unfold kSorted at hk
  split at hk
  case h_2 => cases hk
  rename_i l
  split at hk
  case isFalse => cases hk
  rename_i hs
  cases hk
  obtain ⟨u, a, rfl, ea, hda⟩ := one_arg r e hd
  obtain ⟨p, ws, rfl, s1, a1⟩ := RelE.lst ea r hda
  obtain ⟨its, rv, hl, hz⟩ := I.list s1
  rw [Vals.ref1 rs]
  obtain ⟨k1, k2, k3⟩ := sortable_of hs
  have hb := zip_snd a1
  have aH := dpAll_mono (Gv_sub (O := O) (σ := σ') (ρ := ρ) (H := H)) _ _ a1
  have E1 := each_of a1 rv
  have E2 : PySem.W.EachIs (fun (v : Value) (b : V × D) => ∃ as, Reads s.heap v b.2 as) its (ws.zip l) := E1.mono fun v b ⟨h1, h2⟩ => Dp.reads I b.2 b.1 v (dp_mono Gv_sub _ _ h2) h1
  have hlen : (ws.zip l).length = l.length := by
    have := congrArg List.length hb
    simpa using this
  have hll := DL.DpAll.length a1
  refine PySem.W.sorted_data (enc := fun b : V × D => b.2) hl.isList E1 E2 (by rw [hb]; exact k1) (by rw [hb]; exact k2) (by rw [hlen, ← hll]; exact hz) (fun b hbm => ?_) fun out ho eo => ?_
  · have : b.2 ∈ l := by rw [← hb]; exact List.mem_map.mpr ⟨b, hbm, rfl⟩
    have := k3 _ this
    omega
  · obtain ⟨v1, v2⟩ := of_each eo
    obtain ⟨ep, he'⟩ := PyProof.Rows.sortedAll_at s.heap its out.toArray
    have hm : ((ws.zip l).mergeSort (PySem.W.dataLe false fun b : V × D => b.2)).map (·.2) = l.mergeSort fun a b => !PySem.W.dataLt b a := by
      rw [List.map_mergeSort (s := fun a b => !PySem.W.dataLt b a) (fun a _ b _ => by rw [PySem.W.dataLe_eq]; rfl), hb]
    rw [hm] at v2
    have hlen2 : (((ws.zip l).mergeSort (PySem.W.dataLe false fun b : V × D => b.2)).map (·.1)).length ≤ sizeLine := by
      rw [List.length_map, List.length_mergeSort, hlen, ← hll]; exact hz
    exact ⟨.ref _, upd H (s.heap.objs.size + 1) (.lst _), I.laid (t' := s.toks) (fun _ _ => PyProof.Rows.sortedAll_old) (Nat.le_succ _) ⟨hlen2, out, ep, v1, he'⟩, rfl, q _ _ (I.hok.fresh (Nat.le_succ _)) v2⟩
theorem alike_int (a b : Int) : PySem.W.alike (.int a) (.int b) = true := by simp [PySem.W.alike]
theorem sortable_ints (ns : List Int) : sortableB (ns.map PyData.int) = true := by
  simp only [sortableB, Bool.and_eq_true, List.all_eq_true, Bool.or_eq_true, decide_eq_true_eq]
  refine ⟨⟨fun d hd e he => ?_, .inr fun d hd => ?_⟩, fun d hd => ?_⟩
  · obtain ⟨a, _, rfl⟩ := List.mem_map.mp hd
    obtain ⟨b, _, rfl⟩ := List.mem_map.mp he
    exact alike_int a b
  · obtain ⟨a, _, rfl⟩ := List.mem_map.mp hd; rfl
  · obtain ⟨a, _, rfl⟩ := List.mem_map.mp hd; exact Nat.zero_le _
@[simp] theorem kSorted_ints {ns : List Int} : kSorted [.list (ns.map PyData.int)] = some ((ns.mergeSort fun a b => decide (a ≤ b)).map PyData.int) := by
  show (if sortableB (ns.map PyData.int) = true then some ((ns.map PyData.int).mergeSort fun a b => !PySem.W.dataLt b a) else none) = _
  rw [if_pos (sortable_ints ns), List.map_mergeSort (s := fun a b => !PySem.W.dataLt b a) (fun a _ b _ => ?_)]
  have := congrFun (congrFun (PySem.W.dataLe_int fun k : Int => k) a) b
  rw [PySem.W.dataLe_eq] at this
  exact this.symm
end
end DL

namespace DL
open L2 PySem PySem.Spec PyProof.Rows

/-! ### range(i, j, c) -/
section
variable {X : Cx} {W : WX} {tg : Expr}
def rgN (i j c : Int) : Nat := (Builtin.Range.rangeSize i j c).toNat
theorem rgN_eq (i j c : Int) (hc : c ≠ 0) : Builtin.Range.rangeSize i j c = (rgN i j c : Nat) := by
  unfold rgN
  have : 0 ≤ Builtin.Range.rangeSize i j c := by
    unfold Builtin.Range.rangeSize
    split
    · rename_i h
      split
      · have := Int.ediv_nonneg (a := j - i - 1) (b := c) (by omega) (by omega); omega
      · omega
    · split
      · have := Int.ediv_nonneg (a := i - j - 1) (b := -c) (by omega) (by omega); omega
      · omega
  omega
def rg3Ok (i j c : Int) : Bool := decide (c ≠ 0 ∧ c.natAbs < 1073741824) && Builtin.Range.small i j c
def iRange3 (g : DEnv → Res (List EV)) : DEnv → Res (List D) := fun ρ => bindR (g ρ) fun vs ρ1 => match vs with
  | [.val (.int i), .val (.int j), .val (.int c)] => if rg3Ok i j c = true then .ok (rangeCD i c (rgN i j c)) ρ1 else .bad
  | _ => .bad
theorem di_range3 {a b c : Expr} {g : DEnv → Res (List EV)} {p pos : Pos} (hm : X.mg "range" = none) (ha : DA X W [a, b, c] g) (hg : Gl X "range" := by rfl) (hs : starEach [a, b, c] X.env = (false, eval a X.env) :: starEach [b, c] X.env := by rfl)
    (hpl : (backTo pos (starEach [b, c] X.env)).any (·.1) = false := by rfl) : DI X W tg (.Call (.Name "range" p) [a, b, c] [] pos) (iRange3 g) := by
  refine ⟨pi_imp (pi_range3 hg hm ha.pa hs hpl) fun σ H R ⟨O, ρ, r, s⟩ => ⟨O, ρ, r, (sat_bindI s).imp fun us H1 ⟨vs, ρ1, r1, e1, st, s1⟩ => ?_⟩⟩
  try dsimp only at s1
  split at s1
  · rename_i i j c
    split at s1
    · rename_i hj
      match us, e1 with
      | [u, v, w], e1 =>
        have q : Dp X.K _ u (.int i) := e1.1
        have q2 : Dp X.K _ v (.int j) := e1.2.1
        have q3 : Dp X.K _ w (.int c) := e1.2.2.1
        cases q; cases q2; cases q3
        simp only [rg3Ok, Bool.and_eq_true, decide_eq_true_eq] at hj
        exact ⟨i, j, c, rgN i j c, rfl, ⟨hj.1.1, hj.1.2, hj.2, rgN_eq i j c hj.1.1⟩, s1 _ H1 .refl r1 src_rangeC⟩
    · exact s1.elim
  · exact s1.elim

/-! ### list(range(..)) -/
def tLRC (ta : TA) : TE := fun σ H Q => ta σ H fun vs H1 => ∃ (i j c : Int) (n : Nat), vs = [.int i, .int j, .int c] ∧ RgC i j c n ∧ n ≤ 2 ^ 24 ∧ ∀ q, H1 q = none → Q (.ref q) (upd H1 q (.lst ((List.range n).map fun (m : Nat) => V.int (i + m * c))))
theorem vals_rgC {a c : Int} {n : Nat} {acc : Array Value} (h : ItemsOf (fun i v => ∃ t, v = .int (a + i * c) t) acc n) : Vals ((List.range n).map fun (m : Nat) => V.int (a + m * c)) acc.toList := by
  have e : acc.toList.length = n := by rw [Array.length_toList]; exact h.1
  rw [← e]
  refine L2.vals_of_get acc.toList _ fun j u hj => ?_
  obtain ⟨t, rfl⟩ := h.2 j u (by rw [← hj, Array.getElem?_toList])
  exact ⟨t, rfl⟩
theorem pe_listRgC {a b c : Expr} {ta : TA} {p p2 pos pos2 : Pos} (hc : X.calm = true) (hg : Gl X "list") (hm : X.mg "list" = none) (hg2 : Gl X "range") (hm2 : X.mg "range" = none) (ha : PA X [a, b, c] ta)
    (hs : starEach [a, b, c] X.env = (false, eval a X.env) :: starEach [b, c] X.env := by rfl) (hpl : (backTo pos2 (starEach [b, c] X.env)).any (·.1) = false := by rfl)
    (na : starEach [.Call (.Name "range" p2) [a, b, c] [] pos2] X.env = (false, eval (.Call (.Name "range" p2) [a, b, c] [] pos2) X.env) :: starEach [] X.env := by rfl) :
    PE X (.Call (.Name "list" p) [.Call (.Name "range" p2) [a, b, c] [] pos2] [] pos) (tLRC ta) := by
  refine ⟨fun pins s σ H Q I h => ?_⟩
  refine Call_ (ld_blt I hg hm boot_list (PyProof.Rows.callWith_type1 (args_cons ?_ na) na))
  refine Call_ (ld_blt I hg2 hm2 boot_range (PyProof.Rows.callWith_type1 (thn (ha.run pos2 pins s σ H _ I h) fun us s1 ⟨vs, H1, I1, r1, q1⟩ => ?_) hs hpl))
  obtain ⟨i, j, k, n, e, ⟨c0, c1, c2, c3⟩, hn, q⟩ := q1
  subst e
  cases r1 with
  | cons r rr =>
    cases rr with
    | cons r' rr =>
      cases rr with
      | cons r'' rr =>
        cases rr
        obtain ⟨t, rfl⟩ := r
        obtain ⟨t', rfl⟩ := r'
        obtain ⟨t'', rfl⟩ := r''
        refine call_range_3 c0 ?_ (.inl (PyProof.noPylong_small c1))
        have I2 : Inv X pins σ H1 { s1 with heap := s1.heap.push { cls := .type "range", data := .fields #[.int i t, .int j t', .int k t''] } } := I1.kept (t' := s1.toks) fun b o e => Heap.get?_push_of_some _ e
        refine args_nil ?_
        refine call_list_range (n := n) (I2.ok.hd hc) (IsRange.new ..) c2 c3 hn fun h' tk acc c' hk e' hi => ?_
        refine ⟨.ref _, upd H1 _ (.lst ((List.range n).map fun (m : Nat) => V.int (i + m * k))), I2.laid hk (Nat.le_refl _) (show ObjOk X.prog X.w _ _ _ (.lst _) from ⟨?_, acc.toList, c', vals_rgC hi, ?_⟩), rfl, q _ (I2.hok.fresh (Nat.le_refl _))⟩
        · rw [List.length_map, List.length_range, sizeLine_eq]; omega
        · rw [Array.toArray_toList]; exact e'
def xLRg3 (g : DEnv → Res (List EV)) : DEnv → Res Cell := fun ρ => bindR (g ρ) fun vs ρ1 => match vs with
  | [.val (.int i), .val (.int j), .val (.int c)] => if rg3Ok i j c = true ∧ rgN i j c ≤ 16777216 then .ok (.lst (rangeCD i c (rgN i j c))) ρ1 else .bad
  | _ => .bad
def xLRg1 (f : DX) : DEnv → Res Cell := fun ρ => bindR (f ρ) fun v ρ1 => match deref ρ1 v with
  | some (.int j) => if -(2 ^ 62) ≤ j ∧ j ≤ 16777216 then .ok (.lst (rangeD 0 j.toNat)) ρ1 else .bad
  | _ => .bad
theorem dpR {K : Frg} {G : Hp} {i c : Int} {n : Nat} : DpAll K G ((List.range n).map fun (m : Nat) => V.int (i + m * c)) (rangeCD i c n) := by
  have := DL.DpAll.of_ints (K := K) (G := G) ((List.range n).map fun (m : Nat) => i + m * c)
  rw [List.map_map, List.map_map] at this
  exact this
theorem dl_listRg3 {a b c : Expr} {g : DEnv → Res (List EV)} {p p2 pos pos2 : Pos} (hc : X.calm = true) (hm : X.mg "list" = none) (hm2 : X.mg "range" = none) (ha : DA X W [a, b, c] g) (hg : Gl X "list" := by rfl) (hg2 : Gl X "range" := by rfl)
    (hs : starEach [a, b, c] X.env = (false, eval a X.env) :: starEach [b, c] X.env := by rfl) (hpl : (backTo pos2 (starEach [b, c] X.env)).any (·.1) = false := by rfl)
    (na : starEach [.Call (.Name "range" p2) [a, b, c] [] pos2] X.env = (false, eval (.Call (.Name "range" p2) [a, b, c] [] pos2) X.env) :: starEach [] X.env := by rfl) :
    DLs X W (.Call (.Name "list" p) [.Call (.Name "range" p2) [a, b, c] [] pos2] [] pos) (xLRg3 g) := by
  refine ⟨pe_imp (pe_listRgC hc hg hm hg2 hm2 ha.pa hs hpl na) fun σ H Q ⟨O, ρ, r, s⟩ => ⟨O, ρ, r, (SatL.bind s).imp fun us H1 ⟨vs, ρ1, r1, e1, st, s1⟩ => ?_⟩⟩
  try dsimp only at s1
  split at s1
  · rename_i i j c
    split at s1
    case isFalse => exact s1.elim
    rename_i hj
    match us, e1 with
    | [u, v, w], e1 =>
      have q : Dp X.K _ u (.int i) := e1.1
      have q2 : Dp X.K _ v (.int j) := e1.2.1
      have q3 : Dp X.K _ w (.int c) := e1.2.2.1
      cases q; cases q2; cases q3
      obtain ⟨hj, hn⟩ := hj
      simp only [rg3Ok, Bool.and_eq_true, decide_eq_true_eq] at hj
      exact ⟨i, j, c, rgN i j c, rfl, ⟨hj.1.1, hj.1.2, hj.2, rgN_eq i j c hj.1.1⟩, by omega, fun q hq => s1 q _ (.same (same_upd hq)) hq (.mk' r1 hq dpR)⟩
  · exact s1.elim
theorem dpR1 {K : Frg} {G : Hp} {j : Int} : DpAll K G (L2.rgV 0 j) (rangeD 0 j.toNat) := by
  have := DL.DpAll.of_ints (K := K) (G := G) ((List.range j.toNat).map fun (m : Nat) => (0 : Int) + m)
  rw [List.map_map, List.map_map] at this
  unfold L2.rgV rangeD
  rw [show j - 0 = j by omega]
  exact this
theorem dl_listRg1 {a : Expr} {f : DX} {p p2 pos pos2 : Pos} (hc : X.calm = true) (hm : X.mg "list" = none) (hm2 : X.mg "range" = none) (ha : DE X W a f) (hg : Gl X "list" := by rfl) (hg2 : Gl X "range" := by rfl)
    (hs : starEach [a] X.env = (false, eval a X.env) :: starEach [] X.env := by rfl)
    (na : starEach [.Call (.Name "range" p2) [a] [] pos2] X.env = (false, eval (.Call (.Name "range" p2) [a] [] pos2) X.env) :: starEach [] X.env := by rfl) :
    DLs X W (.Call (.Name "list" p) [.Call (.Name "range" p2) [a] [] pos2] [] pos) (xLRg1 f) := by
  refine ⟨pe_imp (L2.pe_listRg hc hg hm (L2.prg_1 hg2 hm2 ha.pe hs) na) fun σ H Q ⟨O, ρ, r, s⟩ => ⟨O, ρ, r, (SatL.bind s).imp fun u H1 ⟨v, ρ1, r1, e1, st, s1⟩ => ?_⟩⟩
  try dsimp only at s1
  split at s1
  case h_2 => exact s1.elim
  rename_i j hd
  split at s1
  case isFalse => exact s1.elim
  rename_i hj
  cases RelE.int e1 r1 hd
  refine ⟨j, rfl, ⟨by decide, by decide, hj.1, by omega, by omega⟩, fun q hq => ?_⟩
  exact s1 q _ (.same (same_upd hq)) hq (.mk' r1 hq dpR1)
def rgR (vs : List EV) (k : Int → Int → Int → Res (List D)) : Res (List D) := match vs with
  | [.val (.int i), .val (.int j), .val (.int c)] => k i j c
  | _ => .bad
def rgC (vs : List EV) (k : Int → Int → Int → Res Cell) : Res Cell := match vs with
  | [.val (.int i), .val (.int j), .val (.int c)] => k i j c
  | _ => .bad
def rgC1 (o : Option D) (k : Int → Res Cell) : Res Cell := match o with
  | some (.int j) => k j
  | _ => .bad
@[simp] theorem rgR_ap {i j c : Int} {k : Int → Int → Int → Res (List D)} : rgR [.val (.int i), .val (.int j), .val (.int c)] k = k i j c := (Eq.refl _).trans (Eq.refl _)
@[simp] theorem rgC_ap {i j c : Int} {k : Int → Int → Int → Res Cell} : rgC [.val (.int i), .val (.int j), .val (.int c)] k = k i j c := (Eq.refl _).trans (Eq.refl _)
@[simp] theorem rgC1_ap {j : Int} {k : Int → Res Cell} : rgC1 (some (.int j)) k = k j := (Eq.refl _).trans (Eq.refl _)
@[simp] theorem iRange3_ap {g : DEnv → Res (List EV)} {ρ : DEnv} : iRange3 g ρ = bindR (g ρ) fun vs ρ1 => rgR vs fun i j c => if rg3Ok i j c = true then .ok (rangeCD i c (rgN i j c)) ρ1 else .bad := by
  unfold iRange3 rgR; rfl
@[simp] theorem xLRg3_ap {g : DEnv → Res (List EV)} {ρ : DEnv} : xLRg3 g ρ = bindR (g ρ) fun vs ρ1 => rgC vs fun i j c => if rg3Ok i j c = true ∧ rgN i j c ≤ 16777216 then .ok (.lst (rangeCD i c (rgN i j c))) ρ1 else .bad := by
  unfold xLRg3 rgC; rfl
@[simp] theorem xLRg1_ap {f : DX} {ρ : DEnv} : xLRg1 f ρ = bindR (f ρ) fun v ρ1 => rgC1 (deref ρ1 v) fun j => if -(2 ^ 62) ≤ j ∧ j ≤ 16777216 then .ok (.lst (rangeD 0 j.toNat)) ρ1 else .bad := by
  unfold xLRg1 rgC1; rfl
/-- small bounds -/
theorem small_of {i j c : Int} (hi : -1000000000 ≤ i) (hi' : i ≤ 1000000000) (hj : -1000000000 ≤ j) (hj' : j ≤ 1000000000) (hc : 0 < c) (hc' : c ≤ 1000000000) : rg3Ok i j c = true := by
  unfold rg3Ok
  have : Builtin.Range.small i j c = true := by
    unfold Builtin.Range.small
    have h1 : Builtin.Range.rangeSize i j c ≤ 4000000000 := by
      unfold Builtin.Range.rangeSize
      rw [if_pos (by omega)]
      split
      · have := Int.ediv_le_self (a := j - i - 1) c (by omega); omega
      · omega
    have h2 := rgN_eq i j c (by omega)
    have hg : c > 0 := hc
    simp only [Builtin.Range.rangeFitsLong, Bool.and_eq_true, Bool.or_eq_true, decide_eq_true_eq, beq_iff_eq, if_pos hg]
    omega
  rw [this, Bool.and_true, decide_eq_true_eq]
  omega
end
/-- a handler's constant, for some classes -/
def hdC (cs : List Str) (d : D) : Exn → Option D := fun y => if y.arg.isSome = true then none else if y.cls ∈ cs then some d else none
theorem hdC_mem {cs : List Str} {d d' : D} {y : Exn} (h : hdC cs d y = some d') : d' = d ∧ y.arg = none ∧ y.cls ∈ cs := by
  unfold hdC at h
  split at h
  · cases h
  · rename_i ha
    split at h
    · rename_i hm
      cases h
      refine ⟨rfl, ?_, hm⟩
      cases q : y.arg with
      | none => rfl
      | some n => rw [q] at ha; exact absurd rfl ha
    · cases h
@[simp] theorem hdC_ap {cs : List Str} {d : D} {x : Str} : hdC cs d ⟨x, none⟩ = if x ∈ cs then some d else none := (Eq.refl _).trans (Eq.refl _)
end DL

namespace DL
open L2 PySem PySem.Spec PyProof.Rows

/-! ### comprehensions whose turns keep the names, stepped by simp -/
section
variable {α : Type} {ow : List Nat} {bind : D → DEnv → Option DEnv} {test : DEnv → Res Bool} {elt : DX} {it : DEnv → Res (List D)} {ρ : DEnv}
def compE (ow : List Nat) (bind : D → DEnv → Option DEnv) (test : DEnv → Res Bool) (elt : DX) (ds : List D) (ρ : DEnv) : Res Cell := compD ow bind test elt ds ρ []
def compO (ow : List Nat) (bind : D → DEnv → Option DEnv) (test : DEnv → Res Bool) (elt : DX) (ds : List D) (ρ : DEnv) : Res Cell := compD ow bind test elt ds ρ []
open Classical in
noncomputable def compX {α : Type} (o : Res Cell) (ρ : DEnv) (h : α → Option (Option D × DEnv)) (xs : List α) : Res Cell :=
  if (∀ x ∈ xs, ∃ z, h x = some (z, ρ)) ∧ xs.length ≤ sizeLine then .ok (.lst (xs.filterMap fun x => (h x).bind (·.1))) ρ else o
@[simp] theorem xComp_ap : xComp it ow bind test elt ρ = bindR (it ρ) fun ds ρ1 => if (ow.all fun i => !isOwn ρ1[i]?) = true then compE ow bind test elt ds ρ1 else .bad := (Eq.refl _).trans (Eq.refl _)
@[simp] theorem compE_map {e : α → D} {xs : List α} : compE ow bind test elt (xs.map e) ρ = compX (compO ow bind test elt (xs.map e) ρ) ρ (fun x => cstep ow bind test elt (e x) ρ) xs := by
  unfold compX
  split
  · rename_i h
    obtain ⟨h1, h2⟩ := h
    have key : ∀ {xs : List α} {acc : List D}, acc.length + xs.length ≤ sizeLine → (∀ x ∈ xs, ∃ z, cstep ow bind test elt (e x) ρ = some (z, ρ)) → compD ow bind test elt (xs.map e) ρ acc = .ok (.lst (acc ++ xs.filterMap fun x => (cstep ow bind test elt (e x) ρ).bind (·.1))) ρ := by
      intro xs
      induction xs with
      | nil => intro acc _ _; simp [compD]
      | cons x xs ih =>
        intro acc hl h
        obtain ⟨z, hz⟩ := h x List.mem_cons_self
        have hz1 : z.toList.length ≤ 1 := by cases z <;> simp
        have e1 : (cstep ow bind test elt (e x) ρ).bind (·.1) = z := by rw [hz]; rfl
        rw [List.map_cons, compD_step hz (by simp at hl ⊢; omega), ih (by simp at hl ⊢; omega) fun y hy => h y (List.mem_cons_of_mem _ hy), List.filterMap_cons, e1]
        cases z <;> simp
    unfold compE
    rw [key (by simpa using h2) h1]; simp
  · rfl
theorem compX_congr {o o' : Res Cell} {ρ ρ' : DEnv} {h h' : α → Option (Option D × DEnv)} {xs xs' : List α} (e0 : o = o') (e1 : ρ = ρ') (e : xs = xs') (hh : ∀ x ∈ xs', h x = h' x) : compX o ρ h xs = compX o' ρ' h' xs' := by
  subst e0 e1 e
  unfold compX
  have e2 : (∀ x ∈ xs, ∃ z, h x = some (z, ρ)) ↔ ∀ x ∈ xs, ∃ z, h' x = some (z, ρ) := ⟨fun q x hx => by rw [← hh x hx]; exact q x hx, fun q x hx => by rw [hh x hx]; exact q x hx⟩
  have e3 : (xs.filterMap fun x => (h x).bind (·.1)) = xs.filterMap fun x => (h' x).bind (·.1) := HT.fm_congr _ fun x hx => by rw [hh x hx]
  by_cases q : (∀ x ∈ xs, ∃ z, h x = some (z, ρ)) ∧ xs.length ≤ sizeLine
  · rw [if_pos q, if_pos ⟨e2.mp q.1, q.2⟩, e3]
  · rw [if_neg q, if_neg fun q' => q ⟨e2.mpr q'.1, q'.2⟩]
@[simp] theorem compX_some {o : Res Cell} {g : α → D} {xs : List α} : compX o ρ (fun x => some (some (g x), ρ)) xs = if xs.length ≤ sizeLine then .ok (.lst (xs.map g)) ρ else o := by
  unfold compX
  have e : (xs.filterMap fun x => (some (some (g x), ρ) : Option (Option D × DEnv)).bind (·.1)) = xs.map g := by
    rw [← List.filterMap_eq_map]; rfl
  rw [e]
  simp
@[simp] theorem compX_filter {o : Res Cell} {p : α → Prop} [DecidablePred p] {g : α → D} {xs : List α} : compX o ρ (fun x => if p x then some (some (g x), ρ) else some (none, ρ)) xs = if xs.length ≤ sizeLine then .ok (.lst ((xs.filter fun x => decide (p x)).map g)) ρ else o := by
  unfold compX
  have e : (xs.filterMap fun x => ((if p x then some (some (g x), ρ) else some (none, ρ)) : Option (Option D × DEnv)).bind (·.1)) = (xs.filter fun x => decide (p x)).map g := by
    induction xs with
    | nil => rfl
    | cons x xs ih =>
      by_cases h : p x <;> simp [h, ih, List.filterMap_cons, List.filter_cons]
  rw [e]
  have h : ∀ x ∈ xs, ∃ z, (if p x then some (some (g x), ρ) else some (none, ρ)) = some (z, ρ) := fun x _ => by by_cases h : p x <;> simp [h]
  by_cases q : xs.length ≤ sizeLine
  · rw [if_pos ⟨h, q⟩, if_pos q]
  · rw [if_neg fun q' => q q'.2, if_neg q]
theorem compX_eq {o : Res Cell} {g : α → Option D} {h : α → Option (Option D × DEnv)} {xs : List α} (hh : ∀ x ∈ xs, h x = some (g x, ρ)) (hl : xs.length ≤ sizeLine) : compX o ρ h xs = .ok (.lst (xs.filterMap g)) ρ := by
  unfold compX
  rw [if_pos ⟨fun x hx => ⟨_, hh x hx⟩, hl⟩]
  rw [HT.fm_congr (g := g) _ fun x hx => by rw [hh x hx]; rfl]
/-! written lists, item by item -/
def compOD (ow : List Nat) (bind : D → DEnv → Option DEnv) (test : DEnv → Res Bool) (elt : DX) (ds : List D) (ρ : DEnv) (acc : List D) : Res Cell := compD ow bind test elt ds ρ acc
def stepO (o : Res Cell) (r : Option (Option D × DEnv)) (k : Option D → DEnv → Res Cell) : Res Cell := match r with
  | some p => k p.1 p.2
  | none => o
@[simp] theorem stepO_some {o : Res Cell} {z : Option D} {k : Option D → DEnv → Res Cell} : stepO o (some (z, ρ)) k = k z ρ := (Eq.refl _).trans (Eq.refl _)
@[simp] theorem stepO_ite {c : Prop} [Decidable c] {o : Res Cell} {a b : Option (Option D × DEnv)} {k : Option D → DEnv → Res Cell} : stepO o (if c then a else b) k = if c then stepO o a k else stepO o b k := by split <;> rfl
@[simp] theorem compD_nil {acc : List D} : compD ow bind test elt [] ρ acc = .ok (.lst acc) ρ := by rw [compD]
@[simp] theorem compD_cons {d : D} {ds acc : List D} : compD ow bind test elt (d :: ds) ρ acc = if acc.length < 16777216 then stepO (compOD ow bind test elt (d :: ds) ρ acc) (cstep ow bind test elt d ρ) fun z ρ' => compD ow bind test elt ds ρ' (acc ++ z.toList) else compOD ow bind test elt (d :: ds) ρ acc := by
  split
  · rename_i hl
    cases h : cstep ow bind test elt d ρ with
    | none => rfl
    | some p => exact compD_step (z := p.1) (ρ' := p.2) h (by rw [sizeLine_eq]; exact hl)
  · rfl
@[simp] theorem compE_nil : compE ow bind test elt [] ρ = .ok (.lst []) ρ := compD_nil
@[simp] theorem compE_cons {d : D} {ds : List D} : compE ow bind test elt (d :: ds) ρ = compD ow bind test elt (d :: ds) ρ [] := rfl
/-- both ways keep the names -/
@[simp] theorem ite_keep {c : Prop} [Decidable c] {a b : D} : (if c then (some (some a, ρ) : Option (Option D × DEnv)) else some (some b, ρ)) = some (some (if c then a else b), ρ) := by split <;> rfl
@[simp] theorem ite_bool {c : Prop} [Decidable c] {a b : Bool} : (if c then PyData.bool a else PyData.bool b) = .bool (if c then a else b) := by split <;> rfl
@[simp] theorem ite_int {c : Prop} [Decidable c] {a b : Int} : (if c then PyData.int a else PyData.int b) = .int (if c then a else b) := by split <;> rfl
@[simp] theorem range_int (n : Nat) : rangeD 0 n = (List.range n).map fun (k : Nat) => PyData.int (k : Int) := by unfold rangeD; simp
def rg1R (vs : List EV) (k : Int → Res (List D)) : Res (List D) := match vs with
  | [.val (.int j)] => k j
  | _ => .bad
def rg2R (vs : List EV) (k : Int → Int → Res (List D)) : Res (List D) := match vs with
  | [.val (.int i), .val (.int j)] => k i j
  | _ => .bad
@[simp] theorem rg1R_ap {j : Int} {k : Int → Res (List D)} : rg1R [.val (.int j)] k = k j := (Eq.refl _).trans (Eq.refl _)
@[simp] theorem rg2R_ap {i j : Int} {k : Int → Int → Res (List D)} : rg2R [.val (.int i), .val (.int j)] k = k i j := (Eq.refl _).trans (Eq.refl _)
@[simp] theorem iRange1_ap {g : DEnv → Res (List EV)} : DL.iRange1 g ρ = bindR (g ρ) fun vs ρ1 => rg1R vs fun j => if -4611686018427387904 ≤ j ∧ j < 4611686018427387904 then .ok (rangeD 0 j.toNat) ρ1 else .bad := by
  unfold DL.iRange1 rg1R; rfl
@[simp] theorem iRange2_ap {g : DEnv → Res (List EV)} : DL.iRange2 g ρ = bindR (g ρ) fun vs ρ1 => rg2R vs fun i j => if -4611686018427387904 ≤ i ∧ i < 4611686018427387904 ∧ -4611686018427387904 ≤ j ∧ j < 4611686018427387904 then .ok (rangeD i (j - i).toNat) ρ1 else .bad := by
  unfold DL.iRange2 rg2R; rfl
theorem rangeD_map {i : Int} {n : Nat} : rangeD i n = (List.range n).map fun (k : Nat) => PyData.int (i + k) := rfl
theorem rangeCD_map {i c : Int} {n : Nat} : rangeCD i c n = (List.range n).map fun (k : Nat) => PyData.int (i + k * c) := rfl
def zipR (ds : List D) (ρ1 : DEnv) : Res (List D) := match ds with
  | [.list ds, .list es] => .ok (zipD ds es) ρ1
  | [.tuple ds, .tuple es] => .ok (zipD ds es) ρ1
  | _ => .bad
@[simp] theorem zipR_l {ds es : List D} : zipR [.list ds, .list es] ρ = .ok (zipD ds es) ρ := (Eq.refl _).trans (Eq.refl _)
@[simp] theorem zipR_t {ds es : List D} : zipR [.tuple ds, .tuple es] ρ = .ok (zipD ds es) ρ := (Eq.refl _).trans (Eq.refl _)
@[simp] theorem iZip_ap {g : DEnv → Res (List EV)} : DL.iZip g ρ = bindR (g ρ) fun vs ρ1 => optR (keeps vs ρ1) fun p => zipR p.1 p.2 := by
  unfold DL.iZip zipR; rfl
@[simp] theorem zipD_maps {β : Type} {f : α → D} {g : β → D} : ∀ {xs : List α} {ys : List β}, zipD (xs.map f) (ys.map g) = (List.zip xs ys).map fun p => PyData.tuple [f p.1, g p.2]
  | [], _ => by simp [zipD]
  | _ :: _, [] => by simp [zipD]
  | x :: xs, y :: ys => by simp [zipD, zipD_maps (xs := xs) (ys := ys)]
@[simp] theorem bCons_ap {b : D → DEnv → Option DEnv} {r : List D → DEnv → Option DEnv} {d : D} {ds : List D} : bCons b r (d :: ds) ρ = (match b d ρ with
  | some ρ1 => r ds ρ1
  | none => none) := by unfold bCons; rfl
/-- a for over a mapped list, by a fold -/
theorem forD_fold {σ : Type} {bind : D → DEnv → Option DEnv} {body : DSt} {e : α → D} (R : σ → DEnv → Prop) (step : σ → α → σ) : ∀ (xs : List α) (s0 : σ) (ρ0 : DEnv), R s0 ρ0 →
    (∀ s x ρ, x ∈ xs → R s ρ → ∃ ρ1 ρ2, bind (e x) ρ = some ρ1 ∧ (body ρ1 = .nx ρ2 ∨ body ρ1 = .ct ρ2) ∧ R (step s x) ρ2) → ∃ ρ', forD bind body (xs.map e) ρ0 = .nx ρ' ∧ R (xs.foldl step s0) ρ'
  | [], s0, ρ0, h0, _ => ⟨ρ0, rfl, h0⟩
  | x :: xs, s0, ρ0, h0, h => by
    obtain ⟨ρ1, ρ2, h1, h2, h3⟩ := h s0 x ρ0 List.mem_cons_self h0
    obtain ⟨ρ', h4, h5⟩ := forD_fold R step xs (step s0 x) ρ2 h3 fun s y ρ hy => h s y ρ (List.mem_cons_of_mem _ hy)
    refine ⟨ρ', ?_, h5⟩
    rw [List.map_cons, forD, h1]
    show (match body ρ1 with
      | .nx ρ2 => forD bind body (xs.map e) ρ2
      | .ct ρ2 => forD bind body (xs.map e) ρ2
      | .bk ρ2 => .nx ρ2
      | .rt v ρ2 => .rt v ρ2
      | .err x ρ2 => .err x ρ2
      | .bad => .bad) = _
    rcases h2 with h2 | h2 <;> rw [h2] <;> exact h4
end
end DL

namespace DL
open L2 PySem PySem.Spec PyProof.Rows

def Bd (v : List Int) : Prop := v.length ≤ 1000 ∧ ∀ n ∈ v, n.natAbs < 2 ^ 64
def dotI (a b : List Int) : Int := (List.zipWith (fun x y => x * y) a b).sum
theorem mulOk_of {a b : Int} (ha : a.natAbs < 2 ^ 64) (hb : b.natAbs < 2 ^ 64) : mulOk a b = true := by
  have l : ∀ n : Nat, n < 2 ^ 64 → n.log2 < 65 := fun n h => by
    by_cases z : n = 0
    · subst z; decide
    · have := (Nat.log2_lt z).mpr h; omega
  have h1 := l _ ha
  have h2 := l _ hb
  unfold mulOk
  exact decide_eq_true (by omega)
theorem get_row {r : List Int} {k : Nat} (h : k < r.length) : atI (r.map PyData.int) (k : Int) = some (.int (r.getD k 0)) := by
  refine DL.atI_nat ?_
  rw [List.getElem?_map, List.getD_eq_getElem?_getD, List.getElem?_eq_getElem h]
  rfl
def minI (v : List Int) : Int := match v with
  | [] => 0
  | n :: ns => ns.foldl min n
theorem kMin_vec {v : List Int} (h : v ≠ []) : kMin [vec v] = some (.int (minI v)) := by
  cases v with
  | nil => exact absurd rfl h
  | cons n ns =>
    show (match intsOf ((n :: ns).map PyData.int) with
      | some (n :: ns) => some (PyData.int (ns.foldl min n))
      | _ => none) = _
    rw [intsOf_map]; rfl
theorem canLay_ints : ∀ v : List Int, PyData.canLayAll0 (v.map PyData.int) = true
  | [] => rfl
  | n :: v => by simp [PyData.canLayAll0, PyData.canLay0, canLay_ints v]
theorem depth_ints : ∀ v : List Int, PyData.depthAll (v.map PyData.int) = 0
  | [] => rfl
  | n :: v => by simp [PyData.depthAll, PyData.depth, depth_ints v]
theorem shaped_vec (v : List Int) : SeqAt.shaped (vec v) = true := by
  simp [SeqAt.shaped, PyData.canLay0, PyData.depth, canLay_ints, depth_ints]
theorem eqv_ints : ∀ a b : List Int, PyData.eqvAll (a.map PyData.int) (b.map PyData.int) = decide (a = b)
  | [], [] => by simp [PyData.eqvAll]
  | [], _ :: _ => by simp [PyData.eqvAll]
  | _ :: _, [] => by simp [PyData.eqvAll]
  | x :: a, y :: b => by simp [PyData.eqvAll, PyData.eqv, eqv_ints a b]; rfl
theorem kEq_vec (a b : List Int) : kEq (vec a) (vec b) = some (decide (a = b)) := by
  have h : kEq (vec a) (vec b) = some (PyData.eqv (vec a) (vec b)) := if_pos ⟨shaped_vec a, shaped_vec b⟩
  rw [h]
  simp [PyData.eqv, eqv_ints]
theorem alike_ints : ∀ a b : List Int, PySem.W.alikeAll (a.map PyData.int) (b.map PyData.int) = true
  | [], b => by cases b <;> simp [PySem.W.alikeAll]
  | _ :: _, [] => by simp [PySem.W.alikeAll]
  | x :: a, y :: b => by simp [PySem.W.alikeAll, PySem.W.alike, alike_ints a b]
theorem range_dot : ∀ (a b : List Int), a.length ≤ b.length → ((List.range a.length).map fun k => a.getD k 0 * b.getD k 0) = List.zipWith (fun x y => x * y) a b := fun a b h => by
  refine List.ext_getElem (by simp; omega) fun i h1 h2 => ?_
  have l1 : i < a.length := by simpa using h1
  have l2 : i < b.length := by omega
  simp [List.getD_eq_getElem?_getD, List.getElem?_eq_getElem l1, List.getElem?_eq_getElem l2]
theorem getD_mem {a : List Int} {k : Nat} (h : k < a.length) : a.getD k 0 ∈ a := by
  rw [List.getD_eq_getElem?_getD, List.getElem?_eq_getElem h]
  exact List.getElem_mem h
theorem nice_ints : ∀ v : List Int, (∀ n ∈ v, n.natAbs < 2 ^ 64) → niceAll (v.map PyData.int) = true
  | [], _ => rfl
  | n :: v, h => by
    have h1 := h n List.mem_cons_self
    have hl : n.natAbs.log2 < 1920 := by
      by_cases z : n.natAbs = 0
      · rw [z]; decide
      · have := (Nat.log2_lt z).mpr h1; omega
    simp only [List.map_cons, niceAll, nice, decide_eq_true hl, nice_ints v fun m hm => h m (List.mem_cons_of_mem _ hm), Bool.and_self]
theorem log_le {n : Nat} (h : n < 2 ^ 64) : n.log2 < 64 := by
  by_cases z : n = 0
  · rw [z]; decide
  · exact (Nat.log2_lt z).mpr h
theorem weight_int {n : Int} (h : n.natAbs < 2 ^ 64) : PyData.weight (.int n) ≤ 64 := by
  have := log_le h
  simp only [PyData.weight]
  split <;> omega
theorem weight_ints : ∀ v : List Int, (∀ n ∈ v, n.natAbs < 2 ^ 64) → PyData.weightAll (v.map PyData.int) ≤ 65 * v.length
  | [], _ => by simp [PyData.weightAll]
  | n :: v, h => by
    have h1 := weight_ints v fun m hm => h m (List.mem_cons_of_mem _ hm)
    have h2 := weight_int (h n List.mem_cons_self)
    simp only [List.map_cons, PyData.weightAll, List.length_cons]; omega
theorem repr_vec {v : List Int} (hl : v.length ≤ 100) (h : ∀ n ∈ v, n.natAbs < 2 ^ 64) : ∃ z, kRepr [vec v] = some (.str z) :=
  ⟨_, kRepr_nice (by simpa [nice] using nice_ints v h) (by simp [PyData.depth, depth_ints]) (by have := weight_ints v h; simp only [PyData.weight]; omega)⟩
theorem repr_int {n : Int} (h : n.natAbs < 2 ^ 64) : ∃ z, kRepr [.int n] = some (.str z) :=
  ⟨_, kRepr_nice (by have := log_le h; have hl : n.natAbs.log2 < 1920 := by omega
                     simp [nice, hl]) (by simp [PyData.depth]) (by have := weight_int h; omega)⟩
theorem nice_vecs : ∀ C : List (List Int), (∀ v ∈ C, ∀ n ∈ v, n.natAbs < 2 ^ 64) → niceAll (C.map vec) = true
  | [], _ => rfl
  | v :: C, h => by
    have := nice_ints v (h v List.mem_cons_self)
    simp [niceAll, nice, this, nice_vecs C fun w hw => h w (List.mem_cons_of_mem _ hw)]
theorem weight_vecs : ∀ C : List (List Int), (∀ v ∈ C, v.length ≤ 10 ∧ ∀ n ∈ v, n.natAbs < 2 ^ 64) → PyData.weightAll (C.map vec) ≤ 700 * C.length
  | [], _ => by simp [PyData.weightAll]
  | v :: C, h => by
    have h1 := weight_vecs C fun w hw => h w (List.mem_cons_of_mem _ hw)
    have h3 := h v List.mem_cons_self
    have h2 := weight_ints v h3.2
    simp only [List.map_cons, PyData.weightAll, PyData.weight, List.length_cons]; omega
theorem depth_vecs : ∀ C : List (List Int), PyData.depthAll (C.map vec) ≤ 1
  | [] => by simp [PyData.depthAll]
  | v :: C => by
    have := depth_vecs C
    simp [PyData.depthAll, PyData.depth, depth_ints]; omega
theorem dot_le2 (A B : Nat) : ∀ (r a : List Int), (∀ n ∈ r, n.natAbs ≤ A) → (∀ n ∈ a, n.natAbs ≤ B) → (dotI r a).natAbs ≤ A * B * r.length
  | [], _, _, _ => by simp [dotI]
  | x :: r, [], _, _ => by simp [dotI]
  | x :: r, y :: a, h, k => by
    have ih := dot_le2 A B r a (fun n hn => h n (List.mem_cons_of_mem _ hn)) fun n hn => k n (List.mem_cons_of_mem _ hn)
    have p : (x * y).natAbs ≤ A * B := by rw [Int.natAbs_mul]; exact Nat.mul_le_mul (h x List.mem_cons_self) (k y List.mem_cons_self)
    have e : dotI (x :: r) (y :: a) = x * y + dotI r a := by simp [dotI]
    rw [e, List.length_cons, Nat.mul_add, Nat.mul_one]
    have := Int.natAbs_add_le (x * y) (dotI r a)
    omega

abbrev zs (xs : List Int) : List D := xs.map PyData.int
theorem divOk_lit {n : Int} (h0 : n ≠ 0) (h : n.natAbs.log2 < 9000) : divOk n = true := decide_eq_true ⟨h0, h⟩
theorem dk1000 : divOk 1000 = true := by decide
theorem dk7 : divOk 7 = true := by decide
theorem dk2 : divOk 2 = true := by decide
theorem divOk_of {b : Int} (h0 : b ≠ 0) (hb : b.natAbs < 2 ^ 64) : divOk b = true := divOk_lit h0 (by have := log_le hb; omega)
theorem mulOk_small {a b : Int} (ha : 0 ≤ a) (ha' : a < 1000000000000000000) (hb : 0 ≤ b) (hb' : b < 1000000000000000000) : mulOk a b = true := mulOk_of (by omega) (by omega)
def maxI (v : List Int) : Int := match v with
  | [] => 0
  | n :: ns => ns.foldl max n
theorem kMin_list {v : List Int} (h : v ≠ []) : kMin [.list (v.map PyData.int)] = some (.int (minI v)) := by
  cases v with
  | nil => exact absurd rfl h
  | cons n ns =>
    show (match intsOf ((n :: ns).map PyData.int) with
      | some (n :: ns) => some (PyData.int (ns.foldl min n))
      | _ => none) = _
    rw [intsOf_map]; rfl
theorem kMax_vec {v : List Int} (h : v ≠ []) : kMax [vec v] = some (.int (maxI v)) := by
  cases v with
  | nil => exact absurd rfl h
  | cons n ns =>
    show (match intsOf ((n :: ns).map PyData.int) with
      | some (n :: ns) => some (PyData.int (ns.foldl max n))
      | _ => none) = _
    rw [intsOf_map]; rfl
theorem kMax_list {v : List Int} (h : v ≠ []) : kMax [.list (v.map PyData.int)] = some (.int (maxI v)) := by
  cases v with
  | nil => exact absurd rfl h
  | cons n ns =>
    show (match intsOf ((n :: ns).map PyData.int) with
      | some (n :: ns) => some (PyData.int (ns.foldl max n))
      | _ => none) = _
    rw [intsOf_map]; rfl
theorem foldl_min_spec : ∀ (ns : List Int) (n : Int), ns.foldl min n ∈ n :: ns ∧ ∀ m ∈ n :: ns, ns.foldl min n ≤ m
  | [], n => ⟨by simp, fun m hm => by simp at hm; subst hm; exact Int.le_refl _⟩
  | k :: ns, n => by
    obtain ⟨h1, h2⟩ := foldl_min_spec ns (min n k)
    rw [List.foldl_cons]
    refine ⟨?_, fun m hm => ?_⟩
    · rcases List.mem_cons.mp h1 with h | h
      · rw [h]
        by_cases q : n ≤ k
        · rw [Int.min_eq_left q]; exact List.mem_cons_self
        · rw [Int.min_eq_right (by omega)]; exact List.mem_cons_of_mem _ List.mem_cons_self
      · exact List.mem_cons_of_mem _ (List.mem_cons_of_mem _ h)
    · have hk := h2 (min n k) List.mem_cons_self
      rcases List.mem_cons.mp hm with h | h
      · subst h; omega
      · rcases List.mem_cons.mp h with h | h
        · subst h; omega
        · exact h2 m (List.mem_cons_of_mem _ h)
theorem minI_spec {v : List Int} (h : v ≠ []) : minI v ∈ v ∧ ∀ m ∈ v, minI v ≤ m := by
  cases v with
  | nil => exact absurd rfl h
  | cons n ns => exact foldl_min_spec ns n
theorem foldl_max_spec : ∀ (ns : List Int) (n : Int), ns.foldl max n ∈ n :: ns ∧ ∀ m ∈ n :: ns, m ≤ ns.foldl max n
  | [], n => ⟨by simp, fun m hm => by simp at hm; subst hm; exact Int.le_refl _⟩
  | k :: ns, n => by
    obtain ⟨h1, h2⟩ := foldl_max_spec ns (max n k)
    rw [List.foldl_cons]
    refine ⟨?_, fun m hm => ?_⟩
    · rcases List.mem_cons.mp h1 with h | h
      · rw [h]
        by_cases q : n ≤ k
        · rw [Int.max_eq_right q]; exact List.mem_cons_of_mem _ List.mem_cons_self
        · rw [Int.max_eq_left (by omega)]; exact List.mem_cons_self
      · exact List.mem_cons_of_mem _ (List.mem_cons_of_mem _ h)
    · have hk := h2 (max n k) List.mem_cons_self
      rcases List.mem_cons.mp hm with h | h
      · subst h; omega
      · rcases List.mem_cons.mp h with h | h
        · subst h; omega
        · exact h2 m (List.mem_cons_of_mem _ h)
theorem maxI_spec {v : List Int} (h : v ≠ []) : maxI v ∈ v ∧ ∀ m ∈ v, m ≤ maxI v := by
  cases v with
  | nil => exact absurd rfl h
  | cons n ns => exact foldl_max_spec ns n
@[simp] theorem atI_natS {α : Type} {ds : List α} {n : Nat} : atI ds (n : Int) = ds[n]? := by
  unfold atI ixN
  by_cases h : n < ds.length
  · have e : (0 : Int) ≤ (n : Int) := Int.natCast_nonneg n
    have e2 : (n : Int) < (ds.length : Int) := by omega
    simp [e, e2]
  · have e : (0 : Int) ≤ (n : Int) := Int.natCast_nonneg n
    have e2 : ¬ (n : Int) < (ds.length : Int) := by omega
    have e3 : ¬ (n : Int) < 0 := by omega
    simp [e, e2]
    omega
theorem atI_int {α : Type} {ds : List α} {i : Int} (h : 0 ≤ i) : atI ds i = ds[i.toNat]? := by
  obtain ⟨n, rfl⟩ := Int.eq_ofNat_of_zero_le h
  exact atI_natS
@[simp] theorem pSome_ap {f : DX} {ρ : DEnv} : pSome f ρ = bindR (f ρ) fun v ρ1 => match deref ρ1 v with
  | some (.int i) => .ok (some i) ρ1
  | _ => .bad := (Eq.refl _).trans (Eq.refl _)
@[simp] theorem xCut_ap {fa : DX} {fl fh : DEnv → Res (Option Int)} {ρ : DEnv} : xCut fa fl fh ρ = bindR (fa ρ) fun a ρ1 => bindR (fl ρ1) fun lo ρ2 => bindR (fh ρ2) fun hi ρ3 => optR (deref ρ3 a) fun d => optR (kCut d lo hi) fun z => .ok (.val z) ρ3 := (Eq.refl _).trans (Eq.refl _)
theorem kCut_tail {ds : List D} : kCut (.tuple ds) (some 1) none = some (.tuple (ds.drop 1)) := by
  show some (PyData.tuple (DL.cutD ds (some 1) none)) = _
  unfold DL.cutD
  cases ds with
  | nil => rfl
  | cons d ds => simp [HT.sIx]
theorem kCut_head {ds : List D} : kCut (.tuple ds) none (some 1) = some (.tuple (ds.take 1)) := by
  show some (PyData.tuple (DL.cutD ds none (some 1))) = _
  unfold DL.cutD
  cases ds with
  | nil => rfl
  | cons d ds => simp [HT.sIx]
/-! ### repr of data with small ints -/
theorem int_text_66 {a : Int} (h : a.natAbs.log2 < 64) : (PyData.shown (.int a)).length ≤ 66 := by
  have e := int_text_length_le (k := 64) (by decide) h
  show (Str.ofString (toString a)).length ≤ 66
  rw [PySem.ofString_length]; omega

mutual
def tiny : D → Bool
  | .none => true
  | .bool _ => true
  | .int i => decide (i.natAbs.log2 < 64)
  | .str x => x.cps.toList.all fun c => decide (c < 16 ^ 8)
  | .list xs => tinyAll xs
  | .tuple xs => tinyAll xs
  | _ => false
def tinyAll : List D → Bool
  | [] => true
  | x :: xs => tiny x && tinyAll xs
end
mutual
theorem tiny_show : ∀ d : D, tiny d = true → d.showable = true ∧ d.hasDict = false ∧ d.leavesShort 66 = true
  | .none, _ => ⟨rfl, rfl, rfl⟩
  | .bool _, _ => ⟨rfl, rfl, rfl⟩
  | .int i, h => by
    have h' : i.natAbs.log2 < 64 := by simpa [tiny] using h
    refine ⟨by simp [PyData.showable]; omega, rfl, ?_⟩
    simp only [PyData.leavesShort, decide_eq_true_eq]
    exact int_text_66 h'
  | .str x, h => ⟨rfl, rfl, by simpa [tiny, PyData.leavesShort] using h⟩
  | .dict _, h => by simp [tiny] at h
  | .list xs, h => by
    obtain ⟨a, b, c⟩ := tinyAll_show xs (by simpa [tiny] using h)
    exact ⟨by simpa [PyData.showable] using a, by simpa [PyData.hasDict] using b, by simpa [PyData.leavesShort] using c⟩
  | .tuple xs, h => by
    obtain ⟨a, b, c⟩ := tinyAll_show xs (by simpa [tiny] using h)
    exact ⟨by simpa [PyData.showable] using a, by simpa [PyData.hasDict] using b, by simpa [PyData.leavesShort] using c⟩
theorem tinyAll_show : ∀ xs : List D, tinyAll xs = true → PyData.showableAll xs = true ∧ PyData.hasDictAll xs = false ∧ PyData.leavesShortAll 66 xs = true
  | [], _ => ⟨rfl, rfl, rfl⟩
  | x :: xs, h => by
    simp only [tinyAll, Bool.and_eq_true] at h
    obtain ⟨a, b, c⟩ := tiny_show x h.1
    obtain ⟨a2, b2, c2⟩ := tinyAll_show xs h.2
    exact ⟨by simp [PyData.showableAll, a, a2], by simp [PyData.hasDictAll, b, b2], by simp [PyData.leavesShortAll, c, c2]⟩
end
theorem kRepr_tiny {d : D} (h : tiny d = true) (hd : d.depth ≤ 64) (hw : d.weight ≤ 240000) : kRepr [d] = some (.str d.shown) := by
  obtain ⟨a, b, c⟩ := tiny_show d h
  have l := PyData.shown_le 66 (by omega) d c
  have l2 : (66 + 2) * d.weight ≤ 68 * 240000 := Nat.mul_le_mul (by omega) hw
  exact if_pos ⟨a, b, hd, by rw [sizeLine_eq]; omega⟩
theorem tiny_int {n : Int} (h : n.natAbs < 2 ^ 64) : tiny (.int n) = true := by
  have := log_le h
  simp only [tiny, decide_eq_true_eq]; omega
theorem tiny_ints : ∀ v : List Int, (∀ n ∈ v, n.natAbs < 2 ^ 64) → tinyAll (v.map PyData.int) = true
  | [], _ => rfl
  | n :: v, h => by
    rw [List.map_cons, tinyAll, tiny_int (h n List.mem_cons_self), tiny_ints v fun m hm => h m (List.mem_cons_of_mem _ hm)]; rfl
end DL

/-! CM: amounts that coins pay, plain. -/
namespace CM

/-- a list without repetitions in a range -/
theorem nodup_len : ∀ (n : Nat) (lo : Int) (l : List Int), l.Nodup → (∀ x ∈ l, lo ≤ x ∧ x < lo + n) → l.length ≤ n
  | 0, lo, l, _, h => by
    cases l with
    | nil => simp
    | cons x l => have := h x List.mem_cons_self; omega
  | n + 1, lo, l, hn, h => by
    by_cases q : lo + n ∈ l
    · have h1 := nodup_len n lo (l.erase (lo + n)) (hn.erase _) fun x hx => by
        have hx' := (hn.mem_erase_iff).mp hx
        have := h x hx'.2
        have := hx'.1
        omega
      rw [List.length_erase_of_mem q] at h1
      omega
    · have := nodup_len n lo l hn fun x hx => by
        have h2 := h x hx
        have : x ≠ lo + n := fun z => q (z ▸ hx)
        omega
      omega

inductive Pay (c : List Int) : Int → Prop
  | zero : Pay c 0
  | add {n x : Int} (h : Pay c n) (hx : x ∈ c) : Pay c (n + x)
theorem Pay.sum {c l : List Int} (h : ∀ x ∈ l, x ∈ c) : Pay c l.sum := by
  induction l with
  | nil => exact .zero
  | cons x l ih =>
    rw [List.sum_cons, Int.add_comm]
    exact .add (ih fun y hy => h y (List.mem_cons_of_mem _ hy)) (h x List.mem_cons_self)
theorem Pay.list {c : List Int} {n : Int} (h : Pay c n) : ∃ l : List Int, (∀ x ∈ l, x ∈ c) ∧ l.sum = n := by
  induction h with
  | zero => exact ⟨[], fun _ h => (by simp at h), rfl⟩
  | add h hx ih =>
    obtain ⟨l, h1, h2⟩ := ih
    refine ⟨_ :: l, fun y hy => ?_, by rw [List.sum_cons, h2, Int.add_comm]⟩
    rcases List.mem_cons.mp hy with h | h
    · subst h; exact hx
    · exact h1 y h
theorem Pay.plus {c : List Int} {n m : Int} (h : Pay c n) (k : Pay c m) : Pay c (n + m) := by
  induction k with
  | zero => simpa using h
  | add k hx ih => rw [← Int.add_assoc]; exact .add ih hx
theorem Pay.nonneg {c : List Int} (hc : ∀ x ∈ c, 1 ≤ x) {n : Int} (h : Pay c n) : 0 ≤ n := by
  induction h with
  | zero => omega
  | add h hx ih => have := hc _ hx; omega
theorem Pay.times {c : List Int} {n : Int} (h : Pay c n) : ∀ k : Nat, Pay c (k * n)
  | 0 => by simp; exact .zero
  | k + 1 => by
    have e : ((k + 1 : Nat) : Int) * n = k * n + n := by rw [Int.natCast_add, Int.add_mul]; simp
    rw [e]; exact (h.times k).plus h
theorem Pay.mono {c d : List Int} (h : ∀ x ∈ c, x ∈ d) {n : Int} (p : Pay c n) : Pay d n := by
  induction p with
  | zero => exact .zero
  | add _ hx ih => exact .add ih (h _ hx)

/-! ### the common divisor -/
def gcdL (c : List Int) : Int := c.foldl (fun g x => ((Int.gcd g x : Nat) : Int)) 0
theorem gcd_fold : ∀ (c : List Int) (g : Int), (c.foldl (fun g x => ((Int.gcd g x : Nat) : Int)) g) ∣ g ∧ ∀ x ∈ c, (c.foldl (fun g x => ((Int.gcd g x : Nat) : Int)) g) ∣ x
  | [], g => ⟨by simp, fun x hx => by simp at hx⟩
  | y :: c, g => by
    obtain ⟨h1, h2⟩ := gcd_fold c ((Int.gcd g y : Nat) : Int)
    rw [List.foldl_cons]
    refine ⟨Int.dvd_trans h1 (Int.gcd_dvd_left ..), fun x hx => ?_⟩
    rcases List.mem_cons.mp hx with h | h
    · subst h; exact Int.dvd_trans h1 (Int.gcd_dvd_right ..)
    · exact h2 x h
theorem gcdL_dvd {c : List Int} {x : Int} (h : x ∈ c) : gcdL c ∣ x := (gcd_fold c 0).2 x h
theorem gcd_nonneg : ∀ (c : List Int) (g : Int), 0 ≤ g → 0 ≤ (c.foldl (fun g x => ((Int.gcd g x : Nat) : Int)) g)
  | [], g, h => h
  | y :: c, g, h => gcd_nonneg c _ (Int.natCast_nonneg _)
theorem gcdL_pos {c : List Int} {x : Int} (h : x ∈ c) (hx : 1 ≤ x) : 1 ≤ gcdL c := by
  have h1 := gcd_nonneg c 0 (by omega)
  have h2 := gcdL_dvd h
  have : gcdL c ≠ 0 := fun z => by rw [z] at h2; have := Int.zero_dvd.mp h2; omega
  unfold gcdL at *
  omega
theorem Pay.dvd {c : List Int} {n : Int} (h : Pay c n) : gcdL c ∣ n := by
  induction h with
  | zero => exact Int.dvd_zero _
  | add _ hx ih => exact Int.dvd_add ih (gcdL_dvd hx)
/-- a set of ints closed under sums and opposites contains common divisors -/
theorem closed_gcd {S : Int → Prop} (h0 : S 0) (ha : ∀ a b, S a → S b → S (a + b)) (hn : ∀ a, S a → S (-a)) : ∀ (m n : Nat), S m → S n → S (Nat.gcd m n : Nat) := by
  have hmul : ∀ (k : Nat) a, S a → S (k * a) := by
    intro k a h
    induction k with
    | zero => simpa using h0
    | succ k ih =>
      have e : ((k + 1 : Nat) : Int) * a = k * a + a := by rw [Int.natCast_add, Int.add_mul]; simp
      rw [e]; exact ha _ _ ih h
  intro m n
  induction m, n using Nat.gcd.induction with
  | H0 n => intro _ h; simpa using h
  | H1 m n hm ih =>
    intro h1 h2
    rw [Nat.gcd_rec]
    refine ih ?_ h1
    have e : ((n % m : Nat) : Int) = n + -(((n / m : Nat) : Int) * m) := by
      have := Nat.mod_add_div n m
      have e2 : ((m * (n / m) : Nat) : Int) = ((n / m : Nat) : Int) * m := by rw [Int.natCast_mul, Int.mul_comm]
      omega
    rw [e]
    exact ha _ _ h2 (hn _ (hmul _ _ h1))
theorem closed_fold {S : Int → Prop} (h0 : S 0) (ha : ∀ a b, S a → S b → S (a + b)) (hn : ∀ a, S a → S (-a)) : ∀ (c : List Int) (g : Int), S g → (∀ x ∈ c, S x) → S (c.foldl (fun g x => ((Int.gcd g x : Nat) : Int)) g)
  | [], g, hg, _ => hg
  | y :: c, g, hg, h => by
    rw [List.foldl_cons]
    refine closed_fold h0 ha hn c _ ?_ fun x hx => h x (List.mem_cons_of_mem _ hx)
    have ab : ∀ a, S a → S (a.natAbs : Int) := fun a h => by
      by_cases q : 0 ≤ a
      · rw [Int.natAbs_of_nonneg q]; exact h
      · have : (a.natAbs : Int) = -a := by omega
        rw [this]; exact hn a h
    exact closed_gcd h0 ha hn _ _ (ab _ hg) (ab _ (h y List.mem_cons_self))
/-- each multiple of the common divisor is, up to multiples of a coin, an amount that is paid -/
theorem reach {c : List Int} {L : Int} (hL : L ∈ c) (h1 : ∀ x ∈ c, 1 ≤ x) {r : Int} (hr : gcdL c ∣ r) : ∃ n, Pay c n ∧ n % L = r % L := by
  have L1 := h1 L hL
  let S : Int → Prop := fun a => ∃ n, Pay c n ∧ n % L = a % L
  have h0 : S 0 := ⟨0, .zero, rfl⟩
  have ha : ∀ a b, S a → S b → S (a + b) := fun a b ⟨n, p, e⟩ ⟨m, q, f⟩ => ⟨n + m, p.plus q, by rw [Int.add_emod, e, f, ← Int.add_emod]⟩
  have hn : ∀ a, S a → S (-a) := fun a ⟨n, p, e⟩ => by
    refine ⟨((L - 1).toNat : Int) * n, p.times _, ?_⟩
    have e1 : ((L - 1).toNat : Int) = L - 1 := by omega
    rw [e1, Int.sub_mul, Int.one_mul]
    have e2 : (L * n - n) % L = (-n) % L := by
      have : L * n - n = -n + L * n := by omega
      rw [this, Int.add_mul_emod_self_left]
    rw [e2]
    have e3 : (-n) % L = (-a) % L := by
      have : (n - a) % L = 0 := by rw [Int.sub_emod, e]; simp
      have d : L ∣ (n - a) := Int.dvd_of_emod_eq_zero this
      obtain ⟨k, hk⟩ := d
      have : -a = -n + L * k := by omega
      rw [this, Int.add_mul_emod_self_left]
    exact e3
  have hc : ∀ x ∈ c, S x := fun x hx => ⟨x, by simpa using Pay.add .zero hx, rfl⟩
  have hg : S (gcdL c) := closed_fold h0 ha hn c 0 h0 hc
  have hmul : ∀ (k : Nat) a, S a → S (k * a) := by
    intro k a h
    induction k with
    | zero => simpa using h0
    | succ k ih =>
      have e : ((k + 1 : Nat) : Int) * a = k * a + a := by rw [Int.natCast_add, Int.add_mul]; simp
      rw [e]; exact ha _ _ ih h
  obtain ⟨k, hk⟩ := hr
  have : S r := by
    rw [hk, Int.mul_comm]
    by_cases q : 0 ≤ k
    · have := hmul k.toNat _ hg
      rwa [show ((k.toNat : Nat) : Int) = k by omega] at this
    · have := hn _ (hmul (-k).toNat _ hg)
      rw [show (((-k).toNat : Nat) : Int) = -k by omega, Int.neg_mul, Int.neg_neg] at this
      exact this
  exact this

/-! ### the least amount of a rest -/
structure Least (c : List Int) (L r v : Int) : Prop where
  pay : Pay c v
  rest : v % L = r
  le : ∀ n, Pay c n → n % L = r → v ≤ n
theorem Least.uniq {c : List Int} {L r v w : Int} (h : Least c L r v) (k : Least c L r w) : v = w := by
  have h1 := h.le w k.pay k.rest
  have h2 := k.le v h.pay h.rest
  omega
theorem least_ex {c : List Int} {L r n : Int} (h1 : ∀ x ∈ c, 1 ≤ x) (h : Pay c n) (hr : n % L = r) : ∃ v, Least c L r v := by
  have key : ∀ (k : Nat) (n : Int), n.toNat ≤ k → Pay c n → n % L = r → ∃ v, Least c L r v := by
    intro k
    induction k with
    | zero =>
      intro n hn p e
      exact ⟨n, p, e, fun m q _ => by have := q.nonneg h1; omega⟩
    | succ k ih =>
      intro n hn p e
      by_cases q : ∃ m, Pay c m ∧ m % L = r ∧ m < n
      · obtain ⟨m, p2, e2, lt⟩ := q
        exact ih m (by have := p2.nonneg h1; omega) p2 e2
      · exact ⟨n, p, e, fun m p2 e2 => by
          by_cases lt : m < n
          · exact absurd ⟨m, p2, e2, lt⟩ q
          · omega⟩
  exact key n.toNat n (Nat.le_refl _) h hr
/-- two equal rests among the first sums -/
theorem two_equal {α : Type} (f : Nat → α) : ∀ n : Nat, ¬ ((List.range n).map f).Nodup → ∃ i j, i < j ∧ j < n ∧ f i = f j
  | 0, h => absurd (by simp) h
  | n + 1, h => by
    by_cases q : ((List.range n).map f).Nodup
    · have : f n ∈ (List.range n).map f := by
        by_cases z : f n ∈ (List.range n).map f
        · exact z
        · refine absurd ?_ h
          rw [List.range_succ, List.map_append, List.nodup_append]
          refine ⟨q, by simp, fun a ha b hb => ?_⟩
          simp at hb
          subst hb
          exact fun e => z (e ▸ ha)
      obtain ⟨i, hi, e⟩ := List.mem_map.mp this
      exact ⟨i, n, List.mem_range.mp hi, by omega, e⟩
    · obtain ⟨i, j, h1, h2, h3⟩ := two_equal f n q
      exact ⟨i, j, h1, by omega, h3⟩
theorem sum_pos {c : List Int} (h1 : ∀ x ∈ c, 1 ≤ x) : (c.length : Int) ≤ c.sum := by
  induction c with
  | nil => simp
  | cons x c ih =>
    have := ih fun y hy => h1 y (List.mem_cons_of_mem _ hy)
    have := h1 x List.mem_cons_self
    rw [List.sum_cons, List.length_cons]; omega
theorem sum_le {c : List Int} {M : Int} (h1 : ∀ x ∈ c, x ≤ M) : c.sum ≤ c.length * M := by
  induction c with
  | nil => simp
  | cons x c ih =>
    have h2 := ih fun y hy => h1 y (List.mem_cons_of_mem _ hy)
    have := h1 x List.mem_cons_self
    have e : ((c.length + 1 : Nat) : Int) * M = c.length * M + M := by rw [Int.natCast_add, Int.add_mul]; simp
    rw [List.sum_cons, List.length_cons, e]; omega
/-- fewer coins than the least one -/
theorem Least.few {c : List Int} {L r v : Int} (h1 : ∀ x ∈ c, 1 ≤ x) (L1 : 1 ≤ L) (h : Least c L r v) : ∃ l : List Int, (∀ x ∈ l, x ∈ c) ∧ l.sum = v ∧ (l.length : Int) < L := by
  obtain ⟨l, hl, e⟩ := h.pay.list
  refine ⟨l, hl, e, ?_⟩
  by_cases q : (l.length : Int) < L
  · exact q
  · exfalso
    let f : Nat → Int := fun i => (l.take i).sum % L
    have nn : ¬ ((List.range (l.length + 1)).map f).Nodup := fun nd => by
      have := nodup_len L.toNat 0 _ nd fun x hx => by
        obtain ⟨i, _, rfl⟩ := List.mem_map.mp hx
        have a1 := Int.emod_nonneg (l.take i).sum (show L ≠ 0 by omega)
        have a2 := Int.emod_lt_of_pos (l.take i).sum (show 0 < L by omega)
        show 0 ≤ (l.take i).sum % L ∧ (l.take i).sum % L < 0 + (L.toNat : Int)
        omega
      rw [List.length_map, List.length_range] at this
      omega
    obtain ⟨i, j, hij, hj, ef⟩ := two_equal f _ nn
    have ef' : (l.take i).sum % L = (l.take j).sum % L := ef
    have e1 : l.sum = (l.take j).sum + (l.drop j).sum := by rw [← List.sum_append, List.take_append_drop]
    have tj : l.take j = l.take i ++ (l.drop i).take (j - i) := by
      rw [← List.take_add]; congr 1; omega
    have e2 : (l.take j).sum = (l.take i).sum + ((l.drop i).take (j - i)).sum := by rw [tj, List.sum_append]
    have sub : ∀ x ∈ l.take i ++ l.drop j, x ∈ c := fun x hx => by
      rcases List.mem_append.mp hx with hx | hx
      · exact hl x (List.mem_of_mem_take hx)
      · exact hl x (List.mem_of_mem_drop hx)
    have p := Pay.sum sub
    have er : (l.take i ++ l.drop j).sum % L = r := by
      rw [List.sum_append, Int.add_emod, ef', ← Int.add_emod, ← e1, e]; exact h.rest
    have le := h.le _ p er
    have pos := sum_pos (c := (l.drop i).take (j - i)) fun x hx => h1 x (hl x (List.mem_of_mem_drop (List.mem_of_mem_take hx)))
    have len : ((l.drop i).take (j - i)).length = j - i := by rw [List.length_take, List.length_drop]; omega
    rw [len] at pos
    rw [List.sum_append] at le
    omega
theorem Least.bound {c : List Int} {L r v M : Int} (h1 : ∀ x ∈ c, 1 ≤ x) (hM : ∀ x ∈ c, x ≤ M) (L1 : 1 ≤ L) (M0 : 0 ≤ M) (h : Least c L r v) : v ≤ (L - 1) * M := by
  obtain ⟨l, hl, e, hlen⟩ := h.few h1 L1
  have := sum_le (c := l) (M := M) fun x hx => hM x (hl x hx)
  have : (l.length : Int) * M ≤ (L - 1) * M := Int.mul_le_mul_of_nonneg_right (by omega) M0
  omega
/-- an amount is paid if it is the least one of its rest, or greater -/
theorem pay_iff {c : List Int} {L r v n : Int} (hL : L ∈ c) (L1 : 1 ≤ L) (h : Least c L r v) (hr : n % L = r) : Pay c n ↔ v ≤ n := by
  refine ⟨fun p => h.le n p hr, fun le => ?_⟩
  have : (n - v) % L = 0 := by rw [Int.sub_emod, hr, h.rest]; simp
  obtain ⟨k, hk⟩ := Int.dvd_of_emod_eq_zero this
  have k0 : 0 ≤ k := by
    by_cases q : 0 ≤ k
    · exact q
    · have : L * k < 0 := Int.mul_neg_of_pos_of_neg (by omega) (by omega)
      omega
  have e : n = v + (k.toNat : Int) * L := by rw [show ((k.toNat : Nat) : Int) = k by omega, Int.mul_comm]; omega
  rw [e]
  exact h.pay.plus (Pay.times (by simpa using Pay.add .zero hL) _)
end CM

/-! CR: the least row, reckoned by a list of waiting amounts, plain. -/
namespace CM

abbrev FW := List (Int × Int) × List Int
def getF (F : List (Int × Int)) (r : Int) : Option Int := (F.find? fun p => decide (p.1 = r)).map (·.2)
def putF (F : List (Int × Int)) (r v : Int) : List (Int × Int) := if (F.any fun p => decide (p.1 = r)) = true then F.map (fun p => if p.1 = r then (p.1, v) else p) else F ++ [(r, v)]
theorem getF_nil (r : Int) : getF [] r = none := rfl
theorem getF_cons (p : Int × Int) (F : List (Int × Int)) (r : Int) : getF (p :: F) r = if p.1 = r then some p.2 else getF F r := by
  unfold getF
  rw [List.find?_cons]
  by_cases h : p.1 = r <;> simp [h]
theorem any_getF : ∀ (F : List (Int × Int)) (r : Int), (F.any fun p => decide (p.1 = r)) = (getF F r).isSome
  | [], r => rfl
  | p :: F, r => by
    rw [List.any_cons, getF_cons, any_getF F r]
    by_cases h : p.1 = r <;> simp [h]
theorem getF_map (F : List (Int × Int)) (r v q : Int) : getF (F.map fun p => if p.1 = r then (p.1, v) else p) q = if q = r then (getF F q).map fun _ => v else getF F q := by
  induction F with
  | nil => simp [getF_nil]
  | cons p F ih =>
    rw [List.map_cons, getF_cons, getF_cons, ih]
    by_cases h : p.1 = r
    · by_cases h2 : r = q
      · subst h2; simp [h]
      · have h3 : ¬ q = r := fun z => h2 z.symm
        simp [h, h2, h3]
    · by_cases h2 : p.1 = q
      · have h3 : ¬ q = r := fun z => h (h2.trans z)
        simp [h, h2, h3]
      · simp [h, h2]
theorem getF_app (F : List (Int × Int)) (r v q : Int) (h : getF F r = none) : getF (F ++ [(r, v)]) q = if q = r then some v else getF F q := by
  induction F with
  | nil =>
    rw [List.nil_append, getF_cons, getF_nil]
    by_cases e : q = r
    · simp [e]
    · have : ¬ r = q := fun z => e z.symm
      simp [e, this]
  | cons p F ih =>
    rw [getF_cons] at h
    split at h
    · cases h
    · rename_i hp
      rw [List.cons_append, getF_cons, getF_cons, ih h]
      by_cases e : q = r
      · have : ¬ p.1 = q := fun z => hp (z.trans e)
        simp [e, hp]
      · simp [e]
theorem getF_put (F : List (Int × Int)) (r v q : Int) : getF (putF F r v) q = if q = r then some v else getF F q := by
  unfold putF
  split
  · rename_i h
    rw [any_getF] at h
    rw [getF_map]
    by_cases e : q = r
    · subst e
      obtain ⟨z, hz⟩ := Option.isSome_iff_exists.mp h
      simp [hz]
    · simp [e]
  · rename_i h
    rw [any_getF] at h
    refine getF_app F r v q ?_
    cases z : getF F r with
    | none => rfl
    | some u => rw [z] at h; simp at h
theorem mem_getF {F : List (Int × Int)} (hn : (F.map (·.1)).Nodup) {p : Int × Int} (hp : p ∈ F) : getF F p.1 = some p.2 := by
  induction F with
  | nil => simp at hp
  | cons q F ih =>
    rw [List.map_cons, List.nodup_cons] at hn
    rw [getF_cons]
    rcases List.mem_cons.mp hp with h | h
    · subst h; simp
    · have : q.1 ≠ p.1 := fun z => hn.1 (by rw [z]; exact List.mem_map.mpr ⟨p, h, rfl⟩)
      rw [if_neg this]; exact ih hn.2 h
theorem getF_mem {F : List (Int × Int)} {r v : Int} (h : getF F r = some v) : (r, v) ∈ F := by
  induction F with
  | nil => cases h
  | cons q F ih =>
    rw [getF_cons] at h
    split at h
    · rename_i e
      cases h
      subst e
      exact List.mem_cons_self
    · exact List.mem_cons_of_mem _ (ih h)
theorem keys_map (F : List (Int × Int)) (r v : Int) : (F.map fun p => if p.1 = r then (p.1, v) else p).map (·.1) = F.map (·.1) := by
  rw [List.map_map]
  refine List.map_congr_left fun p _ => ?_
  show (if p.1 = r then (p.1, v) else p).1 = p.1
  split <;> rfl
theorem nodup_put {F : List (Int × Int)} (r v : Int) (hn : (F.map (·.1)).Nodup) : ((putF F r v).map (·.1)).Nodup := by
  unfold putF
  split
  · rw [keys_map]; exact hn
  · rename_i h
    rw [List.map_append, List.nodup_append]
    refine ⟨hn, by simp, fun a ha b hb => ?_⟩
    simp at hb
    subst hb
    rintro rfl
    apply h
    obtain ⟨p, hp, e⟩ := List.mem_map.mp ha
    exact List.any_eq_true.mpr ⟨p, hp, by simpa using e⟩
theorem len_put (F : List (Int × Int)) (r v : Int) : (putF F r v).length = if (getF F r).isSome = true then F.length else F.length + 1 := by
  unfold putF
  rw [any_getF]
  split <;> simp
def sumF (F : List (Int × Int)) : Nat := (F.map fun p => p.2.toNat).sum
theorem sum_map_lt {F : List (Int × Int)} {r v u : Int} (hn : (F.map (·.1)).Nodup) (h : getF F r = some u) (h0 : 0 ≤ v) (hl : v < u) : sumF (F.map fun p => if p.1 = r then (p.1, v) else p) < sumF F := by
  induction F with
  | nil => cases h
  | cons q F ih =>
    rw [List.map_cons, List.nodup_cons] at hn
    rw [getF_cons] at h
    unfold sumF at ih ⊢
    split at h
    · rename_i e
      cases h
      have same : (F.map fun p => if p.1 = r then (p.1, v) else p) = F := by
        refine (List.map_congr_left fun p hp => ?_).trans (List.map_id F)
        have : p.1 ≠ r := fun z => hn.1 (by rw [e, ← z]; exact List.mem_map.mpr ⟨p, hp, rfl⟩)
        rw [if_neg this]; rfl
      rw [List.map_cons, same, List.map_cons, List.map_cons, List.sum_cons, List.sum_cons, if_pos e]
      show v.toNat + _ < _
      omega
    · rename_i e
      have := ih hn.2 h
      rw [List.map_cons, List.map_cons, List.map_cons, List.sum_cons, List.sum_cons, if_neg e]
      omega

/-- a coin's turn -/
def stepC (L a : Int) (s : FW) (x : Int) : FW := if (getF s.1 ((a + x) % L)).all (fun v => decide (a + x < v)) = true then (putF s.1 ((a + x) % L) (a + x), s.2 ++ [a + x]) else s
def turnC (c : List Int) (L a : Int) (s : FW) : FW := c.foldl (stepC L a) (s.1, s.2.erase a)

/-- what holds between the coins of a turn -/
structure InvI (c : List Int) (L a : Int) (pre : List Int) (F0 : List (Int × Int)) (W0 : List Int) (s : FW) : Prop where
  k : ∀ r v, getF s.1 r = some v → 0 ≤ v ∧ v % L = r ∧ Pay c v
  k0 : getF s.1 0 = some 0
  kn : (s.1.map (·.1)).Nodup
  w1 : s.2.Nodup
  w2 : ∀ w ∈ s.2, a ≤ w ∧ w ≤ a + 200 ∧ ∃ v, getF s.1 (w % L) = some v ∧ v ≤ w
  w5 : ∀ w ∈ s.2, Pay c w
  cl : ∀ r v, getF s.1 r = some v → v ∈ s.2 ∨ (v = a ∧ ∀ x ∈ pre, ∃ u, getF s.1 ((v + x) % L) = some u ∧ u ≤ v + x) ∨ ∀ x ∈ c, ∃ u, getF s.1 ((v + x) % L) = some u ∧ u ≤ v + x
  ms : (s.1 = F0 ∧ s.2 = W0) ∨ F0.length < s.1.length ∨ (F0.length = s.1.length ∧ sumF s.1 < sumF F0)
/-- what holds between turns -/
structure InvO (c : List Int) (L : Int) (s : FW) : Prop where
  k : ∀ r v, getF s.1 r = some v → 0 ≤ v ∧ v % L = r ∧ Pay c v
  k0 : getF s.1 0 = some 0
  kn : (s.1.map (·.1)).Nodup
  w1 : s.2.Nodup
  w2 : ∀ w ∈ s.2, ∃ v, getF s.1 (w % L) = some v ∧ v ≤ w
  w3 : ∀ w ∈ s.2, ∀ w' ∈ s.2, w ≤ w' + 200
  w5 : ∀ w ∈ s.2, Pay c w
  cl : ∀ r v, getF s.1 r = some v → v ∈ s.2 ∨ ∀ x ∈ c, ∃ u, getF s.1 ((v + x) % L) = some u ∧ u ≤ v + x
section
variable {c : List Int} {L a : Int} {s : FW}
theorem InvO.len (L1 : 1 ≤ L) (h : InvO c L s) : s.1.length ≤ L.toNat ∧ s.2.length ≤ 201 := by
  constructor
  · have := nodup_len L.toNat 0 _ h.kn fun x hx => by
      obtain ⟨p, hp, rfl⟩ := List.mem_map.mp hx
      obtain ⟨_, e, _⟩ := h.k _ _ (mem_getF h.kn hp)
      have a1 := Int.emod_nonneg p.2 (show L ≠ 0 by omega)
      have a2 := Int.emod_lt_of_pos p.2 (show 0 < L by omega)
      omega
    simpa using this
  · cases hs : s.2 with
    | nil => simp
    | cons w ws =>
      -- all lie within 200 of the least one
      rw [← hs]
      have hne : s.2 ≠ [] := by rw [hs]; exact fun z => nomatch z
      obtain ⟨m, hm, hle⟩ : ∃ m ∈ s.2, ∀ w ∈ s.2, m ≤ w := by
        have key : ∀ l : List Int, l ≠ [] → ∃ m ∈ l, ∀ w ∈ l, m ≤ w := by
          intro l
          induction l with
          | nil => intro h; exact absurd rfl h
          | cons x l ih =>
            intro _
            by_cases q : l = []
            · subst q; exact ⟨x, List.mem_cons_self, fun w hw => by simp at hw; omega⟩
            · obtain ⟨m, hm, hle⟩ := ih q
              by_cases z : x ≤ m
              · exact ⟨x, List.mem_cons_self, fun w hw => by rcases List.mem_cons.mp hw with h | h; omega; have := hle w h; omega⟩
              · exact ⟨m, List.mem_cons_of_mem _ hm, fun w hw => by rcases List.mem_cons.mp hw with h | h; omega; exact hle w h⟩
        exact key s.2 hne
      exact nodup_len 201 m s.2 h.w1 fun x hx => by have := hle x hx; have := h.w3 x hx m hm; omega
theorem InvI.start (ha : a ∈ s.2) (hm : ∀ w ∈ s.2, a ≤ w) (h : InvO c L s) : InvI c L a [] s.1 (s.2.erase a) (s.1, s.2.erase a) := by
  refine ⟨h.k, h.k0, h.kn, h.w1.erase _, fun w hw => ?_, fun w hw => ?_, fun r v hv => ?_, .inl ⟨rfl, rfl⟩⟩
  · have hw' := List.mem_of_mem_erase hw
    exact ⟨hm w hw', h.w3 w hw' a ha, h.w2 w hw'⟩
  · exact h.w5 w (List.mem_of_mem_erase hw)
  · rcases h.cl r v hv with h1 | h1
    · by_cases e : v = a
      · exact .inr (.inl ⟨e, fun x hx => by simp at hx⟩)
      · exact .inl ((h.w1.mem_erase_iff).mpr ⟨e, h1⟩)
    · exact .inr (.inr h1)
theorem InvI.step {pre : List Int} {F0 : List (Int × Int)} {W0 : List Int} {x : Int} (L1 : 1 ≤ L) (hx : x ∈ c) (x1 : 1 ≤ x) (x2 : x ≤ 200) (pa : Pay c a) (a0 : 0 ≤ a) (h : InvI c L a pre F0 W0 s) : InvI c L a (pre ++ [x]) F0 W0 (stepC L a s x) := by
  unfold stepC
  split
  · rename_i hc
    have mono : ∀ q u, getF s.1 q = some u → ∃ u', getF (putF s.1 ((a + x) % L) (a + x)) q = some u' ∧ u' ≤ u := fun q u hu => by
      rw [getF_put]
      by_cases e : q = (a + x) % L
      · rw [if_pos e]
        rw [e] at hu
        rw [hu] at hc
        simp at hc
        exact ⟨_, rfl, by omega⟩
      · rw [if_neg e]; exact ⟨u, hu, Int.le_refl _⟩
    have up : ∀ z, (∃ u, getF s.1 (z % L) = some u ∧ u ≤ z) → ∃ u, getF (putF s.1 ((a + x) % L) (a + x)) (z % L) = some u ∧ u ≤ z := fun z ⟨u, h1, h2⟩ => by
      obtain ⟨u', h3, h4⟩ := mono _ _ h1
      exact ⟨u', h3, by omega⟩
    have self : ∃ u, getF (putF s.1 ((a + x) % L) (a + x)) ((a + x) % L) = some u ∧ u ≤ a + x := ⟨a + x, by rw [getF_put, if_pos rfl], Int.le_refl _⟩
    refine ⟨fun r v hv => ?_, ?_, nodup_put _ _ h.kn, ?_, fun w hw => ?_, fun w hw => ?_, fun r v hv => ?_, ?_⟩
    · dsimp only at hv
      rw [getF_put] at hv
      split at hv
      · rename_i e
        cases hv
        exact ⟨by omega, e.symm, pa.add hx⟩
      · exact h.k r v hv
    · dsimp only
      rw [getF_put]
      split
      · rename_i e
        exfalso
        rw [← e, h.k0] at hc
        simp at hc
        omega
      · exact h.k0
    · rw [List.nodup_append]
      refine ⟨h.w1, by simp, fun u hu b hb => ?_⟩
      simp at hb
      subst hb
      rintro rfl
      obtain ⟨_, _, v, hv, hle⟩ := h.w2 _ hu
      rw [hv] at hc
      simp at hc
      omega
    · rcases List.mem_append.mp hw with hw | hw
      · obtain ⟨h1, h2, h3⟩ := h.w2 w hw
        exact ⟨h1, h2, up w h3⟩
      · simp at hw
        subst hw
        exact ⟨by omega, by omega, self⟩
    · rcases List.mem_append.mp hw with hw | hw
      · exact h.w5 w hw
      · simp at hw
        subst hw
        exact pa.add hx
    · dsimp only at hv ⊢
      rw [getF_put] at hv
      split at hv
      · cases hv
        exact .inl (by simp)
      · rcases h.cl r v hv with h1 | ⟨h1, h2⟩ | h1
        · exact .inl (List.mem_append_left _ h1)
        · refine .inr (.inl ⟨h1, fun y hy => ?_⟩)
          rcases List.mem_append.mp hy with hy | hy
          · exact up _ (h2 y hy)
          · simp at hy
            subst hy
            rw [h1]; exact self
        · exact .inr (.inr fun y hy => up _ (h1 y hy))
    · right
      dsimp only
      rw [len_put]
      by_cases q : (getF s.1 ((a + x) % L)).isSome = true
      · rw [if_pos q]
        obtain ⟨u, hu⟩ := Option.isSome_iff_exists.mp q
        rw [hu] at hc
        simp at hc
        have lt := sum_map_lt (v := a + x) h.kn hu (by omega) hc
        have e : putF s.1 ((a + x) % L) (a + x) = s.1.map fun p => if p.1 = (a + x) % L then (p.1, a + x) else p := by
          unfold putF
          rw [any_getF, if_pos q]
        rw [e]
        rcases h.ms with ⟨m1, m2⟩ | m | ⟨m1, m2⟩
        · right; rw [← m1]; exact ⟨rfl, lt⟩
        · left; exact m
        · right; exact ⟨m1, by omega⟩
      · rw [if_neg q]
        rcases h.ms with ⟨m1, m2⟩ | m | ⟨m1, m2⟩
        · left; rw [← m1]; omega
        · left; omega
        · left; omega
  · rename_i hc
    have ex : ∃ u, getF s.1 ((a + x) % L) = some u ∧ u ≤ a + x := by
      cases q : getF s.1 ((a + x) % L) with
      | none => rw [q] at hc; simp at hc
      | some u => rw [q] at hc; simp at hc; exact ⟨u, rfl, hc⟩
    refine ⟨h.k, h.k0, h.kn, h.w1, h.w2, h.w5, fun r v hv => ?_, h.ms⟩
    rcases h.cl r v hv with h1 | ⟨h1, h2⟩ | h1
    · exact .inl h1
    · refine .inr (.inl ⟨h1, fun y hy => ?_⟩)
      rcases List.mem_append.mp hy with hy | hy
      · exact h2 y hy
      · simp at hy
        subst hy
        rw [h1]; exact ex
    · exact .inr (.inr h1)
theorem InvI.fold {F0 : List (Int × Int)} {W0 : List Int} (L1 : 1 ≤ L) (pa : Pay c a) (a0 : 0 ≤ a) (hc : ∀ x ∈ c, 1 ≤ x ∧ x ≤ 200) : ∀ (post pre : List Int) (s : FW), (∀ x ∈ post, x ∈ c) → InvI c L a pre F0 W0 s → InvI c L a (pre ++ post) F0 W0 (post.foldl (stepC L a) s)
  | [], pre, s, _, h => by simpa using h
  | x :: post, pre, s, hp, h => by
    have hx := hp x List.mem_cons_self
    have := InvI.fold L1 pa a0 hc post (pre ++ [x]) (stepC L a s x) (fun y hy => hp y (List.mem_cons_of_mem _ hy)) (h.step L1 hx (hc x hx).1 (hc x hx).2 pa a0)
    rw [List.foldl_cons]
    rwa [List.append_assoc, List.singleton_append] at this
theorem InvI.done {F0 : List (Int × Int)} {W0 : List Int} (h : InvI c L a c F0 W0 s) : InvO c L s := by
  refine ⟨h.k, h.k0, h.kn, h.w1, fun w hw => (h.w2 w hw).2.2, fun w hw w' hw' => ?_, h.w5, fun r v hv => ?_⟩
  · have := h.w2 w hw; have := h.w2 w' hw'; omega
  · rcases h.cl r v hv with h1 | ⟨_, h2⟩ | h1
    · exact .inl h1
    · exact .inr h2
    · exact .inr h1
/-- a turn -/
theorem turn_ok (L1 : 1 ≤ L) (hc : ∀ x ∈ c, 1 ≤ x ∧ x ≤ 200) (ha : a ∈ s.2) (hm : ∀ w ∈ s.2, a ≤ w) (h : InvO c L s) : InvO c L (turnC c L a s) ∧
    (((turnC c L a s).1 = s.1 ∧ (turnC c L a s).2.length + 1 = s.2.length) ∨ s.1.length < (turnC c L a s).1.length ∨ (s.1.length = (turnC c L a s).1.length ∧ sumF (turnC c L a s).1 < sumF s.1)) := by
  have pa := h.w5 a ha
  have a0 := pa.nonneg fun x hx => (hc x hx).1
  have q := InvI.fold L1 pa a0 hc c [] _ (fun x hx => hx) (InvI.start ha hm h)
  rw [List.nil_append] at q
  refine ⟨q.done, ?_⟩
  rcases q.ms with ⟨m1, m2⟩ | m | m
  · left
    refine ⟨m1, ?_⟩
    show (List.foldl (stepC L a) (s.1, s.2.erase a) c).2.length + 1 = _
    rw [m2, List.length_erase_of_mem ha]
    have := List.length_pos_of_mem ha
    omega
  · exact .inr (.inl m)
  · exact .inr (.inr m)
/-- at the end -/
theorem InvO.last (h : InvO c L s) (hw : s.2 = []) : (∀ n, Pay c n → ∃ v, getF s.1 (n % L) = some v ∧ v ≤ n) ∧ ∀ r v, getF s.1 r = some v → Least c L r v := by
  have key : ∀ n, Pay c n → ∃ v, getF s.1 (n % L) = some v ∧ v ≤ n := by
    intro n p
    induction p with
    | zero => exact ⟨0, by rw [Int.zero_emod]; exact h.k0, Int.le_refl _⟩
    | @add n x p hx ih =>
      obtain ⟨v, h1, h2⟩ := ih
      rcases h.cl _ _ h1 with h3 | h3
      · rw [hw] at h3; simp at h3
      · obtain ⟨u, h4, h5⟩ := h3 x hx
        refine ⟨u, ?_, by omega⟩
        have := (h.k _ _ h1).2.1
        rw [Int.add_emod n x, ← this, ← Int.add_emod]
        exact h4
  refine ⟨key, fun r v hv => ?_⟩
  obtain ⟨_, e, p⟩ := h.k r v hv
  refine ⟨p, e, fun n q er => ?_⟩
  obtain ⟨u, h1, h2⟩ := key n q
  rw [er, hv] at h1
  cases h1
  exact h2
theorem InvO.init (c : List Int) (L : Int) : InvO c L ([(0, 0)], [0]) := by
  have g : ∀ r v, getF [(0, 0)] r = some v → r = 0 ∧ v = 0 := fun r v h => by
    rw [getF_cons, getF_nil] at h
    split at h
    · rename_i e
      cases h
      exact ⟨e.symm, rfl⟩
    · cases h
  refine ⟨fun r v h => ?_, rfl, by simp, by simp, fun w hw => ?_, fun w hw w' hw' => ?_, fun w hw => ?_, fun r v h => ?_⟩
  · obtain ⟨rfl, rfl⟩ := g r v h
    exact ⟨Int.le_refl _, Int.zero_emod _, .zero⟩
  · simp at hw
    subst hw
    exact ⟨0, by rw [Int.zero_emod]; rfl, Int.le_refl _⟩
  · simp at hw hw'
    omega
  · simp at hw
    subst hw
    exact .zero
  · obtain ⟨rfl, rfl⟩ := g r v h
    exact .inl (by simp)
end
end CM

namespace K47
open L2 PySem PySem.Spec PyProof.Rows DL
/-! ### the text by places -/
def top (i : Nat) : Stmt := PySem.Challenge.pw_tallyhull_k47_gaps_of_coins.main.body.getD i (.Pass ⟨0, 0, 0, 0⟩)
abbrev s_check_coins : Stmt := top 7
abbrev s_divisor_of : Stmt := top 8
abbrev s_row_of : Stmt := top 9
abbrev s_pays : Stmt := top 10
abbrev s_all_gaps : Stmt := top 11
abbrev s_gaps : Stmt := top 12
abbrev s_gap_count : Stmt := top 13
abbrev s_greatest_gap : Stmt := top 14
abbrev s_last_gaps : Stmt := top 15
abbrev s_is_even_handed : Stmt := top 16
abbrev s_u_law_number : Stmt := top 18
abbrev s_u_law_draws : Stmt := top 19
abbrev s_u_law_next : Stmt := top 20
abbrev s_u_law_pick : Stmt := top 21
abbrev s_u_law_more : Stmt := top 22
abbrev s_u_law_coins : Stmt := top 23
abbrev s_u_law_gcd : Stmt := top 24
abbrev s_u_law_step : Stmt := top 25
abbrev s_u_law_table : Stmt := top 26
abbrev s_u_law_told : Stmt := top 27
abbrev s_u_law_is_even : Stmt := top 28
abbrev s_law : Stmt := top 29
abbrev N_check_coins : List Str := ["coins", "coin"]
abbrev N_divisor_of : List Str := ["coins", "found", "coin"]
abbrev N_row_of : List Str := ["coins", "least", "step", "found", "waiting", "amount", "coin", "other", "rest"]
abbrev N_pays : List Str := ["coins", "row", "amount", "step"]
abbrev N_all_gaps : List Str := ["coins", "found", "entry"]
abbrev N_gaps : List Str := ["coins"]
abbrev N_gap_count : List Str := ["coins", "entry"]
abbrev N_greatest_gap : List Str := ["coins", "found"]
abbrev N_last_gaps : List Str := ["coins", "row", "gap", "coin"]
abbrev N_is_even_handed : List Str := ["coins"]
abbrev N_u_law_number : List Str := ["cell"]
abbrev N_u_law_draws : List Str := ["script", "draws", "cell", "rest", "k", "once", "twice"]
abbrev N_u_law_next : List Str := ["draws"]
abbrev N_u_law_pick : List Str := ["draws", "some"]
abbrev N_u_law_more : List Str := ["draws", "many", "seed", "more", "k"]
abbrev N_u_law_coins : List Str := ["draws", "most", "k"]
abbrev N_u_law_gcd : List Str := ["one", "other", "turn"]
abbrev N_u_law_step : List Str := ["coins", "step", "coin"]
abbrev N_u_law_table : List Str := ["coins", "most", "table", "amount", "coin"]
abbrev N_u_law_told : List Str := ["which", "coins"]
abbrev N_u_law_is_even : List Str := ["table", "step", "greatest", "amount"]
abbrev N_law : List Str := ["script", "draws", "turn", "coins", "step", "table", "due", "greatest", "last", "told", "known", "amount", "gap", "coin", "which", "one"]
/-! ### what the defs compute -/
def b_check_coins : DSt := gIf (xtOr (xtNot (xChain kLe kLe (xC (.int 1)) (xCB kLen (aCons (xVar 0) (aNil))) (xC (.int 6)))) (xtNot (xTr (xCB kAll (aCons (ofL (xComp (iSeq (xVar 0)) [1] (bName 1) (tTrue) (xOfT (xChain kLe kLe (xC (.int 1)) (xVar 1) (xC (.int 200)))))) (aNil)))))) (gRaise "BadNumber") (gNext)
def f_check_coins : Fn := runF N_check_coins.length b_check_coins
def b_divisor_of : DSt := gSeq (gSet 1 (xC (.int 0))) (gSeq (gFor (iSeq (xVar 0)) (bName 2) (gSet 1 (xCB kGcd (aCons (xVar 1) (aCons (xVar 2) (aNil)))))) (gRet (xVar 1)))
def f_divisor_of : Fn := runF N_divisor_of.length b_divisor_of
noncomputable def b_row_of : DSt := gSeq (gSet 1 (xCB kMin (aCons (xVar 0) (aNil)))) (gSeq (gSet 2 (xCall f_divisor_of (aCons (xVar 0) (aNil)))) (gSeq (gSetL 3 (xDOne (xC (.int 0)) (xC (.int 0)))) (gSeq (gSetL 4 (xLst (aCons (xC (.int 0)) (aNil)))) (gSeq (gWhile (xTr (xVar 4)) (gSeq (gSet 5 (xCB kMin (aCons (xVar 4) (aNil)))) (gSeq (gExpr (xRem 4 (xVar 5))) (gFor (iSeq (xVar 0)) (bName 6) (gSeq (gSet 7 (x2 kAdd (xVar 5) (xVar 6))) (gIf (xtOr (xtDIn true 3 (x2 kMod (xVar 7) (xVar 1))) (xt2 kLt (xVar 7) (xDGet 3 (x2 kMod (xVar 7) (xVar 1))))) (gSeq (gDPut 3 (x2 kMod (xVar 7) (xVar 1)) (xVar 7)) (gExpr (xM 4 mAppend (aCons (xVar 7) (aNil))))) (gNext))))))) (gRetL (xComp (iRange3 (aCons (xC (.int 0)) (aCons (xVar 1) (aCons (xVar 2) (aNil))))) [8] (bName 8) (tTrue) (xDGet 3 (xVar 8))))))))
noncomputable def f_row_of : Fn := runF N_row_of.length b_row_of
def b_pays : DSt := gSeq (gSet 3 (xCall f_divisor_of (aCons (xVar 0) (aNil)))) (gRet (xAnd (x2 (kB kGe) (xVar 2) (xC (.int 0))) (xAnd (x2 (kB kEq) (x2 kMod (xVar 2) (xVar 3)) (xC (.int 0))) (x2 (kB kGe) (xVar 2) (x2 kIx (xVar 1) (x2 kDiv (x2 kMod (xVar 2) (xCB kMin (aCons (xVar 0) (aNil)))) (xVar 3)))))))
def f_pays : Fn := runF N_pays.length b_pays
noncomputable def b_all_gaps : DSt := gSeq (gSetL 1 (xLst (aNil))) (gSeq (gFor (iSeq (xCall f_row_of (aCons (xVar 0) (aNil)))) (bName 2) (gExtend 1 (xLRg3 (aCons (x2 kMod (xVar 2) (xCB kMin (aCons (xVar 0) (aNil)))) (aCons (xVar 2) (aCons (xCB kMin (aCons (xVar 0) (aNil))) (aNil))))))) (gRetL (xCBL kSorted (aCons (xVar 1) (aNil)))))
noncomputable def f_all_gaps : Fn := runF N_all_gaps.length b_all_gaps
noncomputable def b_gaps : DSt := gSeq (gExpr (xCall f_check_coins (aCons (xVar 0) (aNil)))) (gRetL (xCallL f_all_gaps (aCons (xVar 0) (aNil))))
noncomputable def f_gaps : Fn := runF N_gaps.length b_gaps
noncomputable def b_gap_count : DSt := gSeq (gExpr (xCall f_check_coins (aCons (xVar 0) (aNil)))) (gRet (xCB kSum (aCons (ofL (xComp (iSeq (xCall f_row_of (aCons (xVar 0) (aNil)))) [1] (bName 1) (tTrue) (x2 kDiv (xVar 1) (xCB kMin (aCons (xVar 0) (aNil)))))) (aNil))))
noncomputable def f_gap_count : Fn := runF N_gap_count.length b_gap_count
noncomputable def b_greatest_gap : DSt := gSeq (gExpr (xCall f_check_coins (aCons (xVar 0) (aNil)))) (gSeq (gSet 1 (x2 kSub (xCB kMax (aCons (xCall f_row_of (aCons (xVar 0) (aNil))) (aNil))) (xCB kMin (aCons (xVar 0) (aNil))))) (gRet (xIf (xt2 kGt (xVar 1) (xC (.int 0))) (xVar 1) (xC .none))))
noncomputable def f_greatest_gap : Fn := runF N_greatest_gap.length b_greatest_gap
noncomputable def b_last_gaps : DSt := gSeq (gExpr (xCall f_check_coins (aCons (xVar 0) (aNil)))) (gSeq (gSet 1 (xCall f_row_of (aCons (xVar 0) (aNil)))) (gRetL (xComp (iSeq (xCall f_all_gaps (aCons (xVar 0) (aNil)))) [2] (bName 2) (xTr (xCB kAll (aCons (ofL (xComp (iSeq (xVar 0)) [3] (bName 3) (tTrue) (xCall f_pays (aCons (xVar 0) (aCons (xVar 1) (aCons (x2 kAdd (xVar 2) (xVar 3)) (aNil))))))) (aNil)))) (xVar 2))))
noncomputable def f_last_gaps : Fn := runF N_last_gaps.length b_last_gaps
noncomputable def b_is_even_handed : DSt := gRet (x2 (kB kEq) (xCB kLen (aCons (xCall f_last_gaps (aCons (xVar 0) (aNil))) (aNil))) (xC (.int 1)))
noncomputable def f_is_even_handed : Fn := runF N_is_even_handed.length b_is_even_handed
def b_u_law_number : DSt := gSeq (gIf (xt2 kLt (xVar 0) (xC (.int 0))) (gRet (x2 kSub (xC (.int 0)) (xVar 0))) (gNext)) (gRet (xVar 0))
def f_u_law_number : Fn := runF N_u_law_number.length b_u_law_number
def b_u_law_draws : DSt := gSeq (gSetL 1 (xLst (aNil))) (gSeq (gFor (iSeq (xVar 0)) (bName 2) (gSeq (gSet 3 (xCall f_u_law_number (aCons (xVar 2) (aNil)))) (gIf (xt2 kGe (xVar 3) (xC (.int 1000000000000000000))) (gFor (iRange1 (aCons (xC (.int 60)) (aNil))) (bName 4) (gSeq (gIf (xt2 kEq (xVar 3) (xC (.int 0))) (gBreak) (gNext)) (gSeq (gExpr (xM 1 mAppend (aCons (x2 kMod (xCB kInt (aCons (xVar 3) (aNil))) (xC (.int 1000))) (aNil)))) (gSet 3 (x2 kDiv (xVar 3) (xC (.int 1000))))))) (gSeq (gSet 5 (x2 kMod (xCB kInt (aCons (x2 kAdd (x2 kMul (xVar 3) (xC (.int 48271))) (xC (.int 11))) (aNil))) (xC (.int 2147483647)))) (gSeq (gSet 6 (x2 kMod (xCB kInt (aCons (x2 kAdd (x2 kMul (xVar 5) (xC (.int 69621))) (xVar 3)) (aNil))) (xC (.int 2147483629)))) (gExtend 1 (xLst (aCons (x2 kMod (xCB kInt (aCons (xVar 3) (aNil))) (xC (.int 1000))) (aCons (x2 kMod (xCB kInt (aCons (xVar 5) (aNil))) (xC (.int 1000))) (aCons (x2 kMod (xCB kInt (aCons (xVar 6) (aNil))) (xC (.int 1000))) (aNil))))))))))) (gSeq (gExpr (xM 1 mReverse aNil)) (gRetOwn 1)))
def f_u_law_draws : Fn := runF N_u_law_draws.length b_u_law_draws
def b_u_law_next : DSt := gSeq (gIf (xTr (xVar 0)) (gRet (xM 0 mPop aNil)) (gNext)) (gRet (xC (.int 0)))
def f_u_law_next : IFn := runI N_u_law_next.length b_u_law_next
def b_u_law_pick : DSt := gRet (x2 kIx (xVar 1) (x2 kMod (xCB kInt (aCons (xCallI f_u_law_next (aCons (xVar 0) (aNil))) (aNil))) (xCB kLen (aCons (xVar 1) (aNil)))))
def f_u_law_pick : IFn := runI N_u_law_pick.length b_u_law_pick
def b_u_law_more : DSt := gSeq (gSet 2 (x2 kAdd (x2 kAdd (x2 kMul (xC (.int 1000)) (xCallI f_u_law_next (aCons (xVar 0) (aNil)))) (xCallI f_u_law_next (aCons (xVar 0) (aNil)))) (xC (.int 1)))) (gSeq (gSetL 3 (xLst (aNil))) (gSeq (gFor (iRange1 (aCons (xVar 1) (aNil))) (bName 4) (gSeq (gSet 2 (x2 kMod (xCB kInt (aCons (x2 kAdd (x2 kMul (xVar 2) (xC (.int 48271))) (xC (.int 12345))) (aNil))) (xC (.int 2147483647)))) (gExpr (xM 3 mAppend (aCons (x2 kMod (xCB kInt (aCons (x2 kDiv (xVar 2) (xC (.int 7))) (aNil))) (xC (.int 1000))) (aNil)))))) (gRetL (x2L kAddL (xVar 3) (xVar 0)))))
def f_u_law_more : IFn := runI N_u_law_more.length b_u_law_more
def b_u_law_coins : DSt := gSeq (gSet 1 (xCallI f_u_law_pick (aCons (xVar 0) (aCons (ofL (xLst (aCons (xC (.int 9)) (aCons (xC (.int 9)) (aCons (xC (.int 15)) (aCons (xC (.int 30)) (aNil))))))) (aNil))))) (gRet (xCB kTuple (aCons (ofL (xComp (iRange1 (aCons (x2 kAdd (xC (.int 1)) (x2 kMod (xCB kInt (aCons (xCallI f_u_law_next (aCons (xVar 0) (aNil))) (aNil))) (xC (.int 6)))) (aNil))) [2] (bName 2) (tTrue) (x2 kAdd (xC (.int 1)) (x2 kMod (xCB kInt (aCons (xCallI f_u_law_next (aCons (xVar 0) (aNil))) (aNil))) (xVar 1))))) (aNil))))
def f_u_law_coins : IFn := runI N_u_law_coins.length b_u_law_coins
def b_u_law_gcd : DSt := gSeq (gFor (iRange1 (aCons (x2 kPow (xC (.int 10)) (xC (.int 6))) (aNil))) (bName 2) (gSeq (gIf (xt2 kEq (xVar 1) (xC (.int 0))) (gBreak) (gNext)) (gPar 0 1 (aCons (xVar 1) (aCons (x2 kMod (xCB kInt (aCons (xVar 0) (aNil))) (xVar 1)) (aNil)))))) (gRet (xVar 0))
def f_u_law_gcd : Fn := runF N_u_law_gcd.length b_u_law_gcd
def b_u_law_step : DSt := gSeq (gSet 1 (xC (.int 0))) (gSeq (gFor (iSeq (xVar 0)) (bName 2) (gSet 1 (xCall f_u_law_gcd (aCons (xVar 2) (aCons (xVar 1) (aNil)))))) (gRet (xVar 1)))
def f_u_law_step : Fn := runF N_u_law_step.length b_u_law_step
def b_u_law_table : DSt := gSeq (gSetL 2 (xLst (aCons (xC (.bool true)) (aNil)))) (gSeq (gFor (iRange2 (aCons (xC (.int 1)) (aCons (x2 kAdd (xVar 1) (xC (.int 1))) (aNil)))) (bName 3) (gExpr (xM 2 mAppend (aCons (xCB kAny (aCons (ofL (xComp (iSeq (xVar 0)) [4] (bName 4) (tTrue) (xAnd (x2 (kB kLe) (xVar 4) (xVar 3)) (x2 kIx (xVar 2) (x2 kSub (xVar 3) (xVar 4)))))) (aNil))) (aNil))))) (gRetOwn 2))
def f_u_law_table : Fn := runF N_u_law_table.length b_u_law_table
def h_u_law_told : Exn → Option D := hdC ["BadNumber"] (.str "!number")
noncomputable def b_u_law_told : DSt := gTry0 (gRet (xSel [f_gaps, f_gap_count, f_greatest_gap, f_last_gaps, f_is_even_handed] (xVar 0) (aCons (xVar 1) (aNil)))) h_u_law_told
noncomputable def f_u_law_told : Fn := runF N_u_law_told.length b_u_law_told
def b_u_law_is_even : DSt := gSeq (gIf (xt2 kIs (xVar 2) (xC .none)) (gRet (xC (.bool false))) (gNext)) (gRet (xCB kAll (aCons (ofL (xComp (iRange3 (aCons (xC (.int 0)) (aCons (x2 kAdd (xVar 2) (xC (.int 1))) (aCons (xVar 1) (aNil))))) [3] (bName 3) (tTrue) (x2 (kB kNe) (x2 kIx (xVar 0) (xVar 3)) (x2 kIx (xVar 0) (x2 kSub (xVar 2) (xVar 3)))))) (aNil))))
def f_u_law_is_even : Fn := runF N_u_law_is_even.length b_u_law_is_even
noncomputable def b_law : DSt := gSeq (gSetL 1 (xCallL f_u_law_draws (aCons (xVar 0) (aNil)))) (gSeq (gSetL 1 (xCallIL f_u_law_more (aCons (xVar 1) (aCons (xC (.int 20)) (aNil))))) (gSeq (gFor (iRange1 (aCons (xC (.int 2)) (aNil))) (bName 2) (gSeq (gSet 3 (xCallI f_u_law_coins (aCons (xVar 1) (aNil)))) (gSeq (gSet 4 (xCall f_u_law_step (aCons (xVar 3) (aNil)))) (gSeq (gSet 5 (xCall f_u_law_table (aCons (xVar 3) (aCons (xC (.int 1100)) (aNil))))) (gSeq (gSetL 6 (xComp (iRange3 (aCons (xVar 4) (aCons (xC (.int 1001)) (aCons (xVar 4) (aNil))))) [11] (bName 11) (xtNot (xTr (x2 kIx (xVar 5) (xVar 11)))) (xVar 11))) (gSeq (gSet 7 (xIf (xTr (xVar 6)) (x2 kIx (xVar 6) (x1 kNeg (xC (.int 1)))) (xC .none))) (gSeq (gSetL 8 (xComp (iSeq (xVar 6)) [12] (bName 12) (xTr (xCB kAll (aCons (ofL (xComp (iSeq (xVar 3)) [13] (bName 13) (tTrue) (x2 kIx (xVar 5) (x2 kAdd (xVar 12) (xVar 13))))) (aNil)))) (xVar 12))) (gSeq (gSetL 9 (xComp (iRange1 (aCons (xC (.int 5)) (aNil))) [14] (bName 14) (tTrue) (xCall f_u_law_told (aCons (xVar 14) (aCons (xVar 3) (aNil)))))) (gIf (xt2 kNe (xCB kRepr (aCons (xVar 9) (aNil))) (xCB kRepr (aCons (ofL (xLst (aCons (xVar 6) (aCons (xCB kLen (aCons (xVar 6) (aNil))) (aCons (xVar 7) (aCons (xVar 8) (aCons (xCall f_u_law_is_even (aCons (xVar 5) (aCons (xVar 4) (aCons (xVar 7) (aNil))))) (aNil)))))))) (aNil)))) (gRet (xC (.bool false))) (gNext)))))))))) (gSeq (gSetL 10 (xComp (iSeq (ofL (xLst (aCons (xTup (aCons (xC (.int 3)) (aCons (xC (.int 5)) (aNil)))) (aCons (xTup (aCons (xC (.int 4)) (aCons (xC (.int 6)) (aNil)))) (aCons (xTup (aCons (xC (.int 3)) (aCons (xC (.int 4)) (aCons (xC (.int 5)) (aNil))))) (aCons (xTup (aCons (xC (.int 1)) (aCons (xC (.int 7)) (aNil)))) (aNil)))))))) [15] (bName 15) (tTrue) (ofL (xComp (iRange1 (aCons (xC (.int 5)) (aNil))) [14] (bName 14) (tTrue) (xCall f_u_law_told (aCons (xVar 14) (aCons (xVar 15) (aNil)))))))) (gSeq (gSet 6 (ofL (xLst (aCons (ofL (xLst (aCons (ofL (xLst (aCons (xC (.int 1)) (aCons (xC (.int 2)) (aCons (xC (.int 4)) (aCons (xC (.int 7)) (aNil))))))) (aCons (xC (.int 4)) (aCons (xC (.int 7)) (aCons (ofL (xLst (aCons (xC (.int 7)) (aNil)))) (aCons (xC (.bool true)) (aNil)))))))) (aCons (ofL (xLst (aCons (ofL (xLst (aCons (xC (.int 2)) (aNil)))) (aCons (xC (.int 1)) (aCons (xC (.int 2)) (aCons (ofL (xLst (aCons (xC (.int 2)) (aNil)))) (aCons (xC (.bool true)) (aNil)))))))) (aCons (ofL (xLst (aCons (ofL (xLst (aCons (xC (.int 1)) (aCons (xC (.int 2)) (aNil))))) (aCons (xC (.int 2)) (aCons (xC (.int 2)) (aCons (ofL (xLst (aCons (xC (.int 1)) (aCons (xC (.int 2)) (aNil))))) (aCons (xC (.bool false)) (aNil)))))))) (aCons (ofL (xLst (aCons (ofL (xLst (aNil))) (aCons (xC (.int 0)) (aCons (xC .none) (aCons (ofL (xLst (aNil))) (aCons (xC (.bool false)) (aNil)))))))) (aNil)))))))) (gSeq (gIf (xt2 kNe (xCB kRepr (aCons (xVar 10) (aNil))) (xCB kRepr (aCons (xVar 6) (aNil)))) (gRet (xC (.bool false))) (gNext)) (gRet (x2 (kB kEq) (ofL (xComp (iRange1 (aCons (xC (.int 5)) (aNil))) [14] (bName 14) (tTrue) (xCall f_u_law_told (aCons (xVar 14) (aCons (xTup (aCons (xC (.int 0)) (aCons (xC (.int 3)) (aNil)))) (aNil)))))) (ofL (xRepL (xLst (aCons (xC (.str "!number")) (aNil))) (xC (.int 5)))))))))))
noncomputable def f_law : Fn := runF N_law.length b_law
/-! ### what the top has made -/
variable {P : Program} {w : World} {K : Frg} {mg : Mg} {base : Heap} {C_BadNumber : Addr}
structure Txt (K : Frg) (mg : Mg) (C_BadNumber : Addr) : Prop where
  b_all : mg "all" = none
  b_any : mg "any" = none
  b_int : mg "int" = none
  b_len : mg "len" = none
  b_list : mg "list" = none
  b_max : mg "max" = none
  b_min : mg "min" = none
  b_range : mg "range" = none
  b_repr : mg "repr" = none
  b_sorted : mg "sorted" = none
  b_sum : mg "sum" = none
  b_tuple : mg "tuple" = none
  i_gcd : mg "gcd" = some (.builtin "math.gcd")
  c_MOST_COIN : Cst mg "MOST_COIN" 200
  c_MOST_COINS : Cst mg "MOST_COINS" 6
  g_BadNumber : mg "BadNumber" = some (.ref C_BadNumber)
  o_BadNumber : Own K mg "BadNumber" C_BadNumber
  e_BadNumber : ExcC K C_BadNumber
  m_BadNumber_BadNumber : PySem.W.exmOne K (.ref C_BadNumber) (.ref C_BadNumber) = some true
theorem bt_all : bootBuiltins "all" = some (.builtin "all") := by decide +kernel
theorem bt_any : bootBuiltins "any" = some (.builtin "any") := by decide +kernel
theorem bt_int : bootBuiltins "int" = some (.type "int") := by decide +kernel
theorem bt_len : bootBuiltins "len" = some (.builtin "len") := by decide +kernel
theorem bt_list : bootBuiltins "list" = some (.type "list") := by decide +kernel
theorem bt_max : bootBuiltins "max" = some (.builtin "max") := by decide +kernel
theorem bt_min : bootBuiltins "min" = some (.builtin "min") := by decide +kernel
theorem bt_range : bootBuiltins "range" = some (.type "range") := by decide +kernel
theorem bt_repr : bootBuiltins "repr" = some (.builtin "repr") := by decide +kernel
theorem bt_sorted : bootBuiltins "sorted" = some (.builtin "sorted") := by decide +kernel
theorem bt_sum : bootBuiltins "sum" = some (.builtin "sum") := by decide +kernel
theorem bt_tuple : bootBuiltins "tuple" = some (.type "tuple") := by decide +kernel
/-! ### the derivations -/
theorem sc_check_coins : FnScope N_check_coins ["coins"] (defScope s_check_coins) := ⟨rfl, rfl, rfl, by decide +kernel, rfl, by decide +kernel, by decide +kernel⟩
theorem bi_check_coins : BindOk "check_coins" s_check_coins ["coins"] := fun _ _ _ _ _ _ us hl => match us, hl with | [_], _ => rfl
theorem ok_check_coins (T : Txt K mg C_BadNumber) (D : Def K mg "check_coins" s_check_coins)  : FOk P w K mg base "check_coins" 1 ["coins"] (spP K mg 1 f_check_coins) := by
  refine fok_data (k := 0) D sc_check_coins bi_check_coins fun f cdv A outer s H E hr tk po => ?_
  have hu := room_u hr
  have nd : N_check_coins.Nodup := by decide +kernel
  exact dss_one (ds_if (dt_w (dw_or (dt_not (dt_chain (o_le hu) (o_le hu) (de_int) (de_cb c_len T.b_len bt_len (da_cons (dv 0) (da_nil))) (de_cint T.c_MOST_COINS))) (dw_or1 (dt_not (dt_of (de_cb (c_all rfl) T.b_all bt_all (da_cons (de_of (dl_comp (own := [("coin", 1)]) rfl nd (di_seq (dv 0)) (blkOk_by (by first | decide +kernel | exact rfl)) (fun _ _ _ _ _ => dg_name nd) (fun _ _ _ _ _ => dts_nil) (fun _ _ _ _ _ => de_chain (o_le hu) (o_le hu) (de_int) (dv 1) (de_cint T.c_MOST_COIN)))) (da_nil)))))))) (dss_one (ds_raise T.o_BadNumber rfl tk)) (dss_nil))
theorem sc_divisor_of : FnScope N_divisor_of ["coins"] (defScope s_divisor_of) := ⟨rfl, rfl, rfl, by decide +kernel, rfl, by decide +kernel, by decide +kernel⟩
theorem bi_divisor_of : BindOk "divisor_of" s_divisor_of ["coins"] := fun _ _ _ _ _ _ us hl => match us, hl with | [_], _ => rfl
theorem ok_divisor_of (T : Txt K mg C_BadNumber) (D : Def K mg "divisor_of" s_divisor_of)  : FOk P w K mg base "divisor_of" 1 ["coins"] (spP K mg 1 f_divisor_of) := by
  refine fok_data (k := 0) D sc_divisor_of bi_divisor_of fun f cdv A outer s H E hr tk po => ?_
  have hu := room_u hr
  have nd : N_divisor_of.Nodup := by decide +kernel
  exact dss_cons (ds_set (i := 1) (de_int) nd) (dss_cons (ds_for po rfl (di_seq (dv 0)) (dg_name nd) (dss_one (ds_set (i := 1) (de_cbg c_gcd T.i_gcd (da_cons (dv 1) (da_cons (dv 2) (da_nil)))) nd))) (dss_one (ds_ret (dv 1))))
theorem sc_row_of : FnScope N_row_of ["coins"] (defScope s_row_of) := ⟨rfl, rfl, rfl, by decide +kernel, rfl, by decide +kernel, by decide +kernel⟩
theorem bi_row_of : BindOk "row_of" s_row_of ["coins"] := fun _ _ _ _ _ _ us hl => match us, hl with | [_], _ => rfl
theorem ok_row_of (T : Txt K mg C_BadNumber) (D : Def K mg "row_of" s_row_of) (C_divisor_of : FOk P w K mg base "divisor_of" 1 ["coins"] (spP K mg 1 f_divisor_of)) : FOk P w K mg base "row_of" 2 ["coins"] (spP K mg 1 f_row_of) := by
  refine fok_data (k := 1) D sc_row_of bi_row_of fun f cdv A outer s H E hr tk po => ?_
  have hu := room_u hr
  have nd : N_row_of.Nodup := by decide +kernel
  exact dss_cons (ds_set (i := 1) (de_cb (c_min rfl hu) T.b_min bt_min (da_cons (dv 0) (da_nil))) nd) (dss_cons (ds_set (i := 2) (de_call C_divisor_of (hr.mono (by decide)) (fun _ => L2N.passAt tk _) (da_cons (dv 0) (da_nil)) (hlen := (aCons_len aNil_len))) nd) (dss_cons (ds_setL (i := 3) (dl_done (de_int) (de_int)) nd) (dss_cons (ds_setL (i := 4) (dl_lst (da_cons (de_int) (da_nil))) nd) (dss_cons (ds_while po (dt_of (dv 4)) (dss_cons (ds_set (i := 5) (de_cb (c_min rfl hu) T.b_min bt_min (da_cons (dv 4) (da_nil))) nd) (dss_cons (ds_expr (de_rem rfl (pv 4) (dv 5))) (dss_one (ds_for po rfl (di_seq (dv 0)) (dg_name nd) (dss_cons (ds_set (i := 7) (de_bin o_add (dv 5) (dv 6)) nd) (dss_one (ds_if (dt_w (dw_or (dt_dnotin hu (pv 3) (de_bin o_mod (dv 7) (dv 1))) (dw_or1 (dt_cmp (o_lt hu) (dv 7) (de_dget hu (pv 3) (de_bin o_mod (dv 7) (dv 1))))))) (dss_cons (ds_dput hu (pv 3) (de_bin o_mod (dv 7) (dv 1)) (dv 7)) (dss_one (ds_expr (de_m (pv 4) PySem.F.slot_list_append PySem.F.type_list_append m_append (da_cons (dv 7) (da_nil)))))) (dss_nil))))))))) (dss_one (ds_retL (dl_comp (own := [("rest", 8)]) rfl nd (di_range3 T.b_range (da_cons (de_int) (da_cons (dv 1) (da_cons (dv 2) (da_nil))))) (blkOk_by (by first | decide +kernel | exact rfl)) (fun _ _ _ _ _ => dg_name nd) (fun _ _ _ _ _ => dts_nil) (fun _ _ _ _ _ => de_dget hu (pv 3) (dv 8)))))))))
theorem sc_pays : FnScope N_pays ["coins", "row", "amount"] (defScope s_pays) := ⟨rfl, rfl, rfl, by decide +kernel, rfl, by decide +kernel, by decide +kernel⟩
theorem bi_pays : BindOk "pays" s_pays ["coins", "row", "amount"] := fun _ _ _ _ _ _ us hl => match us, hl with | [_, _, _], _ => rfl
theorem ok_pays (T : Txt K mg C_BadNumber) (D : Def K mg "pays" s_pays) (C_divisor_of : FOk P w K mg base "divisor_of" 1 ["coins"] (spP K mg 1 f_divisor_of)) : FOk P w K mg base "pays" 2 ["coins", "row", "amount"] (spP K mg 3 f_pays) := by
  refine fok_data (k := 1) D sc_pays bi_pays fun f cdv A outer s H E hr tk po => ?_
  have hu := room_u hr
  have nd : N_pays.Nodup := by decide +kernel
  exact dss_cons (ds_set (i := 3) (de_call C_divisor_of (hr.mono (by decide)) (fun _ => L2N.passAt tk _) (da_cons (dv 0) (da_nil)) (hlen := (aCons_len aNil_len))) nd) (dss_one (ds_ret (de_and (de_cmp (o_ge hu) (dv 2) (de_int)) (de_and (de_cmp (o_eq hu) (de_bin o_mod (dv 2) (dv 3)) (de_int)) (de_one (de_cmp (o_ge hu) (dv 2) (de_ix i_ix (dv 1) (de_bin o_div (de_bin o_mod (dv 2) (de_cb (c_min rfl hu) T.b_min bt_min (da_cons (dv 0) (da_nil)))) (dv 3)))))))))
theorem sc_all_gaps : FnScope N_all_gaps ["coins"] (defScope s_all_gaps) := ⟨rfl, rfl, rfl, by decide +kernel, rfl, by decide +kernel, by decide +kernel⟩
theorem bi_all_gaps : BindOk "all_gaps" s_all_gaps ["coins"] := fun _ _ _ _ _ _ us hl => match us, hl with | [_], _ => rfl
theorem ok_all_gaps (T : Txt K mg C_BadNumber) (D : Def K mg "all_gaps" s_all_gaps) (C_row_of : FOk P w K mg base "row_of" 2 ["coins"] (spP K mg 1 f_row_of)) : FOk P w K mg base "all_gaps" 3 ["coins"] (spP K mg 1 f_all_gaps) := by
  refine fok_data (k := 2) D sc_all_gaps bi_all_gaps fun f cdv A outer s H E hr tk po => ?_
  have hu := room_u hr
  have nd : N_all_gaps.Nodup := by decide +kernel
  exact dss_cons (ds_setL (i := 1) (dl_lst (da_nil)) nd) (dss_cons (ds_for po rfl (di_seq (de_call C_row_of (hr.mono (by decide)) (fun _ => L2N.passAt tk _) (da_cons (dv 0) (da_nil)) (hlen := (aCons_len aNil_len)))) (dg_name nd) (dss_one (ds_extend (pv 1) (dl_listRg3 rfl T.b_list T.b_range (da_cons (de_bin o_mod (dv 2) (de_cb (c_min rfl hu) T.b_min bt_min (da_cons (dv 0) (da_nil)))) (da_cons (dv 2) (da_cons (de_cb (c_min rfl hu) T.b_min bt_min (da_cons (dv 0) (da_nil))) (da_nil)))))))) (dss_one (ds_retL (dl_cb (c_sorted hu) T.b_sorted bt_sorted (da_cons (dv 1) (da_nil))))))
theorem sc_gaps : FnScope N_gaps ["coins"] (defScope s_gaps) := ⟨rfl, rfl, rfl, by decide +kernel, rfl, by decide +kernel, by decide +kernel⟩
theorem bi_gaps : BindOk "gaps" s_gaps ["coins"] := fun _ _ _ _ _ _ us hl => match us, hl with | [_], _ => rfl
theorem ok_gaps (T : Txt K mg C_BadNumber) (D : Def K mg "gaps" s_gaps) (C_check_coins : FOk P w K mg base "check_coins" 1 ["coins"] (spP K mg 1 f_check_coins)) (C_all_gaps : FOk P w K mg base "all_gaps" 3 ["coins"] (spP K mg 1 f_all_gaps)) : FOk P w K mg base "gaps" 4 ["coins"] (spP K mg 1 f_gaps) := by
  refine fok_data (k := 3) D sc_gaps bi_gaps fun f cdv A outer s H E hr tk po => ?_
  have hu := room_u hr
  have nd : N_gaps.Nodup := by decide +kernel
  exact dss_cons (ds_expr (de_call C_check_coins (hr.mono (by decide)) (fun _ => L2N.passAt tk _) (da_cons (dv 0) (da_nil)) (hlen := (aCons_len aNil_len)))) (dss_one (ds_retL (dl_call C_all_gaps (hr.mono (by decide)) (fun _ => L2N.passAt tk _) (da_cons (dv 0) (da_nil)) (hlen := (aCons_len aNil_len)))))
theorem sc_gap_count : FnScope N_gap_count ["coins"] (defScope s_gap_count) := ⟨rfl, rfl, rfl, by decide +kernel, rfl, by decide +kernel, by decide +kernel⟩
theorem bi_gap_count : BindOk "gap_count" s_gap_count ["coins"] := fun _ _ _ _ _ _ us hl => match us, hl with | [_], _ => rfl
theorem ok_gap_count (T : Txt K mg C_BadNumber) (D : Def K mg "gap_count" s_gap_count) (C_check_coins : FOk P w K mg base "check_coins" 1 ["coins"] (spP K mg 1 f_check_coins)) (C_row_of : FOk P w K mg base "row_of" 2 ["coins"] (spP K mg 1 f_row_of)) : FOk P w K mg base "gap_count" 3 ["coins"] (spP K mg 1 f_gap_count) := by
  refine fok_data (k := 2) D sc_gap_count bi_gap_count fun f cdv A outer s H E hr tk po => ?_
  have hu := room_u hr
  have nd : N_gap_count.Nodup := by decide +kernel
  exact dss_cons (ds_expr (de_call C_check_coins (hr.mono (by decide)) (fun _ => L2N.passAt tk _) (da_cons (dv 0) (da_nil)) (hlen := (aCons_len aNil_len)))) (dss_one (ds_ret (de_cb (c_sum rfl) T.b_sum bt_sum (da_cons (de_of (dl_comp (own := [("entry", 1)]) rfl nd (di_seq (de_call C_row_of (hr.mono (by decide)) (fun _ => L2N.passAt tk _) (da_cons (dv 0) (da_nil)) (hlen := (aCons_len aNil_len)))) (blkOk_by (by first | decide +kernel | exact rfl)) (fun _ _ _ _ _ => dg_name nd) (fun _ _ _ _ _ => dts_nil) (fun _ _ _ _ _ => de_bin o_div (dv 1) (de_cb (c_min rfl hu) T.b_min bt_min (da_cons (dv 0) (da_nil)))))) (da_nil)))))
theorem sc_greatest_gap : FnScope N_greatest_gap ["coins"] (defScope s_greatest_gap) := ⟨rfl, rfl, rfl, by decide +kernel, rfl, by decide +kernel, by decide +kernel⟩
theorem bi_greatest_gap : BindOk "greatest_gap" s_greatest_gap ["coins"] := fun _ _ _ _ _ _ us hl => match us, hl with | [_], _ => rfl
theorem ok_greatest_gap (T : Txt K mg C_BadNumber) (D : Def K mg "greatest_gap" s_greatest_gap) (C_check_coins : FOk P w K mg base "check_coins" 1 ["coins"] (spP K mg 1 f_check_coins)) (C_row_of : FOk P w K mg base "row_of" 2 ["coins"] (spP K mg 1 f_row_of)) : FOk P w K mg base "greatest_gap" 3 ["coins"] (spP K mg 1 f_greatest_gap) := by
  refine fok_data (k := 2) D sc_greatest_gap bi_greatest_gap fun f cdv A outer s H E hr tk po => ?_
  have hu := room_u hr
  have nd : N_greatest_gap.Nodup := by decide +kernel
  exact dss_cons (ds_expr (de_call C_check_coins (hr.mono (by decide)) (fun _ => L2N.passAt tk _) (da_cons (dv 0) (da_nil)) (hlen := (aCons_len aNil_len)))) (dss_cons (ds_set (i := 1) (de_bin o_sub (de_cb (c_max rfl hu) T.b_max bt_max (da_cons (de_call C_row_of (hr.mono (by decide)) (fun _ => L2N.passAt tk _) (da_cons (dv 0) (da_nil)) (hlen := (aCons_len aNil_len))) (da_nil))) (de_cb (c_min rfl hu) T.b_min bt_min (da_cons (dv 0) (da_nil)))) nd) (dss_one (ds_ret (de_if (dt_cmp (o_gt hu) (dv 1) (de_int)) (dv 1) (de_non)))))
theorem sc_last_gaps : FnScope N_last_gaps ["coins"] (defScope s_last_gaps) := ⟨rfl, rfl, rfl, by decide +kernel, rfl, by decide +kernel, by decide +kernel⟩
theorem bi_last_gaps : BindOk "last_gaps" s_last_gaps ["coins"] := fun _ _ _ _ _ _ us hl => match us, hl with | [_], _ => rfl
theorem ok_last_gaps (T : Txt K mg C_BadNumber) (D : Def K mg "last_gaps" s_last_gaps) (C_check_coins : FOk P w K mg base "check_coins" 1 ["coins"] (spP K mg 1 f_check_coins)) (C_row_of : FOk P w K mg base "row_of" 2 ["coins"] (spP K mg 1 f_row_of)) (C_all_gaps : FOk P w K mg base "all_gaps" 3 ["coins"] (spP K mg 1 f_all_gaps)) (C_pays : FOk P w K mg base "pays" 2 ["coins", "row", "amount"] (spP K mg 3 f_pays)) : FOk P w K mg base "last_gaps" 4 ["coins"] (spP K mg 1 f_last_gaps) := by
  refine fok_data (k := 3) D sc_last_gaps bi_last_gaps fun f cdv A outer s H E hr tk po => ?_
  have hu := room_u hr
  have nd : N_last_gaps.Nodup := by decide +kernel
  exact dss_cons (ds_expr (de_call C_check_coins (hr.mono (by decide)) (fun _ => L2N.passAt tk _) (da_cons (dv 0) (da_nil)) (hlen := (aCons_len aNil_len)))) (dss_cons (ds_set (i := 1) (de_call C_row_of (hr.mono (by decide)) (fun _ => L2N.passAt tk _) (da_cons (dv 0) (da_nil)) (hlen := (aCons_len aNil_len))) nd) (dss_one (ds_retL (dl_comp (own := [("gap", 2)]) rfl nd (di_seq (de_call C_all_gaps (hr.mono (by decide)) (fun _ => L2N.passAt tk _) (da_cons (dv 0) (da_nil)) (hlen := (aCons_len aNil_len)))) (blkOk_by (by first | decide +kernel | exact rfl)) (fun _ _ _ _ _ => dg_name nd) (fun _ _ _ _ _ => dts_one (dt_of (de_cb (c_all rfl) T.b_all bt_all (da_cons (de_of (dl_comp (own := [("coin", 3)]) rfl nd (di_seq (dv 0)) (blkOk_by (by first | decide +kernel | exact rfl)) (fun _ _ _ _ _ => dg_name nd) (fun _ _ _ _ _ => dts_nil) (fun _ _ _ _ _ => de_call C_pays (hr.mono (by decide)) (passN) (da_cons (dv 0) (da_cons (dv 1) (da_cons (de_bin o_add (dv 2) (dv 3)) (da_nil)))) (hlen := (aCons_len (aCons_len (aCons_len aNil_len))))))) (da_nil))))) (fun _ _ _ _ _ => dv 2)))))
theorem sc_is_even_handed : FnScope N_is_even_handed ["coins"] (defScope s_is_even_handed) := ⟨rfl, rfl, rfl, by decide +kernel, rfl, by decide +kernel, by decide +kernel⟩
theorem bi_is_even_handed : BindOk "is_even_handed" s_is_even_handed ["coins"] := fun _ _ _ _ _ _ us hl => match us, hl with | [_], _ => rfl
theorem ok_is_even_handed (T : Txt K mg C_BadNumber) (D : Def K mg "is_even_handed" s_is_even_handed) (C_last_gaps : FOk P w K mg base "last_gaps" 4 ["coins"] (spP K mg 1 f_last_gaps)) : FOk P w K mg base "is_even_handed" 5 ["coins"] (spP K mg 1 f_is_even_handed) := by
  refine fok_data (k := 4) D sc_is_even_handed bi_is_even_handed fun f cdv A outer s H E hr tk po => ?_
  have hu := room_u hr
  have nd : N_is_even_handed.Nodup := by decide +kernel
  exact dss_one (ds_ret (de_cmp (o_eq hu) (de_cb c_len T.b_len bt_len (da_cons (de_call C_last_gaps (hr.mono (by decide)) (fun _ => L2N.passAt tk _) (da_cons (dv 0) (da_nil)) (hlen := (aCons_len aNil_len))) (da_nil))) (de_int)))
theorem sc_u_law_number : FnScope N_u_law_number ["cell"] (defScope s_u_law_number) := ⟨rfl, rfl, rfl, by decide +kernel, rfl, by decide +kernel, by decide +kernel⟩
theorem bi_u_law_number : BindOk "_law_number" s_u_law_number ["cell"] := fun _ _ _ _ _ _ us hl => match us, hl with | [_], _ => rfl
theorem ok_u_law_number (T : Txt K mg C_BadNumber) (D : Def K mg "_law_number" s_u_law_number)  : FOk P w K mg base "_law_number" 1 ["cell"] (spP K mg 1 f_u_law_number) := by
  refine fok_data (k := 0) D sc_u_law_number bi_u_law_number fun f cdv A outer s H E hr tk po => ?_
  have hu := room_u hr
  have nd : N_u_law_number.Nodup := by decide +kernel
  exact dss_cons (ds_if (dt_cmp (o_lt hu) (dv 0) (de_int)) (dss_one (ds_ret (de_bin o_sub (de_int) (dv 0)))) (dss_nil)) (dss_one (ds_ret (dv 0)))
theorem sc_u_law_draws : FnScope N_u_law_draws ["script"] (defScope s_u_law_draws) := ⟨rfl, rfl, rfl, by decide +kernel, rfl, by decide +kernel, by decide +kernel⟩
theorem bi_u_law_draws : BindOk "_law_draws" s_u_law_draws ["script"] := fun _ _ _ _ _ _ us hl => match us, hl with | [_], _ => rfl
theorem ok_u_law_draws (T : Txt K mg C_BadNumber) (D : Def K mg "_law_draws" s_u_law_draws) (C_u_law_number : FOk P w K mg base "_law_number" 1 ["cell"] (spP K mg 1 f_u_law_number)) : FOk P w K mg base "_law_draws" 2 ["script"] (spP K mg 1 f_u_law_draws) := by
  refine fok_data (k := 1) D sc_u_law_draws bi_u_law_draws fun f cdv A outer s H E hr tk po => ?_
  have hu := room_u hr
  have nd : N_u_law_draws.Nodup := by decide +kernel
  exact dss_cons (ds_setL (i := 1) (dl_lst (da_nil)) nd) (dss_cons (ds_for po rfl (di_seq (dv 0)) (dg_name nd) (dss_cons (ds_set (i := 3) (de_call C_u_law_number (hr.mono (by decide)) (fun _ => L2N.passAt tk _) (da_cons (dv 2) (da_nil)) (hlen := (aCons_len aNil_len))) nd) (dss_one (ds_if (dt_cmp (o_ge hu) (dv 3) (de_int)) (dss_one (ds_for po rfl (di_range1 T.b_range (da_cons (de_int) (da_nil))) (dg_name nd) (dss_cons (ds_if (dt_cmp (o_eq hu) (dv 3) (de_int)) (dss_one (ds_break)) (dss_nil)) (dss_cons (ds_expr (de_m (pv 1) PySem.F.slot_list_append PySem.F.type_list_append m_append (da_cons (de_bin o_mod (de_ct c_int T.b_int bt_int (da_cons (dv 3) (da_nil))) (de_int)) (da_nil)))) (dss_one (ds_set (i := 3) (de_bin o_div (dv 3) (de_int)) nd)))))) (dss_cons (ds_set (i := 5) (de_bin o_mod (de_ct c_int T.b_int bt_int (da_cons (de_bin o_add (de_bin o_mul (dv 3) (de_int)) (de_int)) (da_nil))) (de_int)) nd) (dss_cons (ds_set (i := 6) (de_bin o_mod (de_ct c_int T.b_int bt_int (da_cons (de_bin o_add (de_bin o_mul (dv 5) (de_int)) (dv 3)) (da_nil))) (de_int)) nd) (dss_one (ds_extend (pv 1) (dl_lst (da_cons (de_bin o_mod (de_ct c_int T.b_int bt_int (da_cons (dv 3) (da_nil))) (de_int)) (da_cons (de_bin o_mod (de_ct c_int T.b_int bt_int (da_cons (dv 5) (da_nil))) (de_int)) (da_cons (de_bin o_mod (de_ct c_int T.b_int bt_int (da_cons (dv 6) (da_nil))) (de_int)) (da_nil))))))))))))) (dss_cons (ds_expr (de_m0 (pv 1) PySem.F.slot_list_reverse PySem.F.type_list_reverse m_reverse)) (dss_one (ds_retOwn (pv 1)))))
theorem sc_u_law_next : FnScope N_u_law_next ["draws"] (defScope s_u_law_next) := ⟨rfl, rfl, rfl, by decide +kernel, rfl, by decide +kernel, by decide +kernel⟩
theorem bi_u_law_next : BindOk "_law_next" s_u_law_next ["draws"] := fun _ _ _ _ _ _ us hl => match us, hl with | [_], _ => rfl
theorem ok_u_law_next (T : Txt K mg C_BadNumber) (D : Def K mg "_law_next" s_u_law_next)  : FOk P w K mg base "_law_next" 1 ["draws"] (spI K 1 f_u_law_next) := by
  refine fok_io (k := 0) D sc_u_law_next (by decide) bi_u_law_next fun f cdv A outer s H E hr tk po => ?_
  have hu := room_u hr
  have nd : N_u_law_next.Nodup := by decide +kernel
  exact dss_cons (ds_if (dt_of (dv 0)) (dss_one (ds_ret (de_m0 (pv 0) PySem.F.slot_list_pop PySem.F.type_list_pop m_pop))) (dss_nil)) (dss_one (ds_ret (de_int)))
theorem sc_u_law_pick : FnScope N_u_law_pick ["draws", "some"] (defScope s_u_law_pick) := ⟨rfl, rfl, rfl, by decide +kernel, rfl, by decide +kernel, by decide +kernel⟩
theorem bi_u_law_pick : BindOk "_law_pick" s_u_law_pick ["draws", "some"] := fun _ _ _ _ _ _ us hl => match us, hl with | [_, _], _ => rfl
theorem ok_u_law_pick (T : Txt K mg C_BadNumber) (D : Def K mg "_law_pick" s_u_law_pick) (C_u_law_next : FOk P w K mg base "_law_next" 1 ["draws"] (spI K 1 f_u_law_next)) : FOk P w K mg base "_law_pick" 2 ["draws", "some"] (spI K 2 f_u_law_pick) := by
  refine fok_io (k := 1) D sc_u_law_pick (by decide) bi_u_law_pick fun f cdv A outer s H E hr tk po => ?_
  have hu := room_u hr
  have nd : N_u_law_pick.Nodup := by decide +kernel
  exact dss_one (ds_ret (de_ix i_ix (dv 1) (de_bin o_mod (de_ct c_int T.b_int bt_int (da_cons (de_callI C_u_law_next (hr.mono (by decide)) (fun _ => L2N.passAt tk _) (da_cons (dv 0) (da_nil)) (hlen := (aCons_len aNil_len))) (da_nil))) (de_cb c_len T.b_len bt_len (da_cons (dv 1) (da_nil))))))
theorem sc_u_law_more : FnScope N_u_law_more ["draws", "many"] (defScope s_u_law_more) := ⟨rfl, rfl, rfl, by decide +kernel, rfl, by decide +kernel, by decide +kernel⟩
theorem bi_u_law_more : BindOk "_law_more" s_u_law_more ["draws", "many"] := fun _ _ _ _ _ _ us hl => match us, hl with | [_, _], _ => rfl
theorem ok_u_law_more (T : Txt K mg C_BadNumber) (D : Def K mg "_law_more" s_u_law_more) (C_u_law_next : FOk P w K mg base "_law_next" 1 ["draws"] (spI K 1 f_u_law_next)) : FOk P w K mg base "_law_more" 2 ["draws", "many"] (spI K 2 f_u_law_more) := by
  refine fok_io (k := 1) D sc_u_law_more (by decide) bi_u_law_more fun f cdv A outer s H E hr tk po => ?_
  have hu := room_u hr
  have nd : N_u_law_more.Nodup := by decide +kernel
  exact dss_cons (ds_set (i := 2) (de_bin o_add (de_bin o_add (de_bin o_mul (de_int) (de_callI C_u_law_next (hr.mono (by decide)) (fun _ => L2N.passAt tk _) (da_cons (dv 0) (da_nil)) (hlen := (aCons_len aNil_len)))) (de_callI C_u_law_next (hr.mono (by decide)) (fun _ => L2N.passAt tk _) (da_cons (dv 0) (da_nil)) (hlen := (aCons_len aNil_len)))) (de_int)) nd) (dss_cons (ds_setL (i := 3) (dl_lst (da_nil)) nd) (dss_cons (ds_for po rfl (di_range1 T.b_range (da_cons (dv 1) (da_nil))) (dg_name nd) (dss_cons (ds_set (i := 2) (de_bin o_mod (de_ct c_int T.b_int bt_int (da_cons (de_bin o_add (de_bin o_mul (dv 2) (de_int)) (de_int)) (da_nil))) (de_int)) nd) (dss_one (ds_expr (de_m (pv 3) PySem.F.slot_list_append PySem.F.type_list_append m_append (da_cons (de_bin o_mod (de_ct c_int T.b_int bt_int (da_cons (de_bin o_div (dv 2) (de_int)) (da_nil))) (de_int)) (da_nil))))))) (dss_one (ds_retL (dl_bin o_addL (dv 3) (dv 0))))))
theorem sc_u_law_coins : FnScope N_u_law_coins ["draws"] (defScope s_u_law_coins) := ⟨rfl, rfl, rfl, by decide +kernel, rfl, by decide +kernel, by decide +kernel⟩
theorem bi_u_law_coins : BindOk "_law_coins" s_u_law_coins ["draws"] := fun _ _ _ _ _ _ us hl => match us, hl with | [_], _ => rfl
theorem ok_u_law_coins (T : Txt K mg C_BadNumber) (D : Def K mg "_law_coins" s_u_law_coins) (C_u_law_pick : FOk P w K mg base "_law_pick" 2 ["draws", "some"] (spI K 2 f_u_law_pick)) (C_u_law_next : FOk P w K mg base "_law_next" 1 ["draws"] (spI K 1 f_u_law_next)) : FOk P w K mg base "_law_coins" 3 ["draws"] (spI K 1 f_u_law_coins) := by
  refine fok_io (k := 2) D sc_u_law_coins (by decide) bi_u_law_coins fun f cdv A outer s H E hr tk po => ?_
  have hu := room_u hr
  have nd : N_u_law_coins.Nodup := by decide +kernel
  exact dss_cons (ds_set (i := 1) (de_callI C_u_law_pick (hr.mono (by decide)) (fun _ => L2N.passAt tk _) (da_cons (dv 0) (da_cons (de_of (dl_lst (da_cons (de_int) (da_cons (de_int) (da_cons (de_int) (da_cons (de_int) (da_nil))))))) (da_nil))) (hlen := (aCons_len (aCons_len aNil_len)))) nd) (dss_one (ds_ret (de_ct c_tuple T.b_tuple bt_tuple (da_cons (de_of (dl_comp (own := [("k", 2)]) rfl nd (di_range1 T.b_range (da_cons (de_bin o_add (de_int) (de_bin o_mod (de_ct c_int T.b_int bt_int (da_cons (de_callI C_u_law_next (hr.mono (by decide)) (fun _ => L2N.passAt tk _) (da_cons (dv 0) (da_nil)) (hlen := (aCons_len aNil_len))) (da_nil))) (de_int))) (da_nil))) (blkOk_by (by first | decide +kernel | exact rfl)) (fun _ _ _ _ _ => dg_name nd) (fun _ _ _ _ _ => dts_nil) (fun _ _ _ _ _ => de_bin o_add (de_int) (de_bin o_mod (de_ct c_int T.b_int bt_int (da_cons (de_callI C_u_law_next (hr.mono (by decide)) (passN) (da_cons (dv 0) (da_nil)) (hlen := (aCons_len aNil_len))) (da_nil))) (dv 1))))) (da_nil)))))
theorem sc_u_law_gcd : FnScope N_u_law_gcd ["one", "other"] (defScope s_u_law_gcd) := ⟨rfl, rfl, rfl, by decide +kernel, rfl, by decide +kernel, by decide +kernel⟩
theorem bi_u_law_gcd : BindOk "_law_gcd" s_u_law_gcd ["one", "other"] := fun _ _ _ _ _ _ us hl => match us, hl with | [_, _], _ => rfl
theorem ok_u_law_gcd (T : Txt K mg C_BadNumber) (D : Def K mg "_law_gcd" s_u_law_gcd)  : FOk P w K mg base "_law_gcd" 1 ["one", "other"] (spP K mg 2 f_u_law_gcd) := by
  refine fok_data (k := 0) D sc_u_law_gcd bi_u_law_gcd fun f cdv A outer s H E hr tk po => ?_
  have hu := room_u hr
  have nd : N_u_law_gcd.Nodup := by decide +kernel
  exact dss_cons (ds_for po rfl (di_range1 T.b_range (da_cons (de_bin o_pow (de_int) (de_int)) (da_nil))) (dg_name nd) (dss_cons (ds_if (dt_cmp (o_eq hu) (dv 1) (de_int)) (dss_one (ds_break)) (dss_nil)) (dss_one (ds_par (i := 0) (j := 1) rfl nd (da_cons (dv 1) (da_cons (de_bin o_mod (de_ct c_int T.b_int bt_int (da_cons (dv 0) (da_nil))) (dv 1)) (da_nil))))))) (dss_one (ds_ret (dv 0)))
theorem sc_u_law_step : FnScope N_u_law_step ["coins"] (defScope s_u_law_step) := ⟨rfl, rfl, rfl, by decide +kernel, rfl, by decide +kernel, by decide +kernel⟩
theorem bi_u_law_step : BindOk "_law_step" s_u_law_step ["coins"] := fun _ _ _ _ _ _ us hl => match us, hl with | [_], _ => rfl
theorem ok_u_law_step (T : Txt K mg C_BadNumber) (D : Def K mg "_law_step" s_u_law_step) (C_u_law_gcd : FOk P w K mg base "_law_gcd" 1 ["one", "other"] (spP K mg 2 f_u_law_gcd)) : FOk P w K mg base "_law_step" 2 ["coins"] (spP K mg 1 f_u_law_step) := by
  refine fok_data (k := 1) D sc_u_law_step bi_u_law_step fun f cdv A outer s H E hr tk po => ?_
  have hu := room_u hr
  have nd : N_u_law_step.Nodup := by decide +kernel
  exact dss_cons (ds_set (i := 1) (de_int) nd) (dss_cons (ds_for po rfl (di_seq (dv 0)) (dg_name nd) (dss_one (ds_set (i := 1) (de_call C_u_law_gcd (hr.mono (by decide)) (fun _ => L2N.passAt tk _) (da_cons (dv 2) (da_cons (dv 1) (da_nil))) (hlen := (aCons_len (aCons_len aNil_len)))) nd))) (dss_one (ds_ret (dv 1))))
theorem sc_u_law_table : FnScope N_u_law_table ["coins", "most"] (defScope s_u_law_table) := ⟨rfl, rfl, rfl, by decide +kernel, rfl, by decide +kernel, by decide +kernel⟩
theorem bi_u_law_table : BindOk "_law_table" s_u_law_table ["coins", "most"] := fun _ _ _ _ _ _ us hl => match us, hl with | [_, _], _ => rfl
theorem ok_u_law_table (T : Txt K mg C_BadNumber) (D : Def K mg "_law_table" s_u_law_table)  : FOk P w K mg base "_law_table" 1 ["coins", "most"] (spP K mg 2 f_u_law_table) := by
  refine fok_data (k := 0) D sc_u_law_table bi_u_law_table fun f cdv A outer s H E hr tk po => ?_
  have hu := room_u hr
  have nd : N_u_law_table.Nodup := by decide +kernel
  exact dss_cons (ds_setL (i := 2) (dl_lst (da_cons (de_bl) (da_nil))) nd) (dss_cons (ds_for po rfl (di_range2 T.b_range (da_cons (de_int) (da_cons (de_bin o_add (dv 1) (de_int)) (da_nil)))) (dg_name nd) (dss_one (ds_expr (de_m (pv 2) PySem.F.slot_list_append PySem.F.type_list_append m_append (da_cons (de_cb (c_any rfl) T.b_any bt_any (da_cons (de_of (dl_comp (own := [("coin", 4)]) rfl nd (di_seq (dv 0)) (blkOk_by (by first | decide +kernel | exact rfl)) (fun _ _ _ _ _ => dg_name nd) (fun _ _ _ _ _ => dts_nil) (fun _ _ _ _ _ => de_and (de_cmp (o_le hu) (dv 4) (dv 3)) (de_one (de_ix i_ix (dv 2) (de_bin o_sub (dv 3) (dv 4))))))) (da_nil))) (da_nil)))))) (dss_one (ds_retOwn (pv 2))))
theorem sc_u_law_told : FnScope N_u_law_told ["which", "coins"] (defScope s_u_law_told) := ⟨rfl, rfl, rfl, by decide +kernel, rfl, by decide +kernel, by decide +kernel⟩
theorem bi_u_law_told : BindOk "_law_told" s_u_law_told ["which", "coins"] := fun _ _ _ _ _ _ us hl => match us, hl with | [_, _], _ => rfl
theorem ok_u_law_told (T : Txt K mg C_BadNumber) (D : Def K mg "_law_told" s_u_law_told) (C_gaps : FOk P w K mg base "gaps" 4 ["coins"] (spP K mg 1 f_gaps)) (C_gap_count : FOk P w K mg base "gap_count" 3 ["coins"] (spP K mg 1 f_gap_count)) (C_greatest_gap : FOk P w K mg base "greatest_gap" 3 ["coins"] (spP K mg 1 f_greatest_gap)) (C_last_gaps : FOk P w K mg base "last_gaps" 4 ["coins"] (spP K mg 1 f_last_gaps)) (C_is_even_handed : FOk P w K mg base "is_even_handed" 5 ["coins"] (spP K mg 1 f_is_even_handed)) : FOk P w K mg base "_law_told" 6 ["which", "coins"] (spP K mg 2 f_u_law_told) := by
  refine fok_data (k := 5) D sc_u_law_told bi_u_law_told fun f cdv A outer s H E hr tk po => ?_
  have hu := room_u hr
  have nd : N_u_law_told.Nodup := by decide +kernel
  exact dss_one (ds_try0 rfl rfl ⟨rfl, by decide, .inl T.g_BadNumber⟩ tk (fun W' pn xe tk' po' => dss_one (ds_ret (de_sel (k := 5) (Sel.one C_gaps (by decide) (Sel.one C_gap_count (by decide) (Sel.one C_greatest_gap (by decide) (Sel.one C_last_gaps (by decide) (Sel.one C_is_even_handed (by decide) ⟨[], .nil⟩))))) (by decide) (hr.mono (by decide)) (fun _ => L2N.passAt tk' _) (dv 0) (da_cons (dv 1) (da_nil)) (hlen := (aCons_len aNil_len))))) (fun y d hy => by obtain ⟨rfl, ha, hm⟩ := hdC_mem hy; simp only [List.mem_cons, List.not_mem_nil, or_false] at hm; exact ⟨C_BadNumber, by rw [hm]; exact T.g_BadNumber, ha, T.m_BadNumber_BadNumber, fun _ _ => de_str⟩))
theorem sc_u_law_is_even : FnScope N_u_law_is_even ["table", "step", "greatest"] (defScope s_u_law_is_even) := ⟨rfl, rfl, rfl, by decide +kernel, rfl, by decide +kernel, by decide +kernel⟩
theorem bi_u_law_is_even : BindOk "_law_is_even" s_u_law_is_even ["table", "step", "greatest"] := fun _ _ _ _ _ _ us hl => match us, hl with | [_, _, _], _ => rfl
theorem ok_u_law_is_even (T : Txt K mg C_BadNumber) (D : Def K mg "_law_is_even" s_u_law_is_even)  : FOk P w K mg base "_law_is_even" 1 ["table", "step", "greatest"] (spP K mg 3 f_u_law_is_even) := by
  refine fok_data (k := 0) D sc_u_law_is_even bi_u_law_is_even fun f cdv A outer s H E hr tk po => ?_
  have hu := room_u hr
  have nd : N_u_law_is_even.Nodup := by decide +kernel
  exact dss_cons (ds_if (dt_cmp o_is (dv 2) (de_non)) (dss_one (ds_ret (de_bl))) (dss_nil)) (dss_one (ds_ret (de_cb (c_all rfl) T.b_all bt_all (da_cons (de_of (dl_comp (own := [("amount", 3)]) rfl nd (di_range3 T.b_range (da_cons (de_int) (da_cons (de_bin o_add (dv 2) (de_int)) (da_cons (dv 1) (da_nil))))) (blkOk_by (by first | decide +kernel | exact rfl)) (fun _ _ _ _ _ => dg_name nd) (fun _ _ _ _ _ => dts_nil) (fun _ _ _ _ _ => de_cmp (o_ne hu) (de_ix i_ix (dv 0) (dv 3)) (de_ix i_ix (dv 0) (de_bin o_sub (dv 2) (dv 3)))))) (da_nil)))))
theorem sc_law : FnScope N_law ["script"] (defScope s_law) := ⟨rfl, rfl, rfl, by decide +kernel, rfl, by decide +kernel, by decide +kernel⟩
theorem bi_law : BindOk "law" s_law ["script"] := fun _ _ _ _ _ _ us hl => match us, hl with | [_], _ => rfl
theorem ok_law (T : Txt K mg C_BadNumber) {f : Addr} {fd : FuncData} (F : Fun K "law" "law" s_law f fd) (C_u_law_draws : FOk P w K mg base "_law_draws" 2 ["script"] (spP K mg 1 f_u_law_draws)) (C_u_law_more : FOk P w K mg base "_law_more" 2 ["draws", "many"] (spI K 2 f_u_law_more)) (C_u_law_coins : FOk P w K mg base "_law_coins" 3 ["draws"] (spI K 1 f_u_law_coins)) (C_u_law_step : FOk P w K mg base "_law_step" 2 ["coins"] (spP K mg 1 f_u_law_step)) (C_u_law_table : FOk P w K mg base "_law_table" 1 ["coins", "most"] (spP K mg 2 f_u_law_table)) (C_u_law_told : FOk P w K mg base "_law_told" 6 ["which", "coins"] (spP K mg 2 f_u_law_told)) (C_u_law_is_even : FOk P w K mg base "_law_is_even" 1 ["table", "step", "greatest"] (spP K mg 3 f_u_law_is_even)) : LawRun P w K mg base f fd ["script"] (spP K mg 1 f_law) := by
  refine law_run (k := 6) F sc_law ⟨rfl, by decide, by decide⟩ fun cdv s H hr tk po => ?_
  have hu := room_u hr
  have hgd : (cxN P w K mg base N_law "law" s_law f cdv callerA [] s H (fun _ _ _ => False)).A.guards = some [] := rfl
  have nd : N_law.Nodup := by decide +kernel
  exact dss_cons (ds_setL (i := 1) (dl_call C_u_law_draws (hr.mono (by decide)) (fun _ => L2N.passAt tk _) (da_cons (dv 0) (da_nil)) (hlen := (aCons_len aNil_len))) nd) (dss_cons (ds_setL (i := 1) (dl_callI C_u_law_more (hr.mono (by decide)) (fun _ => L2N.passAt tk _) (da_cons (dv 1) (da_cons (de_int) (da_nil))) (hlen := (aCons_len (aCons_len aNil_len)))) nd) (dss_cons (ds_for po rfl (di_range1 T.b_range (da_cons (de_int) (da_nil))) (dg_name nd) (dss_cons (ds_set (i := 3) (de_callI C_u_law_coins (hr.mono (by decide)) (fun _ => L2N.passAt tk _) (da_cons (dv 1) (da_nil)) (hlen := (aCons_len aNil_len))) nd) (dss_cons (ds_set (i := 4) (de_call C_u_law_step (hr.mono (by decide)) (fun _ => L2N.passAt tk _) (da_cons (dv 3) (da_nil)) (hlen := (aCons_len aNil_len))) nd) (dss_cons (ds_set (i := 5) (de_call C_u_law_table (hr.mono (by decide)) (fun _ => L2N.passAt tk _) (da_cons (dv 3) (da_cons (de_int) (da_nil))) (hlen := (aCons_len (aCons_len aNil_len)))) nd) (dss_cons (ds_setC (i := 6) (own := [("amount", 11)]) rfl nd (di_range3 T.b_range (da_cons (dv 4) (da_cons (de_int) (da_cons (dv 4) (da_nil))))) (blkOk_by (by first | decide +kernel | exact rfl)) (fun _ _ _ _ _ => dg_name nd) (fun _ _ _ _ _ => dts_one (dt_not (dt_of (de_ix i_ix (dv 5) (dv 11))))) (fun _ _ _ _ _ => dv 11) (sw_true rfl rfl rfl (by decide +kernel))) (dss_cons (ds_set (i := 7) (de_if (dt_of (dv 6)) (de_ix i_ix (dv 6) (de_un o_neg (de_int))) (de_non)) nd) (dss_cons (ds_setC (i := 8) (own := [("gap", 12)]) rfl nd (di_seq (dv 6)) (blkOk_by (by first | decide +kernel | exact rfl)) (fun _ _ _ _ _ => dg_name nd) (fun _ _ _ _ _ => dts_one (dt_of (de_cb (c_all rfl) T.b_all bt_all (da_cons (de_of (dl_comp (own := [("coin", 13)]) rfl nd (di_seq (dv 3)) (blkOk_by (by first | decide +kernel | exact rfl)) (fun _ _ _ _ _ => dg_name nd) (fun _ _ _ _ _ => dts_nil) (fun _ _ _ _ _ => de_ix i_ix (dv 5) (de_bin o_add (dv 12) (dv 13))))) (da_nil))))) (fun _ _ _ _ _ => dv 12) (sw_true rfl rfl rfl (by decide +kernel))) (dss_cons (ds_setC (i := 9) (own := [("which", 14)]) rfl nd (di_range1 T.b_range (da_cons (de_int) (da_nil))) (blkOk_by (by first | decide +kernel | exact rfl)) (fun _ _ _ _ _ => dg_name nd) (fun _ _ _ _ _ => dts_nil) (fun _ _ _ _ _ => de_call C_u_law_told (hr.mono (by decide)) (passN) (da_cons (dv 14) (da_cons (dv 3) (da_nil))) (hlen := (aCons_len (aCons_len aNil_len)))) (sw_true rfl rfl rfl (by decide +kernel))) (dss_one (ds_if (dt_cmp (o_ne hu) (de_cb (c_repr hgd hu) T.b_repr bt_repr (da_cons (dv 9) (da_nil))) (de_cb (c_repr hgd hu) T.b_repr bt_repr (da_cons (de_of (dl_lst (da_cons (dv 6) (da_cons (de_cb c_len T.b_len bt_len (da_cons (dv 6) (da_nil))) (da_cons (dv 7) (da_cons (dv 8) (da_cons (de_call C_u_law_is_even (hr.mono (by decide)) (fun _ => L2N.passAt tk _) (da_cons (dv 5) (da_cons (dv 4) (da_cons (dv 7) (da_nil)))) (hlen := (aCons_len (aCons_len (aCons_len aNil_len))))) (da_nil)))))))) (da_nil)))) (dss_one (ds_ret (de_bl))) (dss_nil))))))))))) (dss_cons (ds_setC (i := 10) (own := [("one", 15)]) rfl nd (di_seq (de_of (dl_lst (da_cons (de_tup (da_cons (de_int) (da_cons (de_int) (da_nil)))) (da_cons (de_tup (da_cons (de_int) (da_cons (de_int) (da_nil)))) (da_cons (de_tup (da_cons (de_int) (da_cons (de_int) (da_cons (de_int) (da_nil))))) (da_cons (de_tup (da_cons (de_int) (da_cons (de_int) (da_nil)))) (da_nil)))))))) (blkOk_by (by first | decide +kernel | exact rfl)) (fun _ _ _ _ _ => dg_name nd) (fun _ _ _ _ _ => dts_nil) (fun _ _ _ _ _ => de_of (dl_comp (own := [("which", 14)]) rfl nd (di_range1 T.b_range (da_cons (de_int) (da_nil))) (blkOk_by (by first | decide +kernel | exact rfl)) (fun _ _ _ _ _ => dg_name nd) (fun _ _ _ _ _ => dts_nil) (fun _ _ _ _ _ => de_call C_u_law_told (hr.mono (by decide)) (passN) (da_cons (dv 14) (da_cons (dv 15) (da_nil))) (hlen := (aCons_len (aCons_len aNil_len)))))) (sw_true rfl rfl rfl (by decide +kernel))) (dss_cons (ds_set (i := 6) (de_of (dl_lst (da_cons (de_of (dl_lst (da_cons (de_of (dl_lst (da_cons (de_int) (da_cons (de_int) (da_cons (de_int) (da_cons (de_int) (da_nil))))))) (da_cons (de_int) (da_cons (de_int) (da_cons (de_of (dl_lst (da_cons (de_int) (da_nil)))) (da_cons (de_bl) (da_nil)))))))) (da_cons (de_of (dl_lst (da_cons (de_of (dl_lst (da_cons (de_int) (da_nil)))) (da_cons (de_int) (da_cons (de_int) (da_cons (de_of (dl_lst (da_cons (de_int) (da_nil)))) (da_cons (de_bl) (da_nil)))))))) (da_cons (de_of (dl_lst (da_cons (de_of (dl_lst (da_cons (de_int) (da_cons (de_int) (da_nil))))) (da_cons (de_int) (da_cons (de_int) (da_cons (de_of (dl_lst (da_cons (de_int) (da_cons (de_int) (da_nil))))) (da_cons (de_bl) (da_nil)))))))) (da_cons (de_of (dl_lst (da_cons (de_of (dl_lst (da_nil))) (da_cons (de_int) (da_cons (de_non) (da_cons (de_of (dl_lst (da_nil))) (da_cons (de_bl) (da_nil)))))))) (da_nil))))))) nd) (dss_cons (ds_if (dt_cmp (o_ne hu) (de_cb (c_repr hgd hu) T.b_repr bt_repr (da_cons (dv 10) (da_nil))) (de_cb (c_repr hgd hu) T.b_repr bt_repr (da_cons (dv 6) (da_nil)))) (dss_one (ds_ret (de_bl))) (dss_nil)) (dss_one (ds_ret (de_cmp (o_eq hu) (de_of (dl_comp (own := [("which", 14)]) rfl nd (di_range1 T.b_range (da_cons (de_int) (da_nil))) (blkOk_by (by first | decide +kernel | exact rfl)) (fun _ _ _ _ _ => dg_name nd) (fun _ _ _ _ _ => dts_nil) (fun _ _ _ _ _ => de_call C_u_law_told (hr.mono (by decide)) (passN) (da_cons (dv 14) (da_cons (de_tup (da_cons (de_int) (da_cons (de_int) (da_nil)))) (da_nil))) (hlen := (aCons_len (aCons_len aNil_len)))))) (de_of (dl_repL (dl_lst (da_cons (de_str) (da_nil))) (de_int)))))))))))
end K47

namespace K47
open L2 PySem PySem.Spec PyProof.Rows DL
theorem next_eq (xs : List Int) : f_u_law_next (zs xs) [] = some (.val (.int (xs.getLastD 0)), zs xs.dropLast) := by
  unfold f_u_law_next
  rw [runI_out]
  rcases List.eq_nil_or_concat xs with rfl | ⟨ys, y, rfl⟩
  · simp [b_u_law_next, startI, startD]
  · simp [b_u_law_next, startI, startD]
theorem last_dr {xs : List Int} (h : Dr xs) : 0 ≤ xs.getLastD 0 ∧ xs.getLastD 0 < 1000 ∧ Dr xs.dropLast := by
  rcases List.eq_nil_or_concat xs with rfl | ⟨ys, y, rfl⟩
  · simp [Dr]
  · have := h y (by simp)
    refine ⟨by simpa using this.1, by simpa using this.2, fun x hx => h x ?_⟩
    simp at hx ⊢; exact .inl hx
theorem next_ex {xs : List Int} (h : Dr xs) : ∃ a ys, f_u_law_next (zs xs) [] = some (.val (.int a), zs ys) ∧ 0 ≤ a ∧ a < 1000 ∧ Dr ys ∧ ys.length ≤ xs.length :=
  ⟨_, _, next_eq xs, (last_dr h).1, (last_dr h).2.1, (last_dr h).2.2, by simp⟩
theorem number_eq (n : Int) : ∃ k : Int, 0 ≤ k ∧ f_u_law_number [.int n] = .ok (.val (.int k)) := by
  unfold f_u_law_number
  by_cases h : n < 0
  · refine ⟨0 - n, by omega, ?_⟩
    rw [runF_out]; simp [b_u_law_number, startD, h]
  · refine ⟨n, by omega, ?_⟩
    rw [runF_out]; simp [b_u_law_number, startD, h]
/-- the inner loop: a digit of base 1000 a turn -/
def inner : DSt := gFor (DL.iRange1 (aCons (xC (.int 60)) aNil)) (bName 4) (gSeq (gIf (xt2 kEq (xVar 3) (xC (.int 0))) gBreak gNext) (gSeq (gExpr (xM 1 mAppend (aCons (x2 kMod (xCB kInt (aCons (xVar 3) aNil)) (xC (.int 1000))) aNil))) (gSet 3 (x2 kDiv (xVar 3) (xC (.int 1000))))))
theorem inner_eq {s c o t : Option SV} {k : Option SV} (hk : VS k) {xs : List Int} (hx : Dr xs) {r : Int} (hr : 0 ≤ r) (hl : xs.length ≤ 1000000) : ∃ ys r' k', inner [s, some (.own false (.lst (zs xs))), c, some (.val (.int r)), k, o, t] = .nx [s, some (.own false (.lst (zs ys))), c, some (.val (.int r')), k', o, t] ∧ Dr ys ∧ ys.length ≤ xs.length + 60 ∧ VS k' := by
  have hit : DL.iRange1 (aCons (xC (.int 60)) aNil) [s, some (.own false (.lst (zs xs))), c, some (.val (.int r)), k, o, t] = .ok ((List.range 60).map fun (k : Nat) => PyData.int (k : Int)) [s, some (.own false (.lst (zs xs))), c, some (.val (.int r)), k, o, t] := iRange1_nat (by simp) (by omega)
  unfold inner
  rw [gFor_ap, hit, bindF_ok]
  obtain ⟨ρ', n', h1, ⟨ys, r', k', rfl, h2, h3, h4, h5⟩, h6⟩ := forD_brk (bind := bName 4) (body := gSeq (gIf (xt2 kEq (xVar 3) (xC (.int 0))) gBreak gNext) (gSeq (gExpr (xM 1 mAppend (aCons (x2 kMod (xCB kInt (aCons (xVar 3) aNil)) (xC (.int 1000))) aNil))) (gSet 3 (x2 kDiv (xVar 3) (xC (.int 1000))))))
    (fun n ρ => ∃ ys r' k', ρ = [s, some (.own false (.lst (zs ys))), c, some (.val (.int r')), k', o, t] ∧ Dr ys ∧ 0 ≤ r' ∧ ys.length ≤ xs.length + n ∧ VS k') (ds := (List.range 60).map fun (k : Nat) => PyData.int (k : Int)) (n := 0) ⟨xs, r, k, rfl, hx, hr, by omega, hk⟩ (fun j d ρ hd ⟨ys, r', k', e, h1, h2, h3, h4⟩ => by
      subst e
      have hj : j < 60 := by
        have := (List.getElem?_eq_some_iff.mp hd).1
        simpa using this
      have io := h4.io
      have hlen : ys.length < 16777216 := by omega
      by_cases z : r' = 0
      · refine ⟨[s, some (.own false (.lst (zs ys))), c, some (.val (.int r')), some (.val d), o, t], [s, some (.own false (.lst (zs ys))), c, some (.val (.int r')), some (.val d), o, t], by rcases h4 with rfl | ⟨d', rfl⟩ <;> simp, .inr ?_, ys, r', _, rfl, h1, h2, by omega, .val⟩
        simp [z]
      · refine ⟨[s, some (.own false (.lst (zs ys))), c, some (.val (.int r')), some (.val d), o, t], [s, some (.own false (.lst (zs (ys ++ [r'.fmod 1000])))), c, some (.val (.int (r'.fdiv 1000))), some (.val d), o, t], by rcases h4 with rfl | ⟨d', rfl⟩ <;> simp, .inl ?_, _, _, _, rfl, h1.app (.one r'), fdiv_nonneg h2 (by decide), by simp; omega, .val⟩
        simp [z, hlen, dk1000])
  exact ⟨ys, r', k', h1, h2, by simp at h6; omega, h5⟩
/-- one cell of the script -/
def cellB : DSt := gSeq (gSet 3 (xCall f_u_law_number (aCons (xVar 2) aNil))) (gIf (xt2 kGe (xVar 3) (xC (.int 1000000000000000000))) inner
  (gSeq (gSet 5 (x2 kMod (xCB kInt (aCons (x2 kAdd (x2 kMul (xVar 3) (xC (.int 48271))) (xC (.int 11))) aNil)) (xC (.int 2147483647)))) (gSeq (gSet 6 (x2 kMod (xCB kInt (aCons (x2 kAdd (x2 kMul (xVar 5) (xC (.int 69621))) (xVar 3)) aNil)) (xC (.int 2147483629))))
    (gExtend 1 (xLst (aCons (x2 kMod (xCB kInt (aCons (xVar 3) aNil)) (xC (.int 1000))) (aCons (x2 kMod (xCB kInt (aCons (xVar 5) aNil)) (xC (.int 1000))) (aCons (x2 kMod (xCB kInt (aCons (xVar 6) aNil)) (xC (.int 1000))) aNil))))))))
theorem cellB_eq {s r k o t : Option SV} (hr : VS r) (hk : VS k) (ho : VS o) (ht : VS t) {xs : List Int} (hx : Dr xs) (hl : xs.length ≤ 1000000) (c : Int) :
    ∃ ys r' k' o' t', cellB [s, some (.own false (.lst (zs xs))), some (.val (.int c)), r, k, o, t] = .nx [s, some (.own false (.lst (zs ys))), some (.val (.int c)), r', k', o', t'] ∧ Dr ys ∧ ys.length ≤ xs.length + 60 ∧ VS r' ∧ VS k' ∧ VS o' ∧ VS t' := by
  obtain ⟨n, hn, en⟩ := number_eq c
  by_cases h : 1000000000000000000 ≤ n
  · obtain ⟨ys, r', k', e, h1, h2, h3⟩ := inner_eq (s := s) (c := some (.val (.int c))) (o := o) (t := t) hk hx hn hl
    refine ⟨ys, some (.val (.int r')), k', o, t, ?_, h1, h2, .val, h3, ho, ht⟩
    · rcases hr with rfl | ⟨d, rfl⟩ <;> simp [cellB, en, h, e]
  · have m1 := mulOk_small hn (by omega) (b := 48271) (by decide) (by decide)
    have f1 := fmod_pos (a := n * 48271 + 11) (b := 2147483647) (by decide)
    have m2 := mulOk_small f1.1 (by omega) (b := 69621) (by decide) (by decide)
    have hlen : xs.length + 3 ≤ 16777216 := by omega
    refine ⟨xs ++ [n.fmod 1000, ((n * 48271 + 11).fmod 2147483647).fmod 1000, ((((n * 48271 + 11).fmod 2147483647) * 69621 + n).fmod 2147483629).fmod 1000], some (.val (.int n)), k, some (.val (.int ((n * 48271 + 11).fmod 2147483647))), some (.val (.int ((((n * 48271 + 11).fmod 2147483647) * 69621 + n).fmod 2147483629))), ?_, hx.app ?_, by simp, .val, hk, .val, .val⟩
    · rcases hr with rfl | ⟨d, rfl⟩ <;> rcases ho with rfl | ⟨d2, rfl⟩ <;> rcases ht with rfl | ⟨d3, rfl⟩ <;> simp [cellB, en, h, m1, m2, hlen]
    · intro x hx'
      simp at hx'
      rcases hx' with rfl | rfl | rfl <;> exact fmod_pos (by decide)
theorem draws_eq (ns : List Int) (hl : ns.length ≤ 63) : ∃ xs, f_u_law_draws [.list (zs ns)] = .ok (.own (.lst (zs xs))) ∧ Dr xs ∧ xs.length ≤ 5000 := by
  unfold f_u_law_draws
  rw [runF_out]
  obtain ⟨ρ', h1, ys, c, r, k, o, t, rfl, h2, h3, h4, h5, h6, h7, h8⟩ := forD_inv (bind := bName 2) (body := cellB)
    (fun n ρ => ∃ ys c r k o t, ρ = [some (.val (.list (zs ns))), some (.own false (.lst (zs ys))), c, r, k, o, t] ∧ Dr ys ∧ ys.length ≤ 60 * n ∧ VS c ∧ VS r ∧ VS k ∧ VS o ∧ VS t) (ds := zs ns) (n := 0) (ρ := [some (.val (.list (zs ns))), some (.own false (.lst [])), none, none, none, none, none])
    ⟨[], none, none, none, none, none, rfl, .nil, by simp, .inl rfl, .inl rfl, .inl rfl, .inl rfl, .inl rfl⟩ (fun j d ρ hd ⟨ys, c, r, k, o, t, e, h2, h3, h4, h5, h6, h7, h8⟩ => by
      subst e
      have hj : j < 63 := by
        have := (List.getElem?_eq_some_iff.mp hd).1
        simp at this; omega
      rw [List.getElem?_map] at hd
      cases q : ns[j]? with
      | none => rw [q] at hd; cases hd
      | some m =>
        rw [q] at hd
        cases hd
        obtain ⟨ys', r', k', o', t', e, g1, g2, g3, g4, g5, g6⟩ := cellB_eq (s := some (.val (.list (zs ns)))) h5 h6 h7 h8 h2 (by omega) m
        refine ⟨[some (.val (.list (zs ns))), some (.own false (.lst (zs ys))), some (.val (.int m)), r, k, o, t], _, by rcases h4 with rfl | ⟨d', rfl⟩ <;> simp, e, ys', _, r', k', o', t', rfl, g1, by omega, .val, g3, g4, g5, g6⟩)
  refine ⟨ys.reverse, ?_, h2.rev, by simp at h3 ⊢; omega⟩
  have e : b_u_law_draws = gSeq (gSetL 1 (xLst aNil)) (gSeq (gFor (iSeq (xVar 0)) (bName 2) cellB) (gSeq (gExpr (xM 1 mReverse aNil)) (gRetOwn 1))) := rfl
  rw [e]
  simp [startD, h1, List.map_reverse]
theorem more_eq (xs : List Int) (hx : Dr xs) (hl : xs.length ≤ 5000) (m : Nat) (hm : m ≤ 1000) : ∃ ys zs', f_u_law_more (zs xs) [.int (m : Int)] = some (.own (.lst (zs ys)), zs zs') ∧ Dr ys ∧ ys.length ≤ 6000 ∧ zs'.length ≤ 5000 := by
  unfold f_u_law_more
  rw [runI_out]
  obtain ⟨u, w1, n1, a1, a2, a3, l1⟩ := next_ex hx
  obtain ⟨v, w2, n2, b1, b2, b3, l2⟩ := next_ex a3
  have m1 := mulOk_small (a := 1000) (by decide) (by decide) a1 (by omega)
  have hit : ∀ (s x d e : Option SV), DL.iRange1 (aCons (xVar 1) aNil) [s, some (.val (.int (m : Int))), x, d, e] = .ok ((List.range m).map fun (k : Nat) => PyData.int (k : Int)) [s, some (.val (.int (m : Int))), x, d, e] := fun s x d e => iRange1_nat (by simp) (by omega)
  obtain ⟨ρ', h1, ys, sd, k', rfl, h2, h3, h4, h5, h6⟩ := forD_inv (bind := bName 4) (body := gSeq (gSet 2 (x2 kMod (xCB kInt (aCons (x2 kAdd (x2 kMul (xVar 2) (xC (.int 48271))) (xC (.int 12345))) (aNil))) (xC (.int 2147483647)))) (gExpr (xM 3 mAppend (aCons (x2 kMod (xCB kInt (aCons (x2 kDiv (xVar 2) (xC (.int 7))) (aNil))) (xC (.int 1000))) (aNil)))))
    (fun n ρ => ∃ ys sd k', ρ = [some (.own true (.lst (zs w2))), some (.val (.int (m : Int))), some (.val (.int sd)), some (.own false (.lst (zs ys))), k'] ∧ Dr ys ∧ ys.length ≤ n ∧ 0 ≤ sd ∧ sd < 3000000000 ∧ VS k') (ds := (List.range m).map fun (k : Nat) => PyData.int (k : Int)) (n := 0)
    (ρ := [some (.own true (.lst (zs w2))), some (.val (.int (m : Int))), some (.val (.int (1000 * u + v + 1))), some (.own false (.lst [])), none])
    ⟨[], _, none, rfl, .nil, by simp, by omega, by omega, .inl rfl⟩ (fun j d ρ hd ⟨ys, sd, k', e, g1, g2, g3, g4, g5⟩ => by
      subst e
      have hj : j < m := by
        have := (List.getElem?_eq_some_iff.mp hd).1
        simpa using this
      have q1 := mulOk_small g3 (by omega) (b := 48271) (by decide) (by decide)
      have f1 := fmod_pos (a := sd * 48271 + 12345) (b := 2147483647) (by decide)
      have hlen : ys.length < 16777216 := by omega
      refine ⟨[some (.own true (.lst (zs w2))), some (.val (.int (m : Int))), some (.val (.int sd)), some (.own false (.lst (zs ys))), some (.val d)],
        [some (.own true (.lst (zs w2))), some (.val (.int (m : Int))), some (.val (.int ((sd * 48271 + 12345).fmod 2147483647))), some (.own false (.lst (zs (ys ++ [(((sd * 48271 + 12345).fmod 2147483647).fdiv 7).fmod 1000])))), some (.val d)], by rcases g5 with rfl | ⟨d', rfl⟩ <;> simp, ?_, _, _, _, rfl, g1.app (.one _), by simp; omega, f1.1, by omega, .val⟩
      simp [q1, hlen, dk1000, dk7])
  have hys : ys.length ≤ m := by simpa using h3
  refine ⟨ys ++ w2, w2, ?_, h2.app b3, by simp; omega, by omega⟩
  have hlen : ys.length + w2.length ≤ 16777216 := by omega
  have hit' := hit (some (.own true (.lst (zs w2)))) (some (.val (.int (1000 * u + v + 1)))) (some (.own false (.lst []))) none
  have hb1 : (-4611686018427387904 : Int) ≤ (m : Int) := by omega
  have hb2 : (m : Int) < 4611686018427387904 := by omega
  simp [b_u_law_more, startI, startD, n1, n2, m1, hb1, hb2, h1, hlen]
end K47

namespace K47
open L2 PySem PySem.Spec PyProof.Rows DL
open CM
def coinsOk (c : List Int) : Bool := decide (1 ≤ c.length) && decide (c.length ≤ 6) && c.all fun x => decide (1 ≤ x) && decide (x ≤ 200)
theorem check_coins_eq {c : List Int} (h : c.length ≤ 1000) : f_check_coins [vec c] = if coinsOk c = true then .ok (.val .none) else .err ⟨"BadNumber", none⟩ := by
  unfold f_check_coins
  rw [runF_out]
  have hl : c.length ≤ 16777216 := by omega
  simp [b_check_coins, startD, hl, coinsOk]
  by_cases h1 : 1 ≤ c.length
  · have h1' : (1 : Int) ≤ c.length := by omega
    by_cases h2 : c.length ≤ 6
    · have h2' : ¬ (6 : Int) < c.length := by omega
      have h3 : ¬ c.length ≤ 0 := by omega
      by_cases h4 : ∃ x, x ∈ c ∧ (1 ≤ x → 200 < x)
      · obtain ⟨x, hx, k⟩ := h4
        have : ¬ ∀ x ∈ c, 1 ≤ x ∧ x ≤ 200 := fun z => by have := z x hx; have := k this.1; omega
        have e : ∃ x, x ∈ c ∧ (1 ≤ x → 200 < x) := ⟨x, hx, k⟩
        simp [h1, h1', h2, h2', e, this]
      · have : ∀ x ∈ c, 1 ≤ x ∧ x ≤ 200 := fun x hx => by
          by_cases q : 1 ≤ x ∧ x ≤ 200
          · exact q
          · exact absurd ⟨x, hx, fun k => by omega⟩ h4
        simp [h1, h1', h2, h2', h4, this]
    · have h2' : (6 : Int) < c.length := by omega
      simp [h1, h1', h2, h2']
  · have h1' : ¬ (1 : Int) ≤ c.length := by omega
    simp [h1, h1']
structure Coins (c : List Int) : Prop where
  l1 : 1 ≤ c.length
  l6 : c.length ≤ 6
  b : ∀ x ∈ c, 1 ≤ x ∧ x ≤ 200
theorem coins_of {c : List Int} (h : coinsOk c = true) : Coins c := by
  simp only [coinsOk, Bool.and_eq_true, decide_eq_true_eq, List.all_eq_true] at h
  exact ⟨h.1.1, h.1.2, h.2⟩
theorem of_coins {c : List Int} (h : Coins c) : coinsOk c = true := by
  simp only [coinsOk, Bool.and_eq_true, decide_eq_true_eq, List.all_eq_true]
  exact ⟨⟨h.l1, h.l6⟩, h.b⟩
theorem Coins.ne {c : List Int} (h : Coins c) : c ≠ [] := fun z => by have := h.l1; rw [z] at this; simp at this
theorem Coins.min {c : List Int} (h : Coins c) : minI c ∈ c := (minI_spec h.ne).1
theorem divisor_of_eq {c : List Int} (h : c.length ≤ 1000) : f_divisor_of [vec c] = .ok (.val (.int (gcdL c))) := by
  unfold f_divisor_of
  rw [runF_out]
  obtain ⟨ρ', h1, j, hj, rfl⟩ := forD_fold (bind := bName 2) (body := gSet 1 (xCB kGcd (aCons (xVar 1) (aCons (xVar 2) (aNil))))) (e := PyData.int) (fun (g : Int) ρ => ∃ j, VS j ∧ ρ = [some (.val (vec c)), some (.val (.int g)), j]) (fun g x => ((Int.gcd g x : Nat) : Int)) c 0 [some (.val (vec c)), some (.val (.int 0)), none] ⟨none, .inl rfl, rfl⟩
    (fun g x ρ hx ⟨j, hj, e⟩ => by
      subst e
      have io := hj.io
      exact ⟨[some (.val (vec c)), some (.val (.int g)), some (.val (.int x))], [some (.val (vec c)), some (.val (.int ((Int.gcd g x : Nat) : Int))), some (.val (.int x))], by rcases hj with rfl | ⟨d, rfl⟩ <;> simp, .inl (by simp [kGcd, Int.gcd]), _, .val, rfl⟩)
  simp [b_divisor_of, startD, h1, gcdL]

/-! ### the least row -/
def encF (F : List (Int × Int)) : List (Key × D) := F.map fun p => (Sum.inl p.1, .int p.2)
@[simp] theorem valKD_enc (F : List (Int × Int)) (r : Int) : valKD (encF F) (Sum.inl r) = (getF F r).map .int := by
  induction F with
  | nil => rfl
  | cons p F ih =>
    unfold encF valKD at ih ⊢
    rw [List.map_cons, List.find?_cons, getF_cons]
    by_cases h : p.1 = r
    · simp [h]
    · have h2 : ¬ (Sum.inl p.1 : Key) = Sum.inl r := fun z => h (Sum.inl.inj z)
      simp only [h2, decide_false, h, if_false]
      exact ih
theorem any_enc (F : List (Int × Int)) (r : Int) : ((encF F).any fun kv => decide (kv.1 = (Sum.inl r : Key))) = F.any fun p => decide (p.1 = r) := by
  unfold encF
  rw [List.any_map]
  refine congrArg (List.any F) (funext fun p => ?_)
  by_cases h : p.1 = r
  · simp [h]
  · have h2 : ¬ (Sum.inl p.1 : Key) = Sum.inl r := fun z => h (Sum.inl.inj z)
    simp [h]
@[simp] theorem putKD_enc (F : List (Int × Int)) (r v : Int) : putKD (encF F) (Sum.inl r) (.int v) = encF (CM.putF F r v) := by
  unfold putKD CM.putF
  rw [any_enc]
  split
  · unfold encF
    rw [List.map_map, List.map_map]
    refine List.map_congr_left fun p _ => ?_
    by_cases h : p.1 = r
    · simp [h]
    · have h2 : ¬ (Sum.inl p.1 : Key) = Sum.inl r := fun z => h (Sum.inl.inj z)
      simp [h]
  · simp [encF]
@[simp] theorem encF_len (F : List (Int × Int)) : (encF F).length = F.length := by simp [encF]
def rI : DSt := gSeq (gSet 7 (x2 kAdd (xVar 5) (xVar 6))) (gIf (xtOr (xtDIn true 3 (x2 kMod (xVar 7) (xVar 1))) (xt2 kLt (xVar 7) (xDGet 3 (x2 kMod (xVar 7) (xVar 1))))) (gSeq (gDPut 3 (x2 kMod (xVar 7) (xVar 1)) (xVar 7)) (gExpr (xM 4 mAppend (aCons (xVar 7) (aNil))))) (gNext))
def rB : DSt := gSeq (gSet 5 (xCB kMin (aCons (xVar 4) (aNil)))) (gSeq (gExpr (xRem 4 (xVar 5))) (gFor (iSeq (xVar 0)) (bName 6) rI))
theorem b_row_of_eq : b_row_of = gSeq (gSet 1 (xCB kMin (aCons (xVar 0) (aNil)))) (gSeq (gSet 2 (xCall f_divisor_of (aCons (xVar 0) (aNil)))) (gSeq (gSetL 3 (xDOne (xC (.int 0)) (xC (.int 0)))) (gSeq (gSetL 4 (xLst (aCons (xC (.int 0)) (aNil)))) (gSeq (gWhile (xTr (xVar 4)) rB) (gRetL (xComp (iRange3 (aCons (xC (.int 0)) (aCons (xVar 1) (aCons (xVar 2) (aNil))))) [8] (bName 8) (tTrue) (xDGet 3 (xVar 8)))))))) := rfl
abbrev rE (c : List Int) (L st : Int) (s : FW) (j5 j6 j7 : Option SV) : DEnv := [some (.val (vec c)), some (.val (.int L)), some (.val (.int st)), some (.own false (.dK (encF s.1))), some (.own false (.lst (zs s.2))), j5, j6, j7, none]
theorem rI_eq {c : List Int} {L st a x : Int} {s : FW} {j7 : Option SV} (h7 : VS j7) (L1 : 1 ≤ L) (hl : s.1.length < 16777216) (hw : s.2.length < 16777216) :
    rI (rE c L st s (some (.val (.int a))) (some (.val (.int x))) j7) = .nx (rE c L st (stepC L a s x) (some (.val (.int a))) (some (.val (.int x))) (some (.val (.int (a + x))))) := by
  have L0 : ¬ L = 0 := by omega
  have fm : ∀ z : Int, z.fmod L = z % L := fun z => Int.fmod_eq_emod_of_nonneg z (by omega)
  have io := h7.io
  unfold stepC
  cases q : getF s.1 ((a + x) % L) with
  | none => rcases h7 with rfl | ⟨d, rfl⟩ <;> simp [rI, rE, L0, fm, q, hl, hw]
  | some v =>
    by_cases h : a + x < v
    · rcases h7 with rfl | ⟨d, rfl⟩ <;> simp [rI, rE, L0, fm, q, hl, hw, h]
    · rcases h7 with rfl | ⟨d, rfl⟩ <;> simp [rI, rE, L0, fm, q, hl, hw, h]

theorem rFor_eq {c : List Int} {L st a : Int} {F0 : List (Int × Int)} {W0 : List Int} (L1 : 1 ≤ L) (hL : L ≤ 1000) (hc : ∀ x ∈ c, 1 ≤ x ∧ x ≤ 200) (pa : Pay c a) (a0 : 0 ≤ a) : ∀ (post pre : List Int) (s : FW) (j6 j7 : Option SV), VS j6 → VS j7 → (∀ x ∈ post, x ∈ c) → InvI c L a pre F0 W0 s →
    ∃ j6' j7', VS j6' ∧ VS j7' ∧ forD (bName 6) rI (zs post) (rE c L st s (some (.val (.int a))) j6 j7) = .nx (rE c L st (post.foldl (stepC L a) s) (some (.val (.int a))) j6' j7')
  | [], pre, s, j6, j7, h6, h7, _, _ => ⟨j6, j7, h6, h7, rfl⟩
  | x :: post, pre, s, j6, j7, h6, h7, hp, h => by
    have hx := hp x List.mem_cons_self
    have hI := h.step L1 hx (hc x hx).1 (hc x hx).2 pa a0
    have l1 : s.1.length < 16777216 := by
      have := nodup_len L.toNat 0 _ h.kn fun x hx => by
        obtain ⟨p, hp, rfl⟩ := List.mem_map.mp hx
        obtain ⟨_, e, _⟩ := h.k _ _ (mem_getF h.kn hp)
        have a1 := Int.emod_nonneg p.2 (show L ≠ 0 by omega)
        have a2 := Int.emod_lt_of_pos p.2 (show 0 < L by omega)
        omega
      rw [List.length_map] at this
      omega
    have l2 : s.2.length < 16777216 := by
      have := nodup_len 201 a s.2 h.w1 fun w hw => by have := h.w2 w hw; omega
      omega
    obtain ⟨j6', j7', g6, g7, e⟩ := rFor_eq (st := st) L1 hL hc pa a0 post (pre ++ [x]) (stepC L a s x) (some (.val (.int x))) (some (.val (.int (a + x)))) .val .val (fun y hy => hp y (List.mem_cons_of_mem _ hy)) hI
    refine ⟨j6', j7', g6, g7, ?_⟩
    have io := h6.io
    have hb : bName 6 (.int x) (rE c L st s (some (.val (.int a))) j6 j7) = some (rE c L st s (some (.val (.int a))) (some (.val (.int x))) j7) := by rcases h6 with rfl | ⟨d, rfl⟩ <;> simp [rE]
    rw [show zs (x :: post) = PyData.int x :: zs post from rfl, forD, hb]
    show (match rI (rE c L st s (some (.val (.int a))) (some (.val (.int x))) j7) with
      | .nx ρ2 => forD (bName 6) rI (zs post) ρ2
      | .ct ρ2 => forD (bName 6) rI (zs post) ρ2
      | .bk ρ2 => .nx ρ2
      | .rt v ρ2 => .rt v ρ2
      | .err x ρ2 => .err x ρ2
      | .bad => .bad) = _
    rw [rI_eq h7 L1 l1 l2]
    exact e
theorem rB_eq {c : List Int} {L st : Int} {s : FW} {j5 j6 j7 : Option SV} (h5 : VS j5) (h6 : VS j6) (h7 : VS j7) (L1 : 1 ≤ L) (hL : L ≤ 1000) (hc : ∀ x ∈ c, 1 ≤ x ∧ x ≤ 200) (h : InvO c L s) (hw : s.2 ≠ []) :
    ∃ j6' j7', VS j6' ∧ VS j7' ∧ rB (rE c L st s j5 j6 j7) = .nx (rE c L st (turnC c L (minI s.2) s) (some (.val (.int (minI s.2)))) j6' j7') := by
  obtain ⟨m1, m2⟩ := minI_spec hw
  have pa := h.w5 _ m1
  obtain ⟨j6', j7', g6, g7, e⟩ := rFor_eq (st := st) L1 hL hc pa (pa.nonneg fun x hx => (hc x hx).1) c [] (s.1, s.2.erase (minI s.2)) j6 j7 h6 h7 (fun x hx => hx) (InvI.start m1 m2 h)
  refine ⟨j6', j7', g6, g7, ?_⟩
  have hm := kMin_list hw
  have io := h5.io
  rcases h5 with rfl | ⟨d, rfl⟩ <;> simp [rB, rE, hm, m1, intsOf_map, e, turnC]
theorem rWhile {c : List Int} {L st : Int} (L1 : 1 ≤ L) (hL : L ≤ 1000) (hc : ∀ x ∈ c, 1 ≤ x ∧ x ≤ 200) (s : FW) (j5 j6 j7 : Option SV) (h5 : VS j5) (h6 : VS j6) (h7 : VS j7) (h : InvO c L s) :
    ∃ (n : Nat) (s' : FW) (j5' j6' j7' : Option SV), whileN (xTr (xVar 4)) rB n (rE c L st s j5 j6 j7) = .nx (rE c L st s' j5' j6' j7') ∧ VS j5' ∧ VS j6' ∧ VS j7' ∧ InvO c L s' ∧ s'.2 = [] := by
  by_cases hw : s.2 = []
  · refine ⟨1, s, j5, j6, j7, ?_, h5, h6, h7, h, hw⟩
    rw [whileN]
    simp [rE, hw]
  · obtain ⟨m1, m2⟩ := minI_spec hw
    obtain ⟨t1, t2⟩ := turn_ok L1 hc m1 m2 h
    obtain ⟨j6', j7', g6, g7, e⟩ := rB_eq (st := st) h5 h6 h7 L1 hL hc h hw
    have len1 := (t1.len L1).1
    obtain ⟨n, s', k5, k6, k7, e2, r⟩ := rWhile (st := st) L1 hL hc (turnC c L (minI s.2) s) (some (.val (.int (minI s.2)))) j6' j7' .val g6 g7 t1
    refine ⟨n + 1, s', k5, k6, k7, ?_, r⟩
    rw [whileN]
    have ht : xTr (xVar 4) (rE c L st s j5 j6 j7) = .ok true (rE c L st s j5 j6 j7) := by
      cases q : s.2 with
      | nil => exact absurd q hw
      | cons w ws => simp [rE, q]
    rw [ht]
    show (match rB (rE c L st s j5 j6 j7) with
      | .nx ρ2 => whileN (xTr (xVar 4)) rB n ρ2
      | .ct ρ2 => whileN (xTr (xVar 4)) rB n ρ2
      | .bk ρ2 => .nx ρ2
      | .rt v ρ2 => .rt v ρ2
      | .err x ρ2 => .err x ρ2
      | .bad => .bad) = _
    rw [e]
    exact e2
termination_by (L.toNat - s.1.length, sumF s.1, s.2.length)
decreasing_by
  rcases t2 with ⟨e1, e2⟩ | lt | ⟨e1, lt⟩
  · rw [e1]
    exact Prod.Lex.right _ (Prod.Lex.right _ (by omega))
  · exact Prod.Lex.left _ _ (by omega)
  · rw [← e1]
    exact Prod.Lex.right _ (Prod.Lex.left _ _ lt)
end K47

namespace K47
open L2 PySem PySem.Spec PyProof.Rows DL
open CM
open Classical in
noncomputable def lp (c : List Int) (L r : Int) : Int := if h : ∃ v, Least c L r v then Classical.choose h else 0
theorem lp_eq {c : List Int} {L r v : Int} (h : Least c L r v) : lp c L r = v := by
  unfold lp
  rw [dif_pos ⟨v, h⟩]
  exact (Classical.choose_spec (⟨v, h⟩ : ∃ v, Least c L r v)).uniq h
noncomputable def rowI (c : List Int) : List Int := (List.range (minI c / gcdL c).toNat).map fun (k : Nat) => lp c (minI c) (k * gcdL c)
theorem rgN_dvd {L st : Int} (h1 : 1 ≤ st) (L1 : 1 ≤ L) (hd : st ∣ L) : rgN 0 L st = (L / st).toNat := by
  obtain ⟨q, rfl⟩ := hd
  unfold rgN Builtin.Range.rangeSize
  rw [if_pos (by omega), if_pos (by omega)]
  have e1 : st * q / st = q := Int.mul_ediv_cancel_left q (by omega)
  have e2 : (st * q - 0 - 1) / st = q - 1 := by
    have : st * q - 0 - 1 = (st - 1) + st * (q - 1) := by rw [Int.mul_sub]; omega
    rw [this, Int.add_mul_ediv_left _ _ (by omega), Int.ediv_eq_zero_of_lt (by omega) (by omega)]
    omega
  rw [e1, e2]
  congr 1
  omega
theorem idx_lt {L st : Int} {k : Nat} (h1 : 1 ≤ st) (L1 : 1 ≤ L) (hd : st ∣ L) (hk : k < (L / st).toNat) : (k : Int) * st < L := by
  obtain ⟨q, rfl⟩ := hd
  have e1 : st * q / st = q := Int.mul_ediv_cancel_left q (by omega)
  rw [e1] at hk
  have : (k : Int) * st ≤ (q - 1) * st := Int.mul_le_mul_of_nonneg_right (by omega) (by omega)
  have e2 : (q - 1) * st = st * q - st := by rw [Int.sub_mul, Int.one_mul, Int.mul_comm]
  omega
theorem Coins.L {c : List Int} (h : Coins c) : 1 ≤ minI c ∧ minI c ≤ 200 := h.b _ h.min
theorem Coins.st {c : List Int} (h : Coins c) : 1 ≤ gcdL c ∧ gcdL c ∣ minI c ∧ gcdL c ≤ 200 := by
  have h1 := gcdL_pos h.min h.L.1
  have h2 := gcdL_dvd h.min
  have h3 := Int.le_of_dvd (by have := h.L.1; omega) h2
  have := h.L.2
  exact ⟨h1, h2, by omega⟩
theorem least_of {c : List Int} (h : Coins c) {r : Int} (hr : gcdL c ∣ r) (r0 : 0 ≤ r) (rl : r < minI c) : Least c (minI c) r (lp c (minI c) r) := by
  obtain ⟨n, p, e⟩ := reach h.min (fun x hx => (h.b x hx).1) hr
  rw [Int.emod_eq_of_lt r0 rl] at e
  obtain ⟨v, hv⟩ := least_ex (fun x hx => (h.b x hx).1) p e
  rw [lp_eq hv]; exact hv
theorem least_k {c : List Int} (h : Coins c) {k : Nat} (hk : k < (minI c / gcdL c).toNat) : Least c (minI c) (k * gcdL c) (lp c (minI c) (k * gcdL c)) := by
  have h1 := h.st
  have h2 := h.L
  exact least_of h (Int.dvd_mul_left ..) (Int.mul_nonneg (by omega) (by omega)) (idx_lt h1.1 h2.1 h1.2.1 hk)
theorem row_of_eq {c : List Int} (h : Coins c) : f_row_of [vec c] = .ok (.own (.lst (zs (rowI c)))) := by
  unfold f_row_of
  rw [runF_out]
  have h1 := h.st
  have h2 := h.L
  have l6 := h.l6
  obtain ⟨n, s', j5, j6, j7, e, v5, v6, v7, io, w0⟩ := rWhile (c := c) (st := gcdL c) h2.1 (by omega) h.b ([(0, 0)], [0]) none none none (.inl rfl) (.inl rfl) (.inl rfl) (InvO.init c (minI c))
  have e2 : gWhile (xTr (xVar 4)) rB [some (.val (vec c)), some (.val (.int (minI c))), some (.val (.int (gcdL c))), some (.own false (.dK [(Sum.inl 0, PyData.int 0)])), some (.own false (.lst [PyData.int 0])), none, none, none, none] = .nx (rE c (minI c) (gcdL c) s' j5 j6 j7) := by
    have := gWhile_of (t := xTr (xVar 4)) (body := rB) (n := n) (ρ := rE c (minI c) (gcdL c) ([(0, 0)], [0]) none none none) (by rw [e]; exact fun z => nomatch z)
    rw [e] at this
    exact this
  obtain ⟨f1, f2⟩ := io.last w0
  have hk : ∀ k : Nat, k < (minI c / gcdL c).toNat → getF s'.1 ((k : Int) * gcdL c) = some (lp c (minI c) (k * gcdL c)) := fun k hk => by
    have hl := least_k h hk
    obtain ⟨v, g1, g2⟩ := f1 _ hl.pay
    rw [hl.rest] at g1
    rw [g1, (f2 _ _ g1).uniq hl]
  have dv := divisor_of_eq (c := c) (by omega)
  have km := kMin_vec h.ne
  have ok3 := small_of (i := 0) (j := minI c) (c := gcdL c) (by omega) (by omega) (by omega) (by omega) (by omega) (by omega)
  have rg := rgN_dvd h1.1 h2.1 h1.2.1
  have sz : (minI c / gcdL c).toNat ≤ 16777216 := by
    have := Int.ediv_le_self (a := minI c) (gcdL c) (by omega)
    omega
  rw [b_row_of_eq]
  simp [startD, km, dv, e2, rE, ok3, rg, rangeCD_map]
  rw [compX_eq (g := fun (k : Nat) => some (PyData.int (lp c (minI c) (k * gcdL c)))) (fun k hk' => by
    have := hk k (List.mem_range.mp hk')
    simp [this]) (by rw [List.length_range]; exact sz)]
  rw [List.filterMap_eq_map']
  simp [rowI]
end K47

namespace K47
open L2 PySem PySem.Spec PyProof.Rows DL
/-- a draw taken within a comprehension -/
theorem vec_comp {ow : List Nat} {b : D → DEnv → Option DEnv} {elt : DX} {it : DEnv → Res (List D)} (q : Int → Prop) (rest : List (Option SV)) (n : Nat) (hn : n ≤ 1000) {xs : List Int} (hx : Dr xs)
    (hi : it (some (.own true (.lst (zs xs))) :: rest) = .ok ((List.range n).map fun (k : Nat) => PyData.int (k : Int)) (some (.own true (.lst (zs xs))) :: rest)) (ho : (ow.all fun i => !isOwn (some (.own true (.lst (zs xs))) :: rest)[i]?) = true)
    (h : ∀ d ys, Dr ys → ∃ a ys', cstep ow b tTrue elt d (some (.own true (.lst (zs ys))) :: rest) = some (some (.int a), some (.own true (.lst (zs ys'))) :: rest) ∧ q a ∧ Dr ys' ∧ ys'.length ≤ ys.length) :
    ∃ as ys, xComp it ow b tTrue elt (some (.own true (.lst (zs xs))) :: rest) = .ok (.lst (zs as)) (some (.own true (.lst (zs ys))) :: rest) ∧ as.length = n ∧ (∀ a ∈ as, q a) ∧ Dr ys ∧ ys.length ≤ xs.length := by
  obtain ⟨es, ρ', h1, ⟨ys, rfl, h2, h3⟩, h4⟩ := xComp_inv (fun ρ => ∃ ys, ρ = some (.own true (.lst (zs ys))) :: rest ∧ Dr ys ∧ ys.length ≤ xs.length) (fun _ z => ∃ a, z = .int a ∧ q a) hi ho (by rw [sizeLine_eq]; simp; omega) ⟨xs, rfl, hx, Nat.le_refl _⟩ (fun d _ ρ ⟨ys, e, g1, g2⟩ => by
    subst e
    obtain ⟨a, ys', k1, k2, k3, k4⟩ := h d ys g1
    exact ⟨_, _, k1, ⟨ys', rfl, k3, by omega⟩, a, rfl, k2⟩)
  have : ∃ as : List Int, es = zs as ∧ ∀ a ∈ as, q a := by
    have hr := All2.right (Q := fun z => ∃ a, z = PyData.int a ∧ q a) h4 fun _ _ h => h
    clear h4 h1
    induction es with
    | nil => exact ⟨[], rfl, fun a h => by simp at h⟩
    | cons z es ih =>
      obtain ⟨a, rfl, ha⟩ := hr z List.mem_cons_self
      obtain ⟨as, rfl, has⟩ := ih fun y hy => hr y (List.mem_cons_of_mem _ hy)
      exact ⟨a :: as, rfl, fun x hx => by rcases List.mem_cons.mp hx with rfl | hx; exact ha; exact has x hx⟩
  obtain ⟨as, rfl, has⟩ := this
  refine ⟨as, ys, h1, ?_, has, h2, h3⟩
  have := h4.len
  simpa using this.symm
theorem atI_pick {ys : List Int} {u : Int} (hy : ys ≠ []) : ∃ v, v ∈ ys ∧ atI (zs ys) (u.fmod (ys.length : Int)) = some (.int v) := by
  have hl : 0 < ys.length := List.length_pos_iff.mpr hy
  obtain ⟨f1, f2⟩ := fmod_pos (a := u) (b := (ys.length : Int)) (by omega)
  rw [atI_int f1, List.getElem?_map]
  have : (u.fmod (ys.length : Int)).toNat < ys.length := by omega
  rw [List.getElem?_eq_getElem this]
  exact ⟨_, List.getElem_mem _, rfl⟩
theorem pick_ex {xs : List Int} (h : Dr xs) {ys : List Int} (hy : ys ≠ []) : ∃ v ws, f_u_law_pick (zs xs) [.list (zs ys)] = some (.val (.int v), zs ws) ∧ v ∈ ys ∧ Dr ws ∧ ws.length ≤ xs.length := by
  obtain ⟨u, w, n1, a1, a2, a3, l1⟩ := next_ex h
  obtain ⟨v, hv, e⟩ := atI_pick (u := u) hy
  have hl : ¬ ys.length = 0 := fun z => hy (List.eq_nil_of_length_eq_zero z)
  have hl' : ¬ (ys.length : Int) = 0 := by omega
  refine ⟨v, w, ?_, hv, a3, l1⟩
  unfold f_u_law_pick
  rw [runI_out]
  have hl2 : ¬ ys = [] := hy
  simp [b_u_law_pick, startI, startD, n1, hl', hl2, e]
open CM
open Classical in
noncomputable def payB (c : List Int) (n : Int) : Bool := decide (Pay c n)
theorem payB_iff {c : List Int} {n : Int} : payB c n = true ↔ Pay c n := by simp [payB]
theorem pays_eq {c : List Int} (h : Coins c) (n : Int) : f_pays [vec c, .list (zs (rowI c)), .int n] = .ok (.val (.bool (payB c n))) := by
  unfold f_pays
  rw [runF_out]
  have h1 := h.st
  have h2 := h.L
  have l6 := h.l6
  have dv := divisor_of_eq (c := c) (by omega)
  have km := kMin_vec h.ne
  have st0 : ¬ gcdL c = 0 := by omega
  have L0 : ¬ minI c = 0 := by omega
  have dok : divOk (gcdL c) = true := divOk_of st0 (by omega)
  have fm : n.fmod (gcdL c) = n % gcdL c := Int.fmod_eq_emod_of_nonneg n (by omega)
  have fm2 : n.fmod (minI c) = n % minI c := Int.fmod_eq_emod_of_nonneg n (by omega)
  by_cases n0 : 0 ≤ n
  · by_cases nd : n % gcdL c = 0
    · have d1 : gcdL c ∣ n := Int.dvd_of_emod_eq_zero nd
      have d2 : gcdL c ∣ n % minI c := by
        rw [Int.emod_def]
        exact Int.dvd_sub d1 (Int.dvd_trans h1.2.1 (Int.dvd_mul_right ..))
      have m1 := Int.emod_nonneg n (show minI c ≠ 0 by omega)
      have m2 := Int.emod_lt_of_pos n (show 0 < minI c by omega)
      have hl := least_of h d2 m1 m2
      obtain ⟨q, hq⟩ := d2
      have q0 : 0 ≤ q := by
        by_cases z : 0 ≤ q
        · exact z
        · have := Int.mul_neg_of_pos_of_neg (a := gcdL c) (b := q) (by omega) (by omega); omega
      have e1 : (n % minI c).fdiv (gcdL c) = q := by
        rw [Int.fdiv_eq_ediv_of_nonneg _ (by omega), hq]; exact Int.mul_ediv_cancel_left q (by omega)
      have kl : q.toNat < (minI c / gcdL c).toNat := by
        obtain ⟨p, hp⟩ := h1.2.1
        have : minI c / gcdL c = p := by rw [hp]; exact Int.mul_ediv_cancel_left p (by omega)
        rw [this]
        have : gcdL c * q < gcdL c * p := by omega
        have := Int.lt_of_mul_lt_mul_left this (by omega)
        omega
      have at1 : atI (zs (rowI c)) q = some (.int (lp c (minI c) (n % minI c))) := by
        rw [atI_int q0, rowI, List.getElem?_map, List.getElem?_map, List.getElem?_range kl]
        have e4 : ((q.toNat : Nat) : Int) = q := by omega
        have e5 : ((q.toNat : Nat) : Int) * gcdL c = n % minI c := by rw [hq, Int.mul_comm, e4]
        show some (PyData.int (lp c (minI c) (((q.toNat : Nat) : Int) * gcdL c))) = _
        rw [e5]
      have pi := pay_iff h.min h2.1 hl rfl
      have e3 : payB c n = decide (lp c (minI c) (n % minI c) ≤ n) := by
        by_cases z : lp c (minI c) (n % minI c) ≤ n
        · have := pi.mpr z; simp [payB, this, z]
        · have : ¬ Pay c n := fun p => z (pi.mp p); simp [payB, this, z]
      simp [b_pays, startD, dv, km, st0, L0, dok, fm, fm2, n0, nd, e1, at1, e3]
    · have : ¬ Pay c n := fun p => nd (Int.emod_eq_zero_of_dvd p.dvd)
      simp [b_pays, startD, dv, km, st0, L0, dok, fm, fm2, n0, nd, payB, this]
  · have : ¬ Pay c n := fun p => n0 (p.nonneg fun x hx => (h.b x hx).1)
    simp [b_pays, startD, dv, km, st0, L0, dok, fm, fm2, n0, payB, this]
/-! ### the law's own -/
theorem coins_ex {xs : List Int} (hx : Dr xs) : ∃ c ys, f_u_law_coins (zs xs) [] = some (.val (vec c), zs ys) ∧ (1 ≤ c.length ∧ c.length ≤ 6 ∧ ∀ x ∈ c, 1 ≤ x ∧ x ≤ 30) ∧ Dr ys ∧ ys.length ≤ xs.length := by
  obtain ⟨m, w1, n1, a1, a3, l1⟩ := pick_ex hx (ys := [9, 9, 15, 30]) (by simp)
  obtain ⟨u, w2, n2, b1, b2, b3, l2⟩ := next_ex a3
  have f1 := fmod_pos (a := u) (b := 6) (by decide)
  have m1 : 9 ≤ m ∧ m ≤ 30 := by simp at a1; omega
  obtain ⟨k, hk⟩ : ∃ k : Nat, (k : Int) = 1 + u.fmod 6 := ⟨(1 + u.fmod 6).toNat, by omega⟩
  obtain ⟨as, ys, h1, h2, h3, h4, h5⟩ := vec_comp (ow := [2]) (b := bName 2) (it := fun ρ => .ok ((List.range k).map fun (k : Nat) => PyData.int (k : Int)) ρ) (elt := x2 kAdd (xC (.int 1)) (x2 kMod (xCB kInt (aCons (xCallI f_u_law_next (aCons (xVar 0) (aNil))) (aNil))) (xVar 1)))
    (fun a => 1 ≤ a ∧ a ≤ 30) [some (.val (.int m)), none] k (by omega) b3 rfl (by simp) (fun d ys hy => by
      obtain ⟨u, w, n1, a1, a2, a3, l1⟩ := next_ex hy
      have f1 := fmod_pos (a := u) (b := m) (by omega)
      have f2 : ¬ m = 0 := by omega
      refine ⟨1 + u.fmod m, w, ?_, by omega, a3, l1⟩
      simp [n1, f2])
  rw [xComp_of rfl (by simp)] at h1
  have kb1 : (-4611686018427387904 : Int) ≤ (k : Int) := by omega
  have kb2 : (k : Int) < 4611686018427387904 := by omega
  refine ⟨as, ys, ?_, ⟨by omega, by omega, h3⟩, h4, by omega⟩
  unfold f_u_law_coins
  rw [runI_out]
  have n1' : f_u_law_pick (zs xs) [.list [.int 9, .int 9, .int 15, .int 30]] = some (.val (.int m), zs w1) := n1
  simp [b_u_law_coins, startI, startD, n1', n2, ← hk, kb1, kb2, -compE_map]
  unfold compE
  rw [h1]
  simp
def gB : DSt := gSeq (gIf (xt2 kEq (xVar 1) (xC (.int 0))) (gBreak) (gNext)) (gPar 0 1 (aCons (xVar 1) (aCons (x2 kMod (xCB kInt (aCons (xVar 0) (aNil))) (xVar 1)) (aNil))))
theorem gcd_loop : ∀ (ds : List D) (a b : Nat) (k : Option SV), VS k → b < ds.length → ∃ k', VS k' ∧ forD (bName 2) gB ds [some (.val (.int a)), some (.val (.int b)), k] = .nx [some (.val (.int (Nat.gcd a b : Nat))), some (.val (.int 0)), k']
  | [], a, b, k, hk, hl => by simp at hl
  | d :: ds, a, b, k, hk, hl => by
    have hb : bName 2 d [some (.val (.int a)), some (.val (.int b)), k] = some [some (.val (.int a)), some (.val (.int b)), some (.val d)] := by rcases hk with rfl | ⟨d', rfl⟩ <;> simp
    by_cases z : b = 0
    · subst z
      refine ⟨some (.val d), .val, ?_⟩
      rw [forD, hb]
      have e : gB [some (.val (.int a)), some (.val (.int ((0 : Nat) : Int))), some (.val d)] = .bk [some (.val (.int a)), some (.val (.int 0)), some (.val d)] := by simp [gB]
      show (match gB [some (.val (.int a)), some (.val (.int ((0 : Nat) : Int))), some (.val d)] with
        | .nx ρ2 => forD (bName 2) gB ds ρ2
        | .ct ρ2 => forD (bName 2) gB ds ρ2
        | .bk ρ2 => .nx ρ2
        | .rt v ρ2 => .rt v ρ2
        | .err x ρ2 => .err x ρ2
        | .bad => .bad) = _
      rw [e, Nat.gcd_zero_right]
    · have lt : a % b < b := Nat.mod_lt _ (by omega)
      obtain ⟨k', hk', e'⟩ := gcd_loop ds b (a % b) (some (.val d)) .val (by simp at hl; omega)
      refine ⟨k', hk', ?_⟩
      rw [forD, hb]
      have z' : ¬ (b : Int) = 0 := by omega
      have fm : (a : Int).fmod (b : Int) = ((a % b : Nat) : Int) := by rw [Int.fmod_eq_emod_of_nonneg _ (by omega)]; rfl
      have e : gB [some (.val (.int a)), some (.val (.int b)), some (.val d)] = .nx [some (.val (.int b)), some (.val (.int ((a % b : Nat) : Int))), some (.val d)] := by simp [gB, z', z, fm]
      show (match gB [some (.val (.int a)), some (.val (.int (b : Int))), some (.val d)] with
        | .nx ρ2 => forD (bName 2) gB ds ρ2
        | .ct ρ2 => forD (bName 2) gB ds ρ2
        | .bk ρ2 => .nx ρ2
        | .rt v ρ2 => .rt v ρ2
        | .err x ρ2 => .err x ρ2
        | .bad => .bad) = _
      rw [e]
      have g : Nat.gcd a b = Nat.gcd b (a % b) := by rw [Nat.gcd_comm, Nat.gcd_rec, Nat.gcd_comm]
      rw [g]
      exact e'
theorem pow6 : kPow (.int 10) (.int 6) = some (.int 1000000) := by rfl
theorem law_gcd_eq {a b : Nat} (hb : b < 1000000) : f_u_law_gcd [.int a, .int b] = .ok (.val (.int (Nat.gcd a b : Nat))) := by
  unfold f_u_law_gcd
  rw [runF_out]
  obtain ⟨k', _, e⟩ := gcd_loop ((List.range 1000000).map fun (k : Nat) => PyData.int (k : Int)) a b none (.inl rfl) (by rw [List.length_map, List.length_range]; exact hb)
  have eb : b_u_law_gcd = gSeq (gFor (DL.iRange1 (aCons (x2 kPow (xC (.int 10)) (xC (.int 6))) (aNil))) (bName 2) gB) (gRet (xVar 0)) := rfl
  have hi : DL.iRange1 (aCons (x2 kPow (xC (.int 10)) (xC (.int 6))) (aNil)) [some (.val (.int a)), some (.val (.int b)), none] = .ok ((List.range 1000000).map fun (k : Nat) => PyData.int (k : Int)) [some (.val (.int a)), some (.val (.int b)), none] := iRange1_nat (n := 1000000) (by simp [pow6]) (by omega)
  rw [eb]
  have hs : startD N_u_law_gcd.length [.int a, .int b] = [some (.val (.int a)), some (.val (.int b)), none] := rfl
  rw [hs, gSeq_ap, gFor_ap, hi, bindF_ok, e, seqF_nx]
  simp
theorem step_fold : ∀ (c : List Int) (g : Int), (∀ x ∈ c, 0 ≤ x) → 0 ≤ g → c.foldl (fun g x => ((Nat.gcd x.toNat g.toNat : Nat) : Int)) g = c.foldl (fun g x => ((Int.gcd g x : Nat) : Int)) g
  | [], g, _, _ => rfl
  | x :: c, g, hx, hg => by
    rw [List.foldl_cons, List.foldl_cons]
    have e : ((Nat.gcd x.toNat g.toNat : Nat) : Int) = ((Int.gcd g x : Nat) : Int) := by
      have := hx x List.mem_cons_self
      unfold Int.gcd
      rw [Nat.gcd_comm]
      congr 2 <;> omega
    rw [e]
    exact step_fold c _ (fun y hy => hx y (List.mem_cons_of_mem _ hy)) (Int.natCast_nonneg _)
theorem law_step_eq {c : List Int} (hc : ∀ x ∈ c, 1 ≤ x ∧ x ≤ 1000) : f_u_law_step [vec c] = .ok (.val (.int (gcdL c))) := by
  unfold f_u_law_step
  rw [runF_out]
  obtain ⟨ρ', h1, j, hj, g0, g1, rfl⟩ := forD_fold (bind := bName 2) (body := gSet 1 (xCall f_u_law_gcd (aCons (xVar 2) (aCons (xVar 1) (aNil))))) (e := PyData.int) (fun (g : Int) ρ => ∃ j, VS j ∧ 0 ≤ g ∧ g ≤ 1000 ∧ ρ = [some (.val (vec c)), some (.val (.int g)), j]) (fun g x => ((Nat.gcd x.toNat g.toNat : Nat) : Int)) c 0 [some (.val (vec c)), some (.val (.int 0)), none] ⟨none, .inl rfl, by omega, by omega, rfl⟩
    (fun g x ρ hx ⟨j, hj, g0, g1, e⟩ => by
      subst e
      have x1 := hc x hx
      obtain ⟨a, rfl⟩ := Int.eq_ofNat_of_zero_le (show 0 ≤ x by omega)
      obtain ⟨b, rfl⟩ := Int.eq_ofNat_of_zero_le g0
      have lg := law_gcd_eq (a := a) (b := b) (by omega)
      have le : Nat.gcd a b ≤ a := Nat.gcd_le_left b (by omega)
      exact ⟨[some (.val (vec c)), some (.val (.int b)), some (.val (.int a))], [some (.val (vec c)), some (.val (.int (Nat.gcd a b : Nat))), some (.val (.int a))], by rcases hj with rfl | ⟨d, rfl⟩ <;> simp, .inl (by simp [lg]), some (.val (.int a)), .val, by show (0 : Int) ≤ ((Nat.gcd (a : Int).toNat (b : Int).toNat : Nat) : Int); omega, by rw [Int.toNat_natCast, Int.toNat_natCast]; omega, rfl⟩)
  have e := step_fold c 0 (fun x hx => by have := hc x hx; omega) (Int.le_refl 0)
  simp [b_u_law_step, startD, h1]
  exact e
theorem pay_rec {c : List Int} (hc : ∀ x ∈ c, 1 ≤ x) {n : Int} (n1 : 1 ≤ n) : Pay c n ↔ ∃ x ∈ c, x ≤ n ∧ Pay c (n - x) := by
  constructor
  · intro p
    cases p with
    | zero => omega
    | @add m x h hx =>
      have := h.nonneg hc
      exact ⟨x, hx, by omega, by rw [show m + x - x = m by omega]; exact h⟩
  · rintro ⟨x, hx, _, h⟩
    have := h.add hx
    rwa [show n - x + x = n by omega] at this
def tB : DSt := gExpr (xM 2 mAppend (aCons (xCB kAny (aCons (ofL (xComp (iSeq (xVar 0)) [4] (bName 4) (tTrue) (xAnd (x2 (kB kLe) (xVar 4) (xVar 3)) (x2 kIx (xVar 2) (x2 kSub (xVar 3) (xVar 4)))))) (aNil))) (aNil)))
noncomputable def tabD (c : List Int) (n : Nat) : List D := (List.range n).map fun (a : Nat) => PyData.bool (payB c a)
theorem tB_eq {c : List Int} (hc : ∀ x ∈ c, 1 ≤ x) (cl : c.length ≤ 1000) {n : Nat} (hn : n + 1 < 1000000) {m : Option SV} : tB [some (.val (vec c)), m, some (.own false (.lst (tabD c (n + 1)))), some (.val (.int (1 + (n : Int)))), none] =
    .nx [some (.val (vec c)), m, some (.own false (.lst (tabD c (n + 2)))), some (.val (.int (1 + (n : Int)))), none] := by
  have hlen : (tabD c (n + 1)).length < 16777216 := by simp [tabD]; omega
  have cl2 : c.length ≤ 16777216 := by omega
  have key : ∀ x ∈ c, x ≤ 1 + (n : Int) → atI (tabD c (n + 1)) (1 + (n : Int) - x) = some (.bool (payB c (1 + n - x))) := fun x hx le => by
    have x1 := hc x hx
    rw [atI_int (by omega), tabD, List.getElem?_map, List.getElem?_range (by omega)]
    have : (((1 + (n : Int) - x).toNat : Nat) : Int) = 1 + n - x := by omega
    simp [this]
  have last : tabD c (n + 1) ++ [PyData.bool (c.any fun x => decide (x ≤ 1 + (n : Int)) && payB c (1 + n - x))] = tabD c (n + 2) := by
    have e : tabD c (n + 2) = tabD c (n + 1) ++ [PyData.bool (payB c ((n + 1 : Nat) : Int))] := by
      unfold tabD
      rw [List.range_succ (n := n + 1), List.map_append]; rfl
    rw [e]
    congr 3
    have e2 : ((n + 1 : Nat) : Int) = 1 + n := by omega
    rw [e2, Bool.eq_iff_iff, payB_iff, pay_rec hc (by omega), List.any_eq_true]
    constructor
    · rintro ⟨x, hx, h⟩
      rw [Bool.and_eq_true, decide_eq_true_eq, payB_iff] at h
      exact ⟨x, hx, h⟩
    · rintro ⟨x, hx, h⟩
      exact ⟨x, hx, by rw [Bool.and_eq_true, decide_eq_true_eq, payB_iff]; exact h⟩
  have hany : kAny [.list (c.map fun x => PyData.bool (decide (x ≤ 1 + (n : Int)) && payB c (1 + n - x)))] = some (.bool (c.any fun x => decide (x ≤ 1 + (n : Int)) && payB c (1 + n - x))) := kAny_bools
  simp [tB]
  rw [compX_eq (g := fun x => some (.bool (decide (x ≤ 1 + (n : Int)) && payB c (1 + n - x)))) (fun x hx => by
    by_cases le : x ≤ 1 + (n : Int)
    · have := key x hx le
      simp [le, this]
    · simp [le]) cl2]
  rw [List.filterMap_eq_map' ]
  simp [hany, hlen, last]
theorem table_eq {c : List Int} (hc : ∀ x ∈ c, 1 ≤ x) (cl : c.length ≤ 1000) {m : Nat} (hm : m < 100000) : f_u_law_table [vec c, .int m] = .ok (.own (.lst (tabD c (m + 1)))) := by
  unfold f_u_law_table
  rw [runF_out]
  have t0 : tabD c 1 = [PyData.bool true] := by
    have : payB c 0 = true := payB_iff.mpr .zero
    simp [tabD, this]
  obtain ⟨ρ', h1, j, hj, rfl⟩ := forD_inv (bind := bName 3) (body := tB)
    (fun n ρ => ∃ j, VS j ∧ ρ = [some (.val (vec c)), some (.val (.int m)), some (.own false (.lst (tabD c (n + 1)))), j, none]) (ds := rangeD 1 m) (n := 0) (ρ := [some (.val (vec c)), some (.val (.int m)), some (.own false (.lst [PyData.bool true])), none, none])
    ⟨none, .inl rfl, by rw [t0]⟩ (fun k d ρ hd ⟨j, hj, e⟩ => by
      subst e
      have hk : k < m := by
        have := (List.getElem?_eq_some_iff.mp hd).1
        simpa [rangeD] using this
      have ed : d = .int (1 + (k : Int)) := by
        have := hd
        rw [rangeD, List.getElem?_map, List.getElem?_range hk] at this
        exact (Option.some.inj this).symm
      subst ed
      rw [Nat.zero_add]
      exact ⟨_, _, by rcases hj with rfl | ⟨d, rfl⟩ <;> simp, tB_eq hc cl (by omega), _, .val, rfl⟩)
  have eb : b_u_law_table = gSeq (gSetL 2 (xLst (aCons (xC (.bool true)) (aNil)))) (gSeq (gFor (DL.iRange2 (aCons (xC (.int 1)) (aCons (x2 kAdd (xVar 1) (xC (.int 1))) (aNil)))) (bName 3) tB) (gRetOwn 2)) := rfl
  have b1 : (-4611686018427387904 : Int) ≤ (m : Int) + 1 := by omega
  have b2 : (m : Int) + 1 < 4611686018427387904 := by omega
  have lr : (rangeD 1 m).length = m := by simp [rangeD]
  have e2 : ((m : Int) + 1 - 1).toNat = m := by omega
  rw [eb]
  rw [lr, Nat.zero_add] at h1
  simp [startD, b1, b2, e2, h1]
end K47

namespace K47
open L2 PySem PySem.Spec PyProof.Rows DL
open CM
/-! ### gaps, plain -/
theorem sorted_uniq : ∀ {l m : List Int}, l.Pairwise (· < ·) → m.Pairwise (· < ·) → (∀ x, x ∈ l ↔ x ∈ m) → l = m
  | [], [], _, _, _ => rfl
  | [], y :: m, _, _, h => by have := (h y).mpr List.mem_cons_self; simp at this
  | x :: l, [], _, _, h => by have := (h x).mp List.mem_cons_self; simp at this
  | x :: l, y :: m, hl, hm, h => by
    rw [List.pairwise_cons] at hl hm
    have e : x = y := by
      have a := (h x).mp List.mem_cons_self
      have b := (h y).mpr List.mem_cons_self
      rcases List.mem_cons.mp a with a | a
      · exact a
      · rcases List.mem_cons.mp b with b | b
        · exact b.symm
        · have := hm.1 x a; have := hl.1 y b; omega
    subst e
    congr 1
    refine sorted_uniq hl.2 hm.2 fun z => ⟨fun hz => ?_, fun hz => ?_⟩
    · rcases List.mem_cons.mp ((h z).mp (List.mem_cons_of_mem _ hz)) with q | q
      · subst q; have := hl.1 _ hz; omega
      · exact q
    · rcases List.mem_cons.mp ((h z).mpr (List.mem_cons_of_mem _ hz)) with q | q
      · subst q; have := hm.1 _ hz; omega
      · exact q
theorem merge_strict {l : List Int} (h : l.Nodup) : (l.mergeSort fun a b => decide (a ≤ b)).Pairwise (· < ·) ∧ ∀ x, x ∈ (l.mergeSort fun a b => decide (a ≤ b)) ↔ x ∈ l := by
  have p := List.mergeSort_perm l (fun a b => decide (a ≤ b))
  have s := List.pairwise_mergeSort (le := fun a b : Int => decide (a ≤ b)) (fun a b c h1 h2 => by simp at h1 h2 ⊢; omega) (fun a b => by simp; omega) l
  refine ⟨?_, fun x => p.mem_iff⟩
  have nd : (l.mergeSort fun a b => decide (a ≤ b)).Nodup := p.nodup_iff.mpr h
  have both := List.Pairwise.and s nd
  exact both.imp fun {a b} ⟨h1, h2⟩ => by simp at h1; omega
structure Gap (c : List Int) (n : Int) : Prop where
  n0 : 0 ≤ n
  d : gcdL c ∣ n
  np : ¬ Pay c n
def preG (row : List Int) (L : Int) : List Int := row.flatMap fun e => (List.range (e / L).toNat).map fun (j : Nat) => e % L + j * L
noncomputable def gapsI (c : List Int) : List Int := (preG (rowI c) (minI c)).mergeSort fun a b => decide (a ≤ b)
/-- where a gap stands -/
theorem gap_row {c : List Int} (h : Coins c) {n : Int} : Gap c n ↔ ∃ k : Nat, k < (minI c / gcdL c).toNat ∧ 0 ≤ n ∧ n % minI c = k * gcdL c ∧ n < lp c (minI c) (k * gcdL c) := by
  have h1 := h.st
  have h2 := h.L
  constructor
  · rintro ⟨n0, d, np⟩
    have d2 : gcdL c ∣ n % minI c := by
      rw [Int.emod_def]
      exact Int.dvd_sub d (Int.dvd_trans h1.2.1 (Int.dvd_mul_right ..))
    have m1 := Int.emod_nonneg n (show minI c ≠ 0 by omega)
    have m2 := Int.emod_lt_of_pos n (show 0 < minI c by omega)
    have hl := least_of h d2 m1 m2
    obtain ⟨q, hq⟩ := d2
    have q0 : 0 ≤ q := by
      by_cases z : 0 ≤ q
      · exact z
      · have := Int.mul_neg_of_pos_of_neg (a := gcdL c) (b := q) (by omega) (by omega); omega
    have kl : q.toNat < (minI c / gcdL c).toNat := by
      obtain ⟨p, hp⟩ := h1.2.1
      have : minI c / gcdL c = p := by rw [hp]; exact Int.mul_ediv_cancel_left p (by omega)
      rw [this]
      have : gcdL c * q < gcdL c * p := by omega
      have := Int.lt_of_mul_lt_mul_left this (by omega)
      omega
    have e : ((q.toNat : Nat) : Int) * gcdL c = n % minI c := by rw [hq, Int.mul_comm]; rw [show ((q.toNat : Nat) : Int) = q by omega]
    refine ⟨q.toNat, kl, n0, e.symm, ?_⟩
    rw [e]
    by_cases z : lp c (minI c) (n % minI c) ≤ n
    · exact absurd ((pay_iff h.min h2.1 hl rfl).mpr z) np
    · omega
  · rintro ⟨k, hk, n0, e, lt⟩
    have hl := least_k h hk
    refine ⟨n0, ?_, fun p => ?_⟩
    · have : n = n % minI c + minI c * (n / minI c) := (Int.emod_add_mul_ediv ..).symm
      rw [this]
      exact Int.dvd_add (by rw [e]; exact Int.dvd_mul_left ..) (Int.dvd_trans h1.2.1 (Int.dvd_mul_right ..))
    · have := hl.le n p e
      omega
theorem mem_preG {row : List Int} {L n : Int} : n ∈ preG row L ↔ ∃ e ∈ row, ∃ j : Nat, j < (e / L).toNat ∧ n = e % L + j * L := by
  unfold preG
  rw [List.mem_flatMap]
  constructor
  · rintro ⟨e, he, hn⟩
    obtain ⟨j, hj, rfl⟩ := List.mem_map.mp hn
    exact ⟨e, he, j, List.mem_range.mp hj, rfl⟩
  · rintro ⟨e, he, j, hj, rfl⟩
    exact ⟨e, he, List.mem_map.mpr ⟨j, List.mem_range.mpr hj, rfl⟩⟩
theorem seg_iff {e L n : Int} (L1 : 1 ≤ L) (e0 : 0 ≤ e) : (∃ j : Nat, j < (e / L).toNat ∧ n = e % L + j * L) ↔ 0 ≤ n ∧ n % L = e % L ∧ n < e := by
  have d := Int.emod_add_mul_ediv e L
  have m1 := Int.emod_nonneg e (show L ≠ 0 by omega)
  have m2 := Int.emod_lt_of_pos e (show 0 < L by omega)
  have q0 : 0 ≤ e / L := Int.ediv_nonneg e0 (by omega)
  constructor
  · rintro ⟨j, hj, rfl⟩
    have p0 : 0 ≤ (j : Int) * L := Int.mul_nonneg (by omega) (by omega)
    have lt : (j : Int) * L < (e / L) * L := Int.mul_lt_mul_of_pos_right (by omega) (by omega)
    rw [Int.mul_comm] at d
    refine ⟨by omega, ?_, by omega⟩
    rw [Int.add_mul_emod_self_right, Int.emod_emod_of_dvd _ (Int.dvd_refl _)]
  · rintro ⟨n0, em, lt⟩
    have dn := Int.emod_add_mul_ediv n L
    have r0 : 0 ≤ n / L := Int.ediv_nonneg n0 (by omega)
    refine ⟨(n / L).toNat, ?_, ?_⟩
    · have : L * (n / L) < L * (e / L) := by omega
      have := Int.lt_of_mul_lt_mul_left this (by omega)
      omega
    · rw [show (((n / L).toNat : Nat) : Int) = n / L by omega, Int.mul_comm]
      omega
theorem row_at {c : List Int} {e : Int} : e ∈ rowI c ↔ ∃ k : Nat, k < (minI c / gcdL c).toNat ∧ lp c (minI c) (k * gcdL c) = e := by
  unfold rowI
  rw [List.mem_map]
  exact ⟨fun ⟨k, hk, h⟩ => ⟨k, List.mem_range.mp hk, h⟩, fun ⟨k, hk, h⟩ => ⟨k, List.mem_range.mpr hk, h⟩⟩
theorem row_nonneg {c : List Int} (h : Coins c) {e : Int} (he : e ∈ rowI c) : 0 ≤ e := by
  obtain ⟨k, hk, rfl⟩ := row_at.mp he
  exact (least_k h hk).pay.nonneg fun x hx => (h.b x hx).1
theorem pre_iff {c : List Int} (h : Coins c) {n : Int} : n ∈ preG (rowI c) (minI c) ↔ Gap c n := by
  rw [mem_preG, gap_row h]
  constructor
  · rintro ⟨e, he, hj⟩
    have e0 := row_nonneg h he
    obtain ⟨k, hk, rfl⟩ := row_at.mp he
    obtain ⟨a, b, d⟩ := (seg_iff h.L.1 e0).mp hj
    exact ⟨k, hk, a, by rw [b, (least_k h hk).rest], d⟩
  · rintro ⟨k, hk, a, b, d⟩
    have he : lp c (minI c) (k * gcdL c) ∈ rowI c := row_at.mpr ⟨k, hk, rfl⟩
    exact ⟨_, he, (seg_iff h.L.1 (row_nonneg h he)).mpr ⟨a, by rw [b, (least_k h hk).rest], d⟩⟩
theorem nodup_flat {α β : Type} {f : α → List β} : ∀ {l : List α}, (∀ a ∈ l, (f a).Nodup) → (l.Pairwise fun a b => ∀ x ∈ f a, x ∉ f b) → (l.flatMap f).Nodup
  | [], _, _ => by simp
  | a :: l, h, p => by
    rw [List.pairwise_cons] at p
    rw [List.flatMap_cons, List.nodup_append]
    refine ⟨h a List.mem_cons_self, nodup_flat (fun b hb => h b (List.mem_cons_of_mem _ hb)) p.2, fun x hx y hy e => ?_⟩
    subst e
    obtain ⟨b, hb, hxb⟩ := List.mem_flatMap.mp hy
    exact p.1 b hb x hx hxb
theorem pre_nodup {c : List Int} (h : Coins c) : (preG (rowI c) (minI c)).Nodup := by
  have h2 := h.L
  refine nodup_flat (fun e he => ?_) ?_
  · refine List.Pairwise.map _ (R := (· ≠ ·)) (fun a b hab => ?_) List.nodup_range
    intro z
    apply hab
    have : (a : Int) * minI c = b * minI c := by omega
    have := Int.eq_of_mul_eq_mul_right (by omega) this
    omega
  · unfold rowI
    refine List.Pairwise.map _ (R := fun (a b : Nat) => a ∈ List.range (minI c / gcdL c).toNat ∧ b ∈ List.range (minI c / gcdL c).toNat ∧ a ≠ b) (fun a b ⟨ha, hb, hab⟩ x hx hy => ?_) ?_
    · have la := least_k h (List.mem_range.mp ha)
      have lb := least_k h (List.mem_range.mp hb)
      have xa := (seg_iff (n := x) h2.1 (la.pay.nonneg fun x hx => (h.b x hx).1)).mp (by obtain ⟨j, hj, rfl⟩ := List.mem_map.mp hx; exact ⟨j, List.mem_range.mp hj, rfl⟩)
      have xb := (seg_iff (n := x) h2.1 (lb.pay.nonneg fun x hx => (h.b x hx).1)).mp (by obtain ⟨j, hj, rfl⟩ := List.mem_map.mp hy; exact ⟨j, List.mem_range.mp hj, rfl⟩)
      rw [la.rest] at xa
      rw [lb.rest] at xb
      have e : (a : Int) * gcdL c = b * gcdL c := by omega
      have := Int.eq_of_mul_eq_mul_right (show gcdL c ≠ 0 by have := h.st.1; omega) e
      omega
    · exact List.Pairwise.and_mem.mp (List.nodup_range) |>.imp fun {a b} ⟨x, y, z⟩ => ⟨x, y, z⟩
theorem gaps_spec {c : List Int} (h : Coins c) : (gapsI c).Pairwise (· < ·) ∧ ∀ n, n ∈ gapsI c ↔ Gap c n := by
  obtain ⟨a, b⟩ := merge_strict (pre_nodup h)
  exact ⟨a, fun n => (b n).trans (pre_iff h)⟩
theorem gaps_len {c : List Int} (h : Coins c) : ((gapsI c).length : Int) = ((rowI c).map fun e => e / minI c).sum := by
  unfold gapsI
  rw [List.length_mergeSort]
  unfold preG
  have key : ∀ row : List Int, (∀ e ∈ row, 0 ≤ e) → (((row.flatMap fun e => (List.range (e / minI c).toNat).map fun (j : Nat) => e % minI c + j * minI c).length : Nat) : Int) = (row.map fun e => e / minI c).sum := by
    intro row
    induction row with
    | nil => intro _; simp
    | cons e row ih =>
      intro h0
      have := ih fun x hx => h0 x (List.mem_cons_of_mem _ hx)
      have q0 : 0 ≤ e / minI c := Int.ediv_nonneg (h0 e List.mem_cons_self) (by have := h.L; omega)
      rw [List.flatMap_cons, List.length_append, List.length_map, List.length_range, List.map_cons, List.sum_cons]
      omega
  exact key _ fun e he => row_nonneg h he
theorem gap_pos {c : List Int} {n : Int} (g : Gap c n) : 1 ≤ n := by
  have := g.n0
  have : n ≠ 0 := fun z => g.np (z ▸ .zero)
  omega
/-- the greatest gap -/
theorem great {c : List Int} (h : Coins c) : (0 < maxI (rowI c) - minI c → Gap c (maxI (rowI c) - minI c)) ∧ ∀ n, Gap c n → n ≤ maxI (rowI c) - minI c := by
  have h2 := h.L
  have ne : rowI c ≠ [] := by
    obtain ⟨p, hp⟩ := h.st.2.1
    have e : minI c / gcdL c = p := by rw [hp]; exact Int.mul_ediv_cancel_left p (by have := h.st.1; omega)
    have p1 : 1 ≤ p := by
      by_cases z : 1 ≤ p
      · exact z
      · have : gcdL c * p ≤ 0 := Int.mul_nonpos_of_nonneg_of_nonpos (by have := h.st.1; omega) (by omega)
        omega
    intro z
    have : (rowI c).length = 0 := by rw [z]; rfl
    rw [rowI, List.length_map, List.length_range, e] at this
    omega
  obtain ⟨m1, m2⟩ := maxI_spec ne
  constructor
  · intro pos
    obtain ⟨k, hk, e⟩ := row_at.mp m1
    have hl := least_k h hk
    rw [e] at hl
    refine (gap_row h).mpr ⟨k, hk, by omega, ?_, by rw [e]; omega⟩
    rw [Int.sub_emod_right, hl.rest]
  · intro n g
    obtain ⟨k, hk, n0, em, lt⟩ := (gap_row h).mp g
    have hl := least_k h hk
    have := m2 _ (row_at.mpr ⟨k, hk, rfl⟩)
    have z : (lp c (minI c) (k * gcdL c) - n) % minI c = 0 := by rw [Int.sub_emod, hl.rest, em]; simp
    have d := Int.dvd_of_emod_eq_zero z
    have := Int.le_of_dvd (by omega) d
    omega
/-- symmetric exactly if the greatest gap alone is last -/
def LastG (c : List Int) (g : Int) : Prop := Gap c g ∧ ∀ x ∈ c, Pay c (g + x)
theorem last_above {c : List Int} (h : Coins c) {B : Int} (hB : ∀ n, Gap c n → n ≤ B) {n : Int} (g : Gap c n) : ∃ s, Pay c s ∧ LastG c (n + s) := by
  have key : ∀ (k : Nat) (n : Int), (B - n).toNat ≤ k → Gap c n → ∃ s, Pay c s ∧ LastG c (n + s) := by
    intro k
    induction k with
    | zero =>
      intro n hk g
      by_cases q : ∀ x ∈ c, Pay c (n + x)
      · exact ⟨0, .zero, by rw [Int.add_zero]; exact ⟨g, q⟩⟩
      · exfalso
        simp only [Classical.not_forall] at q
        obtain ⟨x, hx, np⟩ := q
        have x1 := (h.b x hx).1
        have g2 : Gap c (n + x) := ⟨by have := g.n0; omega, Int.dvd_add g.d (gcdL_dvd hx), np⟩
        have := hB _ g2
        have := hB _ g
        omega
    | succ k ih =>
      intro n hk g
      by_cases q : ∀ x ∈ c, Pay c (n + x)
      · exact ⟨0, .zero, by rw [Int.add_zero]; exact ⟨g, q⟩⟩
      · simp only [Classical.not_forall] at q
        obtain ⟨x, hx, np⟩ := q
        have x1 := (h.b x hx).1
        have g2 : Gap c (n + x) := ⟨by have := g.n0; omega, Int.dvd_add g.d (gcdL_dvd hx), np⟩
        obtain ⟨s, p, l⟩ := ih (n + x) (by have := hB _ g2; omega) g2
        exact ⟨s + x, p.add hx, by rw [show n + (s + x) = n + x + s by omega]; exact l⟩
  exact key _ n (Nat.le_refl _) g
theorem even_iff {c : List Int} (h : Coins c) {F : Int} (gF : Gap c F) (hF : ∀ n, Gap c n → n ≤ F) : (∀ g, LastG c g → g = F) ↔ ∀ n, 0 ≤ n → n ≤ F → gcdL c ∣ n → (Pay c n ↔ ¬ Pay c (F - n)) := by
  constructor
  · intro one n n0 nF d
    constructor
    · intro p q
      have := p.plus q
      rw [show n + (F - n) = F by omega] at this
      exact gF.np this
    · intro nq
      by_cases p : Pay c n
      · exact p
      · exfalso
        obtain ⟨s, ps, l⟩ := last_above h hF (n := n) ⟨n0, d, p⟩
        have := one _ l
        exact nq (by rw [show F - n = s by omega]; exact ps)
  · intro sym g l
    by_cases e : g = F
    · exact e
    · exfalso
      have le := hF g l.1
      have p : Pay c (F - g) := by
        by_cases q : Pay c (F - g)
        · exact q
        · exact absurd ((sym g l.1.n0 le l.1.d).mpr q) l.1.np
      obtain ⟨w, hw, es⟩ := p.list
      cases w with
      | nil => simp at es; omega
      | cons x w =>
        rw [List.sum_cons] at es
        have q1 := l.2 x (hw x List.mem_cons_self)
        have q2 := Pay.sum (c := c) (l := w) fun y hy => hw y (List.mem_cons_of_mem _ hy)
        have := q1.plus q2
        rw [show g + x + w.sum = F by omega] at this
        exact gF.np this
theorem greatest_last {c : List Int} (h : Coins c) {F : Int} (gF : Gap c F) (hF : ∀ n, Gap c n → n ≤ F) : LastG c F := by
  refine ⟨gF, fun x hx => ?_⟩
  by_cases q : Pay c (F + x)
  · exact q
  · have x1 := (h.b x hx).1
    have := hF (F + x) ⟨by have := gF.n0; omega, Int.dvd_add gF.d (gcdL_dvd hx), q⟩
    omega
end K47

namespace K47
open L2 PySem PySem.Spec PyProof.Rows DL
open CM
theorem rgN_seg {e L : Int} (e0 : 0 ≤ e) (L1 : 1 ≤ L) : rgN (e % L) e L = (e / L).toNat := by
  have d := Int.emod_add_mul_ediv e L
  have m1 := Int.emod_nonneg e (show L ≠ 0 by omega)
  have m2 := Int.emod_lt_of_pos e (show 0 < L by omega)
  have q0 : 0 ≤ e / L := Int.ediv_nonneg e0 (by omega)
  unfold rgN Builtin.Range.rangeSize
  rw [if_pos (by omega)]
  by_cases z : e / L = 0
  · rw [z] at d ⊢
    rw [if_neg (by omega)]
  · have : L * 1 ≤ L * (e / L) := Int.mul_le_mul_of_nonneg_left (by omega) (by omega)
    rw [if_pos (by omega)]
    have e1 : e - e % L - 1 = (L - 1) + L * (e / L - 1) := by rw [Int.mul_sub]; omega
    rw [e1, Int.add_mul_ediv_left _ _ (by omega), Int.ediv_eq_zero_of_lt (by omega) (by omega)]
    congr 1
    omega
theorem preG_app (a b : List Int) (L : Int) : preG (a ++ b) L = preG a L ++ preG b L := by unfold preG; rw [List.flatMap_append]
theorem preG_one (e L : Int) : preG [e] L = (List.range (e / L).toNat).map fun (j : Nat) => e % L + j * L := by unfold preG; simp
theorem preG_len {L : Int} (L1 : 1 ≤ L) : ∀ row : List Int, (∀ e ∈ row, 0 ≤ e ∧ e ≤ 40000) → (preG row L).length ≤ 40000 * row.length
  | [], _ => by simp [preG]
  | e :: row, h => by
    have h1 := preG_len L1 row fun x hx => h x (List.mem_cons_of_mem _ hx)
    have h2 := h e List.mem_cons_self
    have : e / L ≤ e := Int.ediv_le_self L h2.1
    have e1 : preG (e :: row) L = preG [e] L ++ preG row L := preG_app [e] row L
    rw [e1, List.length_append, preG_one, List.length_map, List.length_range, List.length_cons]
    omega
theorem row_le {c : List Int} (h : Coins c) : ∀ e ∈ rowI c, 0 ≤ e ∧ e ≤ 40000 := fun e he => by
  refine ⟨row_nonneg h he, ?_⟩
  obtain ⟨k, hk, rfl⟩ := row_at.mp he
  have hl := least_k h hk
  have vb := hl.bound (fun x hx => (h.b x hx).1) (fun x hx => (h.b x hx).2) h.L.1 (by omega)
  have : (minI c - 1) * 200 ≤ 199 * 200 := Int.mul_le_mul_of_nonneg_right (by have := h.L.2; omega) (by omega)
  omega
theorem row_len {c : List Int} (h : Coins c) : (rowI c).length ≤ 200 := by
  have := Int.ediv_le_self (a := minI c) (gcdL c) (by have := h.L; omega)
  have := h.L
  simp [rowI]; omega
def gB2 : DSt := gExtend 1 (xLRg3 (aCons (x2 kMod (xVar 2) (xCB kMin (aCons (xVar 0) (aNil)))) (aCons (xVar 2) (aCons (xCB kMin (aCons (xVar 0) (aNil))) (aNil)))))
theorem rangeCD_zs {i c : Int} {n : Nat} : rangeCD i c n = zs ((List.range n).map fun (j : Nat) => i + j * c) := by
  unfold rangeCD
  show _ = List.map _ (List.map _ _)
  rw [List.map_map]; rfl
theorem all_gaps_eq {c : List Int} (h : Coins c) : f_all_gaps [vec c] = .ok (.own (.lst (zs (gapsI c)))) := by
  unfold f_all_gaps
  rw [runF_out]
  have hL := h.L
  have km := kMin_vec h.ne
  have rl := row_len h
  have rb := row_le h
  obtain ⟨ρ', e1, j, hj, rfl⟩ := forD_inv (bind := bName 2) (body := gB2)
    (fun n ρ => ∃ j, VS j ∧ ρ = [some (.val (vec c)), some (.own false (.lst (zs (preG ((rowI c).take n) (minI c))))), j]) (ds := zs (rowI c)) (n := 0) (ρ := [some (.val (vec c)), some (.own false (.lst [])), none])
    ⟨none, .inl rfl, by simp [preG]⟩ (fun k x ρ hd ⟨j, hj, e⟩ => by
      subst e
      rw [Nat.zero_add]
      have hk : k < (rowI c).length := by
        have := (List.getElem?_eq_some_iff.mp hd).1
        simpa using this
      have ed : x = .int (rowI c)[k] := by
        have := hd
        rw [List.getElem?_map, List.getElem?_eq_getElem hk] at this
        exact (Option.some.inj this).symm
      subst ed
      have he := rb _ (List.getElem_mem hk)
      have tk : (rowI c).take (k + 1) = (rowI c).take k ++ [(rowI c)[k]] := by rw [List.take_succ, List.getElem?_eq_getElem hk]; rfl
      generalize (rowI c)[k] = e at *
      have ok3 := small_of (i := e % minI c) (j := e) (c := minI c) (by have := Int.emod_nonneg e (show minI c ≠ 0 by omega); omega) (by have := Int.emod_lt_of_pos e (show 0 < minI c by omega); omega) (by omega) (by omega) (by omega) (by omega)
      have sg := rgN_seg he.1 hL.1
      have le : e / minI c ≤ e := Int.ediv_le_self _ he.1
      have l1 := preG_len hL.1 ((rowI c).take k) fun e he => rb e (List.mem_of_mem_take he)
      have lk : ((rowI c).take k).length ≤ 200 := by rw [List.length_take]; omega
      have l2 : (e / minI c).toNat ≤ 16777216 := by omega
      have l3 : (preG ((rowI c).take k) (minI c)).length + (e / minI c).toNat ≤ 16777216 := by omega
      have fm : e.fmod (minI c) = e % minI c := Int.fmod_eq_emod_of_nonneg _ (by omega)
      have L0 : ¬ minI c = 0 := by omega
      refine ⟨[some (.val (vec c)), some (.own false (.lst (zs (preG ((rowI c).take k) (minI c))))), some (.val (.int e))], [some (.val (vec c)), some (.own false (.lst (zs (preG ((rowI c).take (k + 1)) (minI c))))), some (.val (.int e))], by rcases hj with rfl | ⟨d, rfl⟩ <;> simp, ?_, _, .val, rfl⟩
      rw [tk, preG_app, preG_one]
      simp [gB2, km, L0, fm, ok3, sg, l2, rangeCD_zs, l3])
  have e2 : forD (bName 2) gB2 (zs (rowI c)) [some (.val (vec c)), some (.own false (.lst [])), none] = .nx [some (.val (vec c)), some (.own false (.lst (zs (preG (rowI c) (minI c))))), j] := by
    rw [e1, Nat.zero_add]
    simp
  have eb : b_all_gaps = gSeq (gSetL 1 (xLst (aNil))) (gSeq (gFor (iSeq (xCall f_row_of (aCons (xVar 0) (aNil)))) (bName 2) gB2) (gRetL (xCBL kSorted (aCons (xVar 1) (aNil))))) := rfl
  rw [eb]
  simp [startD, row_of_eq h, e2, gapsI]
noncomputable def lastI (c : List Int) : List Int := (gapsI c).filter fun g => c.all fun x => payB c (g + x)
theorem gaps_b {c : List Int} (h : Coins c) {g : Int} (hg : g ∈ gapsI c) : 1 ≤ g ∧ g < 40000 := by
  have g1 := ((gaps_spec h).2 g).mp hg
  obtain ⟨k, hk, n0, em, lt⟩ := (gap_row h).mp g1
  have := row_le h _ (row_at.mpr ⟨k, hk, rfl⟩)
  have := gap_pos g1
  omega
theorem gaps_length {c : List Int} (h : Coins c) : (gapsI c).length ≤ 40000 := by
  have nd : (gapsI c).Nodup := (gaps_spec h).1.imp fun {a b} hab => by omega
  exact nodup_len 40000 0 _ nd fun x hx => by have := gaps_b h hx; omega
theorem row_ne {c : List Int} (h : Coins c) : rowI c ≠ [] := by
  obtain ⟨p, hp⟩ := h.st.2.1
  have e : minI c / gcdL c = p := by rw [hp]; exact Int.mul_ediv_cancel_left p (by have := h.st.1; omega)
  have p1 : 1 ≤ p := by
    by_cases z : 1 ≤ p
    · exact z
    · have : gcdL c * p ≤ 0 := Int.mul_nonpos_of_nonneg_of_nonpos (by have := h.st.1; omega) (by omega)
      have := h.L.1
      omega
  intro z
  have : (rowI c).length = 0 := by rw [z]; rfl
  rw [rowI, List.length_map, List.length_range, e] at this
  omega
theorem gaps_eq {c : List Int} (hl : c.length ≤ 1000) : f_gaps [vec c] = if coinsOk c = true then .ok (.own (.lst (zs (gapsI c)))) else .err ⟨"BadNumber", none⟩ := by
  unfold f_gaps
  rw [runF_out]
  by_cases q : coinsOk c = true
  · simp [b_gaps, startD, check_coins_eq hl, q, all_gaps_eq (coins_of q)]
  · simp [b_gaps, startD, check_coins_eq hl, q]
theorem gap_count_eq {c : List Int} (hl : c.length ≤ 1000) : f_gap_count [vec c] = if coinsOk c = true then .ok (.val (.int (gapsI c).length)) else .err ⟨"BadNumber", none⟩ := by
  unfold f_gap_count
  rw [runF_out]
  by_cases q : coinsOk c = true
  · have h := coins_of q
    have hL := h.L
    have km := kMin_vec h.ne
    have rl : (rowI c).length ≤ 16777216 := by have := row_len h; omega
    have dok : divOk (minI c) = true := divOk_of (by omega) (by omega)
    have gl := gaps_len h
    have fd : ∀ e : Int, e.fdiv (minI c) = e / minI c := fun e => Int.fdiv_eq_ediv_of_nonneg _ (by omega)
    have ks : kSum [.list ((rowI c).map fun e => PyData.int (e / minI c))] = some (.int ((rowI c).map fun e => e / minI c).sum) := kSum_ints
    simp [b_gap_count, startD, check_coins_eq hl, q, row_of_eq h, km, dok, rl, fd, ks, gl]
  · simp [b_gap_count, startD, check_coins_eq hl, q]
theorem greatest_gap_eq {c : List Int} (hl : c.length ≤ 1000) : f_greatest_gap [vec c] = if coinsOk c = true then .ok (.val (if minI c < maxI (rowI c) then .int (maxI (rowI c) - minI c) else .none)) else .err ⟨"BadNumber", none⟩ := by
  unfold f_greatest_gap
  rw [runF_out]
  by_cases q : coinsOk c = true
  · have h := coins_of q
    have km := kMin_vec h.ne
    have kx := kMax_list (row_ne h)
    by_cases z : minI c < maxI (rowI c)
    · simp [b_greatest_gap, startD, check_coins_eq hl, q, row_of_eq h, km, kx, z]
    · simp [b_greatest_gap, startD, check_coins_eq hl, q, row_of_eq h, km, kx, z]
  · simp [b_greatest_gap, startD, check_coins_eq hl, q]
theorem last_gaps_eq {c : List Int} (hl : c.length ≤ 1000) : f_last_gaps [vec c] = if coinsOk c = true then .ok (.own (.lst (zs (lastI c)))) else .err ⟨"BadNumber", none⟩ := by
  unfold f_last_gaps
  rw [runF_out]
  by_cases q : coinsOk c = true
  · have h := coins_of q
    have cl : c.length ≤ 16777216 := by omega
    have gl : (gapsI c).length ≤ 16777216 := by have := gaps_length h; omega
    have ka : ∀ g : Int, kAll [.list (c.map fun x => PyData.bool (payB c (g + x)))] = some (.bool (c.all fun x => payB c (g + x))) := fun g => kAll_bools
    simp [b_last_gaps, startD, check_coins_eq hl, q, row_of_eq h, all_gaps_eq h, pays_eq h, cl, ka, gl, lastI]
    refine congrArg (List.map PyData.int) (List.filter_congr fun g _ => ?_)
    rw [Bool.eq_iff_iff]; simp
  · simp [b_last_gaps, startD, check_coins_eq hl, q]
theorem is_even_handed_eq {c : List Int} (hl : c.length ≤ 1000) : f_is_even_handed [vec c] = if coinsOk c = true then .ok (.val (.bool (decide ((lastI c).length = 1)))) else .err ⟨"BadNumber", none⟩ := by
  unfold f_is_even_handed
  rw [runF_out]
  by_cases q : coinsOk c = true
  · by_cases z : (lastI c).length = 1
    · have z' : ((lastI c).length : Int) = 1 := by omega
      simp [b_is_even_handed, startD, last_gaps_eq hl, q, z, z']
    · have z' : ¬ ((lastI c).length : Int) = 1 := by omega
      simp [b_is_even_handed, startD, last_gaps_eq hl, q, z, z']
  · simp [b_is_even_handed, startD, last_gaps_eq hl, q]
theorem told_bad {c : List Int} (hl : c.length ≤ 1000) (q : coinsOk c = false) (k : Nat) (hk : k < 5) : f_u_law_told [.int k, vec c] = .ok (.val (.str "!number")) := by
  unfold f_u_law_told
  rw [runF_out]
  have : k = 0 ∨ k = 1 ∨ k = 2 ∨ k = 3 ∨ k = 4 := by omega
  rcases this with rfl | rfl | rfl | rfl | rfl <;> simp [b_u_law_told, startD, h_u_law_told, gaps_eq hl, gap_count_eq hl, greatest_gap_eq hl, last_gaps_eq hl, is_even_handed_eq hl, q, atI, ixN]
noncomputable def toldI (c : List Int) : Nat → D
  | 0 => .list (zs (gapsI c))
  | 1 => .int (gapsI c).length
  | 2 => if minI c < maxI (rowI c) then .int (maxI (rowI c) - minI c) else .none
  | 3 => .list (zs (lastI c))
  | _ => .bool (decide ((lastI c).length = 1))
theorem told_ok {c : List Int} (h : Coins c) (k : Nat) (hk : k < 5) : f_u_law_told [.int k, vec c] = .ok (.val (toldI c k)) := by
  unfold f_u_law_told
  rw [runF_out]
  have hl : c.length ≤ 1000 := by have := h.l6; omega
  have q := of_coins h
  have : k = 0 ∨ k = 1 ∨ k = 2 ∨ k = 3 ∨ k = 4 := by omega
  rcases this with rfl | rfl | rfl | rfl | rfl <;> simp [b_u_law_told, startD, h_u_law_told, gaps_eq hl, gap_count_eq hl, greatest_gap_eq hl, last_gaps_eq hl, is_even_handed_eq hl, q, atI, ixN, toldI]
end K47

namespace K47
open L2 PySem PySem.Spec PyProof.Rows DL
open CM
theorem isIo_v {d : D} : isIo (some (some (.val d))) = false := (Eq.refl _).trans (Eq.refl _)
theorem isIo_n : isIo (some none) = false := (Eq.refl _).trans (Eq.refl _)
theorem isIo_f {c : Cell} : isIo (some (some (.own false c))) = false := (Eq.refl _).trans (Eq.refl _)
theorem fm_filter {α : Type} {f : α → Int} {p : Int → Bool} : ∀ l : List α, (l.filterMap fun k => if p (f k) = true then none else some (PyData.int (f k))) = zs ((l.map f).filter fun n => !p n)
  | [] => rfl
  | a :: l => by
    have ih := fm_filter (f := f) (p := p) l
    rw [List.filterMap_cons, List.map_cons, List.filter_cons, ih]
    by_cases h : p (f a) = true <;> simp [h]
theorem table_at {c : List Int} {N : Nat} {a : Int} (a0 : 0 ≤ a) (al : a < N) : atI (tabD c N) a = some (.bool (payB c a)) := by
  rw [atI_int a0, tabD, List.getElem?_map, List.getElem?_range (by omega)]
  have e : ((a.toNat : Nat) : Int) = a := by omega
  show some (PyData.bool (payB c ((a.toNat : Nat) : Int))) = _
  rw [e]
theorem gaps_30 {c : List Int} (h : Coins c) (hb : ∀ x ∈ c, x ≤ 30) {g : Int} (hg : Gap c g) : 1 ≤ g ∧ g < 870 := by
  obtain ⟨k, hk, n0, em, lt⟩ := (gap_row h).mp hg
  have hl := least_k h hk
  have L30 := hb _ h.min
  have L1 := h.L.1
  have vb := hl.bound (fun x hx => (h.b x hx).1) hb L1 (by omega)
  have : (minI c - 1) * 30 ≤ 29 * 30 := Int.mul_le_mul_of_nonneg_right (by omega) (by omega)
  have := gap_pos hg
  omega
theorem rgN_up {r M L : Int} (L1 : 1 ≤ L) (hr : r < M) (j : Nat) : j < rgN r M L ↔ r + j * L < M := by
  unfold rgN Builtin.Range.rangeSize
  rw [if_pos (by omega), if_pos hr]
  have d0 : 0 ≤ (M - r - 1) / L := Int.ediv_nonneg (by omega) (by omega)
  have e : j < ((M - r - 1) / L + 1).toNat ↔ (j : Int) ≤ (M - r - 1) / L := by omega
  rw [e, Int.le_ediv_iff_mul_le (by omega)]
  omega
/-- the gaps as the law counts them -/
theorem due_gaps {c : List Int} (h : Coins c) (hb : ∀ x ∈ c, x ≤ 30) : (((List.range (rgN (gcdL c) 1001 (gcdL c))).map fun (k : Nat) => gcdL c + k * gcdL c).filter fun n => !payB c n) = gapsI c := by
  obtain ⟨s1, s2⟩ := gaps_spec h
  have st := h.st
  refine sorted_uniq (List.Pairwise.filter _ ?_) s1 fun n => ?_
  · refine List.Pairwise.map _ (R := (· < ·)) (fun a b hab => ?_) List.pairwise_lt_range
    have : (a : Int) * gcdL c < b * gcdL c := Int.mul_lt_mul_of_pos_right (by omega) (by omega)
    omega
  · rw [s2, List.mem_filter]
    constructor
    · rintro ⟨hn, np⟩
      obtain ⟨k, hk, rfl⟩ := List.mem_map.mp hn
      have k0 : 0 ≤ (k : Int) * gcdL c := Int.mul_nonneg (by omega) (by omega)
      refine ⟨by omega, Int.dvd_add (Int.dvd_refl _) (Int.dvd_mul_left ..), fun p => ?_⟩
      rw [payB_iff.mpr p] at np
      simp at np
    · intro g
      have gb := gaps_30 h hb g
      obtain ⟨q, hq⟩ := g.d
      have q1 : 1 ≤ q := by
        by_cases z : 1 ≤ q
        · exact z
        · have : gcdL c * q ≤ 0 := Int.mul_nonpos_of_nonneg_of_nonpos (by omega) (by omega)
          omega
      have e : gcdL c + (((q - 1).toNat : Nat) : Int) * gcdL c = n := by
        rw [show (((q - 1).toNat : Nat) : Int) = q - 1 by omega, Int.sub_mul, Int.one_mul, Int.mul_comm]
        omega
      refine ⟨List.mem_map.mpr ⟨(q - 1).toNat, List.mem_range.mpr ((rgN_up st.1 (by omega) _).mpr (by omega)), e⟩, ?_⟩
      have : payB c n = false := by
        have np := g.np
        simp [payB, np]
      rw [this]; rfl
theorem last_is {l : List Int} {F : Int} : l.Pairwise (· < ·) → F ∈ l → (∀ n ∈ l, n ≤ F) → l.getLast? = some F := by
  intro hl hF hm
  rcases List.eq_nil_or_concat l with rfl | ⟨l', x, rfl⟩
  · simp at hF
  · rw [List.concat_eq_append] at *
    rw [List.getLast?_append]
    simp
    rw [List.pairwise_append] at hl
    have := hm x (by simp)
    rcases List.mem_append.mp hF with h | h
    · have := hl.2.2 F h x (by simp); omega
    · simp at h; exact h.symm
theorem atI_last {l : List D} {d : D} (h : l.getLast? = some d) : atI l (-1) = some d := by
  rw [List.getLast?_eq_getElem?] at h
  have hl : 0 < l.length := by
    cases l with
    | nil => simp at h
    | cons _ _ => simp
  unfold atI ixN
  have e1 : ¬ (0 : Int) ≤ -1 := by decide
  have e2 : -(l.length : Int) ≤ -1 := by omega
  have e3 : (-1 + (l.length : Int)).toNat = l.length - 1 := by omega
  simp [e1, e2, e3, h, hl]
noncomputable def grI (c : List Int) : D := if minI c < maxI (rowI c) then .int (maxI (rowI c) - minI c) else .none
theorem gr_some {c : List Int} (h : Coins c) (z : minI c < maxI (rowI c)) : (gapsI c).getLast? = some (maxI (rowI c) - minI c) := by
  obtain ⟨s1, s2⟩ := gaps_spec h
  obtain ⟨g1, g2⟩ := great h
  exact last_is s1 ((s2 _).mpr (g1 (by omega))) fun n hn => g2 n ((s2 n).mp hn)
theorem gr_none {c : List Int} (h : Coins c) (z : ¬ minI c < maxI (rowI c)) : gapsI c = [] := by
  obtain ⟨s1, s2⟩ := gaps_spec h
  obtain ⟨g1, g2⟩ := great h
  cases q : gapsI c with
  | nil => rfl
  | cons x l =>
    have gx := (s2 x).mp (by rw [q]; exact List.mem_cons_self)
    have := g2 x gx
    have := gap_pos gx
    omega
@[simp] theorem kNe_bool {a b : Bool} : kNe (.bool a) (.bool b) = some (a != b) := by cases a <;> cases b <;> rfl
/-- even-handed -/
theorem law_even_eq {c : List Int} (h : Coins c) (hb : ∀ x ∈ c, x ≤ 30) : f_u_law_is_even [.list (tabD c 1101), .int (gcdL c), grI c] = .ok (.val (.bool (decide ((lastI c).length = 1)))) := by
  unfold f_u_law_is_even
  rw [runF_out]
  by_cases z : minI c < maxI (rowI c)
  · have eg : grI c = .int (maxI (rowI c) - minI c) := if_pos z
    obtain ⟨g1, g2⟩ := great h
    have gF := g1 (by omega)
    have fb := gaps_30 h hb gF
    rw [eg]
    generalize maxI (rowI c) - minI c = F at *
    have st := h.st
    have ok3 := small_of (i := 0) (j := F + 1) (c := gcdL c) (by omega) (by omega) (by omega) (by omega) (by omega) (by omega)
    have up := fun j => rgN_up (r := 0) (M := F + 1) st.1 (by omega) j
    have sz : rgN 0 (F + 1) (gcdL c) ≤ 16777216 := by
      by_cases q : rgN 0 (F + 1) (gcdL c) ≤ 16777216
      · exact q
      · have := (up 16777216).mp (by omega)
        have : (16777216 : Int) * 1 ≤ ((16777216 : Nat) : Int) * gcdL c := Int.mul_le_mul_of_nonneg_left (by omega) (by omega)
        omega
    have one : decide ((lastI c).length = 1) = ((List.range (rgN 0 (F + 1) (gcdL c))).all fun (k : Nat) => payB c (k * gcdL c) != payB c (F - k * gcdL c)) := by
      obtain ⟨s1, s2⟩ := gaps_spec h
      have nd : (lastI c).Nodup := ((s1.filter _).imp fun {a b} hab => by omega : ((gapsI c).filter _).Pairwise (· ≠ ·))
      have mem : ∀ g, g ∈ lastI c ↔ LastG c g := fun g => by
        unfold lastI
        rw [List.mem_filter, s2, List.all_eq_true]
        exact ⟨fun ⟨a, b⟩ => ⟨a, fun x hx => payB_iff.mp (b x hx)⟩, fun ⟨a, b⟩ => ⟨a, fun x hx => payB_iff.mpr (b x hx)⟩⟩
      have lF := (mem F).mpr (greatest_last h gF g2)
      rw [Bool.eq_iff_iff, decide_eq_true_eq, List.all_eq_true]
      have ev := even_iff h gF g2
      have a1 : (lastI c).length = 1 ↔ ∀ g, LastG c g → g = F := by
        constructor
        · intro e g hg
          obtain ⟨y, hy⟩ := List.length_eq_one_iff.mp e
          have a := (mem g).mpr hg
          rw [hy] at a lF
          simp at a lF
          omega
        · intro all
          have l1 := nodup_len 1 F (lastI c) nd fun x hx => by have := all x ((mem x).mp hx); omega
          have := List.length_pos_of_mem lF
          omega
      rw [a1, ev]
      constructor
      · intro sym k hk
        have hk' := (up k).mp (List.mem_range.mp hk)
        have k0 : 0 ≤ (k : Int) * gcdL c := Int.mul_nonneg (by omega) (by omega)
        have := sym (k * gcdL c) k0 (by omega) (Int.dvd_mul_left ..)
        rw [← payB_iff, ← payB_iff] at this
        cases q : payB c (k * gcdL c) <;> cases q2 : payB c (F - k * gcdL c) <;> simp [q, q2] at this ⊢
      · intro all n n0 nF d
        obtain ⟨q, hq⟩ := d
        have q0 : 0 ≤ q := by
          by_cases z : 0 ≤ q
          · exact z
          · have := Int.mul_neg_of_pos_of_neg (a := gcdL c) (b := q) (by omega) (by omega)
            omega
        have e : ((q.toNat : Nat) : Int) * gcdL c = n := by rw [show ((q.toNat : Nat) : Int) = q by omega, Int.mul_comm]; omega
        have := all q.toNat (List.mem_range.mpr ((up _).mpr (by omega)))
        rw [e] at this
        rw [← payB_iff, ← payB_iff]
        cases q : payB c n <;> cases q2 : payB c (F - n) <;> simp [q, q2] at this ⊢
    have ka : kAll [.list ((List.range (rgN 0 (F + 1) (gcdL c))).map fun (k : Nat) => PyData.bool (payB c (k * gcdL c) != payB c (F - k * gcdL c)))] = some (.bool ((List.range (rgN 0 (F + 1) (gcdL c))).all fun (k : Nat) => payB c (k * gcdL c) != payB c (F - k * gcdL c))) := kAll_bools
    simp [b_u_law_is_even, startD, ok3, rangeCD_map]
    rw [compX_eq (g := fun (k : Nat) => some (PyData.bool (payB c (k * gcdL c) != payB c (F - k * gcdL c)))) (fun k hk => by
      have hk' := (up k).mp (List.mem_range.mp hk)
      have k0 : 0 ≤ (k : Int) * gcdL c := Int.mul_nonneg (by omega) (by omega)
      have t1 := table_at (c := c) (N := 1101) (a := k * gcdL c) k0 (by omega)
      have t2 := table_at (c := c) (N := 1101) (a := F - k * gcdL c) (by omega) (by omega)
      simp [t1, t2]) (by rw [List.length_range]; exact sz)]
    rw [List.filterMap_eq_map']
    simp [ka, one]
  · have eg : grI c = .none := if_neg z
    have e0 := gr_none h z
    rw [eg]
    simp [b_u_law_is_even, startD, lastI, e0]
end K47

namespace K47
open L2 PySem PySem.Spec PyProof.Rows DL
noncomputable def u0 : DSt := gSet 3 (xCallI f_u_law_coins (aCons (xVar 1) (aNil)))
noncomputable def u1 : DSt := gSet 4 (xCall f_u_law_step (aCons (xVar 3) (aNil)))
noncomputable def u2 : DSt := gSet 5 (xCall f_u_law_table (aCons (xVar 3) (aCons (xC (.int 1100)) (aNil))))
noncomputable def u3 : DSt := gSetL 6 (xComp (iRange3 (aCons (xVar 4) (aCons (xC (.int 1001)) (aCons (xVar 4) (aNil))))) [11] (bName 11) (xtNot (xTr (x2 kIx (xVar 5) (xVar 11)))) (xVar 11))
noncomputable def u4 : DSt := gSet 7 (xIf (xTr (xVar 6)) (x2 kIx (xVar 6) (x1 kNeg (xC (.int 1)))) (xC .none))
noncomputable def u5 : DSt := gSetL 8 (xComp (iSeq (xVar 6)) [12] (bName 12) (xTr (xCB kAll (aCons (ofL (xComp (iSeq (xVar 3)) [13] (bName 13) (tTrue) (x2 kIx (xVar 5) (x2 kAdd (xVar 12) (xVar 13))))) (aNil)))) (xVar 12))
noncomputable def u6 : DSt := gSetL 9 (xComp (iRange1 (aCons (xC (.int 5)) (aNil))) [14] (bName 14) (tTrue) (xCall f_u_law_told (aCons (xVar 14) (aCons (xVar 3) (aNil)))))
noncomputable def u7 : DSt := gIf (xt2 kNe (xCB kRepr (aCons (xVar 9) (aNil))) (xCB kRepr (aCons (ofL (xLst (aCons (xVar 6) (aCons (xCB kLen (aCons (xVar 6) (aNil))) (aCons (xVar 7) (aCons (xVar 8) (aCons (xCall f_u_law_is_even (aCons (xVar 5) (aCons (xVar 4) (aCons (xVar 7) (aNil))))) (aNil)))))))) (aNil)))) (gRet (xC (.bool false))) (gNext)
noncomputable def uB : DSt := gSeq (u0) (gSeq (u1) (gSeq (u2) (gSeq (u3) (gSeq (u4) (gSeq (u5) (gSeq (u6) (u7)))))))
noncomputable def lS3 : DSt := gSetL 10 (xComp (iSeq (ofL (xLst (aCons (xTup (aCons (xC (.int 3)) (aCons (xC (.int 5)) (aNil)))) (aCons (xTup (aCons (xC (.int 4)) (aCons (xC (.int 6)) (aNil)))) (aCons (xTup (aCons (xC (.int 3)) (aCons (xC (.int 4)) (aCons (xC (.int 5)) (aNil))))) (aCons (xTup (aCons (xC (.int 1)) (aCons (xC (.int 7)) (aNil)))) (aNil)))))))) [15] (bName 15) (tTrue) (ofL (xComp (iRange1 (aCons (xC (.int 5)) (aNil))) [14] (bName 14) (tTrue) (xCall f_u_law_told (aCons (xVar 14) (aCons (xVar 15) (aNil)))))))
noncomputable def lS4 : DSt := gSet 6 (ofL (xLst (aCons (ofL (xLst (aCons (ofL (xLst (aCons (xC (.int 1)) (aCons (xC (.int 2)) (aCons (xC (.int 4)) (aCons (xC (.int 7)) (aNil))))))) (aCons (xC (.int 4)) (aCons (xC (.int 7)) (aCons (ofL (xLst (aCons (xC (.int 7)) (aNil)))) (aCons (xC (.bool true)) (aNil)))))))) (aCons (ofL (xLst (aCons (ofL (xLst (aCons (xC (.int 2)) (aNil)))) (aCons (xC (.int 1)) (aCons (xC (.int 2)) (aCons (ofL (xLst (aCons (xC (.int 2)) (aNil)))) (aCons (xC (.bool true)) (aNil)))))))) (aCons (ofL (xLst (aCons (ofL (xLst (aCons (xC (.int 1)) (aCons (xC (.int 2)) (aNil))))) (aCons (xC (.int 2)) (aCons (xC (.int 2)) (aCons (ofL (xLst (aCons (xC (.int 1)) (aCons (xC (.int 2)) (aNil))))) (aCons (xC (.bool false)) (aNil)))))))) (aCons (ofL (xLst (aCons (ofL (xLst (aNil))) (aCons (xC (.int 0)) (aCons (xC .none) (aCons (ofL (xLst (aNil))) (aCons (xC (.bool false)) (aNil)))))))) (aNil)))))))
noncomputable def lS5 : DSt := gIf (xt2 kNe (xCB kRepr (aCons (xVar 10) (aNil))) (xCB kRepr (aCons (xVar 6) (aNil)))) (gRet (xC (.bool false))) (gNext)
noncomputable def lS6 : DSt := gRet (x2 (kB kEq) (ofL (xComp (iRange1 (aCons (xC (.int 5)) (aNil))) [14] (bName 14) (tTrue) (xCall f_u_law_told (aCons (xVar 14) (aCons (xTup (aCons (xC (.int 0)) (aCons (xC (.int 3)) (aNil)))) (aNil)))))) (ofL (xRepL (xLst (aCons (xC (.str "!number")) (aNil))) (xC (.int 5)))))
theorem b_law_eq : b_law = gSeq (gSetL 1 (xCallL f_u_law_draws (aCons (xVar 0) (aNil)))) (gSeq (gSetL 1 (xCallIL f_u_law_more (aCons (xVar 1) (aCons (xC (.int 20)) (aNil))))) (gSeq (gFor (iRange1 (aCons (xC (.int 2)) (aNil))) (bName 2) uB) (gSeq (lS3) (gSeq (lS4) (gSeq (lS5) (lS6)))))) := rfl
open CM
abbrev qE (s d t c st tab due gr la told kn j14 : Option SV) : DEnv := [s, d, t, c, st, tab, due, gr, la, told, kn, none, none, none, j14, none]
theorem u0_eq {s t j3 j4 j5 j6 j7 j8 j9 kn j14 : Option SV} {xs ys : List Int} {c : List Int} (e : f_u_law_coins (zs xs) [] = some (.val (vec c), zs ys)) (h3 : isIo (some j3) = false) :
    u0 (qE s (some (.own false (.lst (zs xs)))) t j3 j4 j5 j6 j7 j8 j9 kn j14) = .nx (qE s (some (.own false (.lst (zs ys)))) t (some (.val (vec c))) j4 j5 j6 j7 j8 j9 kn j14) := by
  simp [u0, qE, e, h3, -isIo_some]
theorem u12_eq {s d t j4 j5 j6 j7 j8 j9 kn j14 : Option SV} {c : List Int} (h : Coins c) (h4 : isIo (some j4) = false) :
    u1 (qE s d t (some (.val (vec c))) j4 j5 j6 j7 j8 j9 kn j14) = .nx (qE s d t (some (.val (vec c))) (some (.val (.int (gcdL c)))) j5 j6 j7 j8 j9 kn j14) := by
  have e := law_step_eq (c := c) fun x hx => by have := h.b x hx; omega
  simp [u1, qE, e, h4, -isIo_some]
theorem u2_eq {s d t st j5 j6 j7 j8 j9 kn j14 : Option SV} {c : List Int} (h : Coins c) (h5 : isIo (some j5) = false) :
    u2 (qE s d t (some (.val (vec c))) st j5 j6 j7 j8 j9 kn j14) = .nx (qE s d t (some (.val (vec c))) st (some (.val (.list (tabD c 1101)))) j6 j7 j8 j9 kn j14) := by
  have e : f_u_law_table [vec c, .int 1100] = .ok (.own (.lst (tabD c 1101))) := table_eq (c := c) (fun x hx => (h.b x hx).1) (by have := h.l6; omega) (m := 1100) (by omega)
  simp [u2, qE, e, h5, -isIo_some]
theorem u3_eq {s d t j6 j7 j8 j9 kn j14 : Option SV} {c : List Int} (h : Coins c) (hb : ∀ x ∈ c, x ≤ 30) (h6 : isIo (some j6) = false) :
    u3 (qE s d t (some (.val (vec c))) (some (.val (.int (gcdL c)))) (some (.val (.list (tabD c 1101)))) j6 j7 j8 j9 kn j14) = .nx (qE s d t (some (.val (vec c))) (some (.val (.int (gcdL c)))) (some (.val (.list (tabD c 1101)))) (some (.own false (.lst (zs (gapsI c))))) j7 j8 j9 kn j14) := by
  have st := h.st
  have ok3 := small_of (i := gcdL c) (j := 1001) (c := gcdL c) (by omega) (by omega) (by omega) (by omega) (by omega) (by omega)
  have up := fun j => rgN_up (r := gcdL c) (M := 1001) st.1 (by omega) j
  have sz : rgN (gcdL c) 1001 (gcdL c) ≤ 16777216 := by
    by_cases q : rgN (gcdL c) 1001 (gcdL c) ≤ 16777216
    · exact q
    · have := (up 16777216).mp (by omega)
      have : (16777216 : Int) * 1 ≤ ((16777216 : Nat) : Int) * gcdL c := Int.mul_le_mul_of_nonneg_left (by omega) (by omega)
      omega
  simp [u3, qE, ok3, rangeCD_map, -isIo_some, isOwn_none]
  rw [compX_eq (g := fun (k : Nat) => if payB c (gcdL c + k * gcdL c) = true then none else some (PyData.int (gcdL c + k * gcdL c))) (fun k hk => by
    have hk' := (up k).mp (List.mem_range.mp hk)
    have k0 : 0 ≤ (k : Int) * gcdL c := Int.mul_nonneg (by omega) (by omega)
    have t1 := table_at (c := c) (N := 1101) (a := gcdL c + k * gcdL c) (by omega) (by omega)
    by_cases q : payB c (gcdL c + k * gcdL c) = true <;> simp [t1, q]) (by rw [List.length_range]; exact sz)]
  rw [fm_filter (f := fun (k : Nat) => gcdL c + k * gcdL c) (p := payB c), due_gaps h hb]
  simp [h6, -isIo_some]
theorem u4_eq {s d t st tab j7 j8 j9 kn j14 : Option SV} {c : List Int} (h : Coins c) (h7 : isIo (some j7) = false) :
    u4 (qE s d t (some (.val (vec c))) st tab (some (.own false (.lst (zs (gapsI c))))) j7 j8 j9 kn j14) = .nx (qE s d t (some (.val (vec c))) st tab (some (.own false (.lst (zs (gapsI c))))) (some (.val (grI c))) j8 j9 kn j14) := by
  by_cases z : minI c < maxI (rowI c)
  · have gs := gr_some h z
    have ne : gapsI c ≠ [] := fun e => by rw [e] at gs; simp at gs
    have al : atI (zs (gapsI c)) (-1) = some (.int (maxI (rowI c) - minI c)) := atI_last (by rw [List.getLast?_map, gs]; rfl)
    simp [u4, qE, ne, al, grI, z, h7, -isIo_some]
  · have e0 := gr_none h z
    simp [u4, qE, e0, grI, z, h7, -isIo_some]
theorem u5_eq {s d t st gr j8 j9 kn j14 : Option SV} {c : List Int} (h : Coins c) (hb : ∀ x ∈ c, x ≤ 30) (h8 : isIo (some j8) = false) :
    u5 (qE s d t (some (.val (vec c))) st (some (.val (.list (tabD c 1101)))) (some (.own false (.lst (zs (gapsI c))))) gr j8 j9 kn j14) = .nx (qE s d t (some (.val (vec c))) st (some (.val (.list (tabD c 1101)))) (some (.val (.list (zs (gapsI c))))) gr (some (.own false (.lst (zs (lastI c))))) j9 kn j14) := by
  have gl := gaps_length h
  have gl2 : (gapsI c).length ≤ 16777216 := by omega
  have cl := h.l6
  have ka : ∀ g : Int, kAll [.list (c.map fun x => PyData.bool (payB c (g + x)))] = some (.bool (c.all fun x => payB c (g + x))) := fun g => kAll_bools
  simp [u5, qE, -isIo_some, isOwn_none, isIo_f]
  rw [compX_eq (g := fun g => if (c.all fun x => payB c (g + x)) = true then some (PyData.int g) else none) (fun g hg => by
    have gb := gaps_30 h hb (((gaps_spec h).2 g).mp hg)
    rw [compX_eq (g := fun x => some (PyData.bool (payB c (g + x)))) (fun x hx => by
      have xb := hb x hx
      have x1 := (h.b x hx).1
      have t1 := table_at (c := c) (N := 1101) (a := g + x) (by omega) (by omega)
      simp [t1]) (by rw [sizeLine_eq]; omega)]
    rw [List.filterMap_eq_map']
    by_cases q : (c.all fun x => payB c (g + x)) = true
    · simp [ka, q]
    · simp [ka, q]) (by rw [sizeLine_eq]; exact gl2)]
  have e : (gapsI c).filterMap (fun g => if (c.all fun x => payB c (g + x)) = true then some (PyData.int g) else none) = zs (lastI c) := by
    unfold lastI
    induction gapsI c with
    | nil => rfl
    | cons a l ih =>
      rw [List.filterMap_cons, List.filter_cons, ih]
      by_cases q : (c.all fun x => payB c (a + x)) = true <;> simp [q]
  rw [e]
  simp [h8, -isIo_some]
end K47

namespace K47
open L2 PySem PySem.Spec PyProof.Rows DL
open CM
theorem told_range (c : List Int) : (List.range 5).map (toldI c) = [.list (zs (gapsI c)), .int (gapsI c).length, grI c, .list (zs (lastI c)), .bool (decide ((lastI c).length = 1))] := rfl
theorem u6_eq {s d t st tab due gr la j9 kn : Option SV} {c : List Int} (h : Coins c) (h9 : isIo (some j9) = false) :
    u6 (qE s d t (some (.val (vec c))) st tab due gr la j9 kn none) = .nx (qE s d t (some (.val (vec c))) st tab due gr la (some (.own false (.lst [.list (zs (gapsI c)), .int (gapsI c).length, grI c, .list (zs (lastI c)), .bool (decide ((lastI c).length = 1))]))) kn none) := by
  rw [← told_range]
  unfold u6
  have hc : xComp (DL.iRange1 (aCons (xC (.int 5)) (aNil))) [14] (bName 14) (tTrue) (xCall f_u_law_told (aCons (xVar 14) (aCons (xVar 3) (aNil)))) (qE s d t (some (.val (vec c))) st tab due gr la j9 kn none) = .ok (.lst ((List.range 5).map (toldI c))) (qE s d t (some (.val (vec c))) st tab due gr la j9 kn none) := by
    refine xComp_of_map (e := fun (k : Nat) => PyData.int (k : Int)) (iRange1_nat (n := 5) (by simp) (by omega)) (by simp [qE]) (by simp) fun k hk => ?_
    have := told_ok h k (List.mem_range.mp hk)
    simp [qE, this]
  rw [gSetL_ap, hc, bindF_ok]
  simp [qE, h9, -isIo_some]
theorem sum_w {l : List Int} (h : ∀ n ∈ l, n.natAbs < 2 ^ 64) (hl : l.length ≤ 1000) : PyData.weightAll (zs l) ≤ 65000 := by
  have := weight_ints l h
  show PyData.weightAll (l.map PyData.int) ≤ 65000
  omega
theorem gaps_900 {c : List Int} (h : Coins c) (hb : ∀ x ∈ c, x ≤ 30) : (gapsI c).length ≤ 900 ∧ (∀ n ∈ gapsI c, n.natAbs < 2 ^ 64) ∧ (lastI c).length ≤ 900 ∧ ∀ n ∈ lastI c, n.natAbs < 2 ^ 64 := by
  obtain ⟨s1, s2⟩ := gaps_spec h
  have nd : (gapsI c).Nodup := s1.imp fun {a b} hab => by omega
  have l1 := nodup_len 900 0 (gapsI c) nd fun x hx => by have := gaps_30 h hb ((s2 x).mp hx); omega
  have b1 : ∀ n ∈ gapsI c, n.natAbs < 2 ^ 64 := fun n hn => by have := gaps_30 h hb ((s2 n).mp hn); omega
  have l2 : (lastI c).length ≤ (gapsI c).length := List.length_filter_le _ _
  exact ⟨l1, b1, by omega, fun n hn => b1 n (List.mem_filter.mp hn).1⟩
theorem told_repr {c : List Int} (h : Coins c) (hb : ∀ x ∈ c, x ≤ 30) : ∃ z, kRepr [.list [.list (zs (gapsI c)), .int (gapsI c).length, grI c, .list (zs (lastI c)), .bool (decide ((lastI c).length = 1))]] = some (.str z) := by
  obtain ⟨l1, b1, l2, b2⟩ := gaps_900 h hb
  have t1 := tiny_ints _ b1
  have t2 := tiny_ints _ b2
  have t3 := tiny_int (n := ((gapsI c).length : Int)) (by omega)
  have w1 := sum_w b1 (by omega)
  have w2 := sum_w b2 (by omega)
  have w3 := weight_int (n := ((gapsI c).length : Int)) (by omega)
  have g : tiny (grI c) = true ∧ (grI c).depth = 0 ∧ (grI c).weight ≤ 64 := by
    unfold grI
    split
    · rename_i z
      have gF := (great h).1 (by omega)
      have fb := gaps_30 h hb gF
      exact ⟨tiny_int (by omega), rfl, weight_int (by omega)⟩
    · exact ⟨rfl, rfl, by simp [PyData.weight]⟩
  refine ⟨_, kRepr_tiny ?_ ?_ ?_⟩
  · have q1 : tiny (.list (zs (gapsI c))) = true := t1
    have q2 : tiny (.list (zs (lastI c))) = true := t2
    show (tiny (.list (zs (gapsI c))) && (tiny (.int ((gapsI c).length : Int)) && (tiny (grI c) && (tiny (.list (zs (lastI c))) && (tiny (.bool _) && true))))) = true
    rw [q1, t3, g.1, q2]; rfl
  · simp [PyData.depth, PyData.depthAll, depth_ints, g.2.1]
  · have wb : PyData.weight (.bool (decide ((lastI c).length = 1))) = 0 := rfl
    simp only [PyData.weight, PyData.weightAll] at w3 ⊢
    omega
theorem u7_eq {s d t kn : Option SV} {c : List Int} (h : Coins c) (hb : ∀ x ∈ c, x ≤ 30) :
    u7 (qE s d t (some (.val (vec c))) (some (.val (.int (gcdL c)))) (some (.val (.list (tabD c 1101)))) (some (.val (.list (zs (gapsI c))))) (some (.val (grI c))) (some (.own false (.lst (zs (lastI c))))) (some (.own false (.lst [.list (zs (gapsI c)), .int (gapsI c).length, grI c, .list (zs (lastI c)), .bool (decide ((lastI c).length = 1))]))) kn none) =
    .nx (qE s d t (some (.val (vec c))) (some (.val (.int (gcdL c)))) (some (.val (.list (tabD c 1101)))) (some (.val (.list (zs (gapsI c))))) (some (.val (grI c))) (some (.val (.list (zs (lastI c))))) (some (.own false (.lst [.list (zs (gapsI c)), .int (gapsI c).length, grI c, .list (zs (lastI c)), .bool (decide ((lastI c).length = 1))]))) kn none) := by
  obtain ⟨z, hz⟩ := told_repr h hb
  have e := law_even_eq h hb
  simp [u7, qE, hz, e]
theorem turn_eq {s t j3 j4 j5 j6 j7 j8 j9 kn : Option SV} {xs : List Int} (hx : Dr xs) (h3 : isIo (some j3) = false) (h4 : isIo (some j4) = false) (h5 : isIo (some j5) = false) (h6 : isIo (some j6) = false) (h7 : isIo (some j7) = false) (h8 : isIo (some j8) = false) (h9 : isIo (some j9) = false) :
    ∃ ys c st tab due gr la to, Dr ys ∧ uB (qE s (some (.own false (.lst (zs xs)))) t j3 j4 j5 j6 j7 j8 j9 kn none) = .nx (qE s (some (.own false (.lst (zs ys)))) t (some (.val c)) (some (.val st)) (some (.val tab)) (some (.val due)) (some (.val gr)) (some (.val la)) (some (.own false (.lst to))) kn none) := by
  obtain ⟨c, ys, e, ⟨c1, c2, cb⟩, dy, _⟩ := coins_ex hx
  have h : Coins c := ⟨c1, c2, fun x hx => by have := cb x hx; omega⟩
  have hb : ∀ x ∈ c, x ≤ 30 := fun x hx => (cb x hx).2
  refine ⟨ys, vec c, .int (gcdL c), .list (tabD c 1101), .list (zs (gapsI c)), grI c, .list (zs (lastI c)), [.list (zs (gapsI c)), .int (gapsI c).length, grI c, .list (zs (lastI c)), .bool (decide ((lastI c).length = 1))], dy, ?_⟩
  unfold uB
  rw [gSeq_ap, u0_eq e h3, seqF_nx, gSeq_ap, u12_eq h h4, seqF_nx, gSeq_ap, u2_eq h h5, seqF_nx, gSeq_ap, u3_eq h hb h6, seqF_nx, gSeq_ap, u4_eq h h7, seqF_nx, gSeq_ap, u5_eq h hb h8, seqF_nx, gSeq_ap, u6_eq h h9, seqF_nx, u7_eq h hb]
theorem loop_eq {s : Option SV} {xs : List Int} (hx : Dr xs) : ∃ ys t c st tab due gr la to, forD (bName 2) uB ((List.range 2).map fun (k : Nat) => PyData.int (k : Int)) (qE s (some (.own false (.lst (zs xs)))) none none none none none none none none none none) =
    .nx (qE s (some (.own false (.lst (zs ys)))) (some (.val t)) (some (.val c)) (some (.val st)) (some (.val tab)) (some (.val due)) (some (.val gr)) (some (.val la)) (some (.own false (.lst to))) none none) := by
  obtain ⟨ys, c, st, tab, due, gr, la, to, dy, e⟩ := turn_eq (s := s) (t := some (.val (.int 0))) (kn := none) hx isIo_n isIo_n isIo_n isIo_n isIo_n isIo_n isIo_n
  obtain ⟨ys2, c2, st2, tab2, due2, gr2, la2, to2, dy2, e2⟩ := turn_eq (s := s) (t := some (.val (.int 1))) (kn := none) dy (j3 := some (.val c)) (j4 := some (.val st)) (j5 := some (.val tab)) (j6 := some (.val due)) (j7 := some (.val gr)) (j8 := some (.val la)) (j9 := some (.own false (.lst to))) isIo_v isIo_v isIo_v isIo_v isIo_v isIo_v isIo_f
  refine ⟨ys2, .int 1, c2, st2, tab2, due2, gr2, la2, to2, ?_⟩
  have hr : ((List.range 2).map fun (k : Nat) => PyData.int (k : Int)) = [.int 0, .int 1] := rfl
  rw [hr, forD]
  have b1 : ∀ j, bName 2 (.int j) (qE s (some (.own false (.lst (zs xs)))) none none none none none none none none none none) = some (qE s (some (.own false (.lst (zs xs)))) (some (.val (.int j))) none none none none none none none none none) := fun j => by simp [qE]
  have b2 : ∀ j, bName 2 (.int j) (qE s (some (.own false (.lst (zs ys)))) (some (.val (.int 0))) (some (.val c)) (some (.val st)) (some (.val tab)) (some (.val due)) (some (.val gr)) (some (.val la)) (some (.own false (.lst to))) none none) = some (qE s (some (.own false (.lst (zs ys)))) (some (.val (.int j))) (some (.val c)) (some (.val st)) (some (.val tab)) (some (.val due)) (some (.val gr)) (some (.val la)) (some (.own false (.lst to))) none none) := fun j => by simp [qE]
  rw [b1]
  show (match uB (qE s (some (.own false (.lst (zs xs)))) (some (.val (.int 0))) none none none none none none none none none) with
    | .nx ρ2 => forD (bName 2) uB [.int 1] ρ2
    | .ct ρ2 => forD (bName 2) uB [.int 1] ρ2
    | .bk ρ2 => .nx ρ2
    | .rt v ρ2 => .rt v ρ2
    | .err x ρ2 => .err x ρ2
    | .bad => .bad) = _
  rw [e]
  show forD (bName 2) uB [.int 1] _ = _
  rw [forD, b2]
  show (match uB (qE s (some (.own false (.lst (zs ys)))) (some (.val (.int 1))) (some (.val c)) (some (.val st)) (some (.val tab)) (some (.val due)) (some (.val gr)) (some (.val la)) (some (.own false (.lst to))) none none) with
    | .nx ρ2 => forD (bName 2) uB [] ρ2
    | .ct ρ2 => forD (bName 2) uB [] ρ2
    | .bk ρ2 => .nx ρ2
    | .rt v ρ2 => .rt v ρ2
    | .err x ρ2 => .err x ρ2
    | .bad => .bad) = _
  rw [e2]
  rfl
end K47

namespace K47
open L2 PySem PySem.Spec PyProof.Rows DL
open CM
def payN (c : List Int) : Nat → Nat → Bool
  | 0, n => n == 0
  | f + 1, n => n == 0 || c.any fun x => decide (x ≤ (n : Int)) && payN c f (n - x.toNat)
theorem payN_iff {c : List Int} (hc : ∀ x ∈ c, 1 ≤ x) : ∀ {f n : Nat}, n ≤ f → (payN c f n = true ↔ Pay c n)
  | 0, n, h => by
    have : n = 0 := by omega
    subst this
    exact ⟨fun _ => .zero, fun _ => rfl⟩
  | f + 1, n, h => by
    rw [payN, Bool.or_eq_true]
    by_cases z : n = 0
    · subst z
      exact ⟨fun _ => .zero, fun _ => .inl rfl⟩
    · rw [pay_rec hc (by omega), List.any_eq_true]
      constructor
      · rintro (h1 | ⟨x, hx, h2⟩)
        · exact absurd (by simpa using h1) z
        · rw [Bool.and_eq_true, decide_eq_true_eq] at h2
          have x1 := hc x hx
          have := (payN_iff hc (f := f) (n := n - x.toNat) (by omega)).mp h2.2
          refine ⟨x, hx, h2.1, ?_⟩
          rwa [show ((n - x.toNat : Nat) : Int) = n - x by omega] at this
      · rintro ⟨x, hx, le, p⟩
        have x1 := hc x hx
        refine .inr ⟨x, hx, ?_⟩
        rw [Bool.and_eq_true, decide_eq_true_eq]
        refine ⟨le, (payN_iff hc (by omega)).mpr ?_⟩
        rwa [show ((n - x.toNat : Nat) : Int) = n - x by omega]
theorem payB_dec {c : List Int} (hc : ∀ x ∈ c, 1 ≤ x) {n : Int} (n0 : 0 ≤ n) : payB c n = payN c n.toNat n.toNat := by
  have := payN_iff hc (Nat.le_refl n.toNat)
  rw [show ((n.toNat : Nat) : Int) = n by omega, ← payB_iff] at this
  exact (Bool.eq_iff_iff.mpr this).symm
theorem least_dec {c : List Int} (hc : ∀ x ∈ c, 1 ≤ x) {L r : Int} {v : Nat} (hp : payN c v v = true) (hr : (v : Int) % L = r) (hm : ∀ m : Nat, m < v → (m : Int) % L = r → payN c m m = false) : lp c L r = v := by
  refine lp_eq ⟨(payN_iff hc (Nat.le_refl _)).mp hp, hr, fun n p e => ?_⟩
  have n0 := p.nonneg hc
  by_cases z : (v : Int) ≤ n
  · exact z
  · exfalso
    have e2 : ((n.toNat : Nat) : Int) = n := by omega
    have h1 := hm n.toNat (by omega) (by rw [e2]; exact e)
    have h2 := (payN_iff hc (Nat.le_refl n.toNat)).mpr (by rw [e2]; exact p)
    rw [h1] at h2
    cases h2
theorem known_of {c : List Int} {row G G' La : List Int} {m : Int} (h : Coins c) (hr : rowI c = row) (hm : minI c = m) (hp : preG row m = G') (hG : G.Pairwise (· < ·)) (hGG : ∀ x, x ∈ G ↔ x ∈ G') (h0 : ∀ g ∈ G, 0 ≤ g) (hl : (G.filter fun g => c.all fun x => payN c (g + x).toNat (g + x).toNat) = La) : gapsI c = G ∧ lastI c = La := by
  have e1 : gapsI c = G := by
    refine sorted_uniq (gaps_spec h).1 hG fun x => ?_
    rw [(gaps_spec h).2, ← pre_iff h, hr, hm, hp, hGG]
  refine ⟨e1, ?_⟩
  unfold lastI
  rw [e1, ← hl]
  refine List.filter_congr fun g hg => ?_
  rw [Bool.eq_iff_iff, List.all_eq_true, List.all_eq_true]
  have g0 := h0 g hg
  exact ⟨fun q x hx => by have x1 := (h.b x hx).1; rw [← payB_dec (fun x hx => (h.b x hx).1) (by omega)]; exact q x hx, fun q x hx => by have x1 := (h.b x hx).1; rw [payB_dec (fun x hx => (h.b x hx).1) (by omega)]; exact q x hx⟩
theorem k35 : Coins [3, 5] ∧ rowI [3, 5] = [0, 10, 5] ∧ gapsI [3, 5] = [1, 2, 4, 7] ∧ lastI [3, 5] = [7] := by
  have h : Coins [3, 5] := ⟨by decide, by decide, by decide⟩
  have hc : ∀ x ∈ ([3, 5] : List Int), 1 ≤ x := by decide
  have e0 : lp [3, 5] 3 0 = 0 := least_dec hc (v := 0) (by decide) (by decide) (by decide)
  have e1 : lp [3, 5] 3 1 = 10 := least_dec hc (v := 10) (by decide) (by decide) (by decide)
  have e2 : lp [3, 5] 3 2 = 5 := least_dec hc (v := 5) (by decide) (by decide) (by decide)
  have er : rowI [3, 5] = [0, 10, 5] := by
    have em : minI [3, 5] = 3 := by decide
    have eg : gcdL [3, 5] = 1 := by decide
    unfold rowI
    rw [em, eg]
    show [lp [3, 5] 3 0, lp [3, 5] 3 1, lp [3, 5] 3 2] = _
    rw [e0, e1, e2]
  exact ⟨h, er, known_of h er (m := 3) (by decide) (G' := [1, 4, 7, 2]) (by decide) (by decide) (fun x => by simp; omega) (by decide) (by decide)⟩
theorem k46 : Coins [4, 6] ∧ rowI [4, 6] = [0, 6] ∧ gapsI [4, 6] = [2] ∧ lastI [4, 6] = [2] := by
  have h : Coins [4, 6] := ⟨by decide, by decide, by decide⟩
  have hc : ∀ x ∈ ([4, 6] : List Int), 1 ≤ x := by decide
  have e0 : lp [4, 6] 4 0 = 0 := least_dec hc (v := 0) (by decide) (by decide) (by decide)
  have e1 : lp [4, 6] 4 2 = 6 := least_dec hc (v := 6) (by decide) (by decide) (by decide)
  have er : rowI [4, 6] = [0, 6] := by
    have em : minI [4, 6] = 4 := by decide
    have eg : gcdL [4, 6] = 2 := by decide
    unfold rowI
    rw [em, eg]
    show [lp [4, 6] 4 0, lp [4, 6] 4 2] = _
    rw [e0, e1]
  exact ⟨h, er, known_of h er (m := 4) (by decide) (G' := [2]) (by decide) (by decide) (fun x => by simp) (by decide) (by decide)⟩
theorem k345 : Coins [3, 4, 5] ∧ rowI [3, 4, 5] = [0, 4, 5] ∧ gapsI [3, 4, 5] = [1, 2] ∧ lastI [3, 4, 5] = [1, 2] := by
  have h : Coins [3, 4, 5] := ⟨by decide, by decide, by decide⟩
  have hc : ∀ x ∈ ([3, 4, 5] : List Int), 1 ≤ x := by decide
  have e0 : lp [3, 4, 5] 3 0 = 0 := least_dec hc (v := 0) (by decide) (by decide) (by decide)
  have e1 : lp [3, 4, 5] 3 1 = 4 := least_dec hc (v := 4) (by decide) (by decide) (by decide)
  have e2 : lp [3, 4, 5] 3 2 = 5 := least_dec hc (v := 5) (by decide) (by decide) (by decide)
  have er : rowI [3, 4, 5] = [0, 4, 5] := by
    have em : minI [3, 4, 5] = 3 := by decide
    have eg : gcdL [3, 4, 5] = 1 := by decide
    unfold rowI
    rw [em, eg]
    show [lp [3, 4, 5] 3 0, lp [3, 4, 5] 3 1, lp [3, 4, 5] 3 2] = _
    rw [e0, e1, e2]
  exact ⟨h, er, known_of h er (m := 3) (by decide) (G' := [1, 2]) (by decide) (by decide) (fun x => by simp) (by decide) (by decide)⟩
theorem k17 : Coins [1, 7] ∧ rowI [1, 7] = [0] ∧ gapsI [1, 7] = [] ∧ lastI [1, 7] = [] := by
  have h : Coins [1, 7] := ⟨by decide, by decide, by decide⟩
  have hc : ∀ x ∈ ([1, 7] : List Int), 1 ≤ x := by decide
  have e0 : lp [1, 7] 1 0 = 0 := least_dec hc (v := 0) (by decide) (by decide) (by decide)
  have er : rowI [1, 7] = [0] := by
    have em : minI [1, 7] = 1 := by decide
    have eg : gcdL [1, 7] = 1 := by decide
    unfold rowI
    rw [em, eg]
    show [lp [1, 7] 1 0] = _
    rw [e0]
  exact ⟨h, er, known_of h er (m := 1) (by decide) (G' := []) (by decide) (by decide) (fun x => by simp) (by decide) (by decide)⟩
theorem g35 : grI [3, 5] = .int 7 := by
  unfold grI; rw [k35.2.1]; rfl
theorem g46 : grI [4, 6] = .int 2 := by
  unfold grI; rw [k46.2.1]; rfl
theorem g345 : grI [3, 4, 5] = .int 2 := by
  unfold grI; rw [k345.2.1]; rfl
theorem g17 : grI [1, 7] = .none := by
  unfold grI; rw [k17.2.1]; rfl
theorem kin_eq {s d t c' st tab due gr la to : Option SV} {c : List Int} (h : Coins c) : xComp (DL.iRange1 (aCons (xC (.int 5)) (aNil))) [14] (bName 14) (tTrue) (xCall f_u_law_told (aCons (xVar 14) (aCons (xVar 15) (aNil)))) [s, d, t, c', st, tab, due, gr, la, to, none, none, none, none, none, some (.val (vec c))] =
    .ok (.lst [.list (zs (gapsI c)), .int (gapsI c).length, grI c, .list (zs (lastI c)), .bool (decide ((lastI c).length = 1))]) [s, d, t, c', st, tab, due, gr, la, to, none, none, none, none, none, some (.val (vec c))] := by
  rw [← told_range]
  refine xComp_of_map (e := fun (k : Nat) => PyData.int (k : Int)) (iRange1_nat (n := 5) (by simp) (by omega)) (by simp) (by simp) fun k hk => ?_
  have := told_ok h k (List.mem_range.mp hk)
  simp [this]
def knownD : List D := [.list [.list [.int 1, .int 2, .int 4, .int 7], .int 4, .int 7, .list [.int 7], .bool true], .list [.list [.int 2], .int 1, .int 2, .list [.int 2], .bool true], .list [.list [.int 1, .int 2], .int 2, .int 2, .list [.int 1, .int 2], .bool false], .list [.list [], .int 0, .none, .list [], .bool false]]
theorem known_repr : ∃ z, kRepr [.list knownD] = some (.str z) := ⟨_, kRepr_tiny (by decide) (by decide) (by decide)⟩
theorem five_eq : kEq (.list [.str "!number", .str "!number", .str "!number", .str "!number", .str "!number"]) (.list [.str "!number", .str "!number", .str "!number", .str "!number", .str "!number"]) = some true := by decide +kernel
theorem rep5 : (List.replicate (5 : Int).toNat [PyData.str "!number"]).flatten = [.str "!number", .str "!number", .str "!number", .str "!number", .str "!number"] := rfl
theorem pure_law : ∀ ns : List Int, ns.length ≤ 63 → (∀ z ∈ ns, Builtin.Int.intBits z ≤ 1048576) → f_law [.list (ns.map PyData.int)] = .ok (.val (.bool true)) := by
  intro ns hl _
  obtain ⟨xs, d1, dx, lx⟩ := draws_eq ns hl
  obtain ⟨ys, zs1, e2, dy, ly, _⟩ := more_eq xs dx lx 20 (by omega)
  have e2' : f_u_law_more (zs xs) [.int 20] = some (.own (.lst (zs ys)), zs zs1) := e2
  obtain ⟨y2, t, c, st, tab, due, gr, la, to, e3⟩ := loop_eq (s := some (.val (.list (zs ns)))) dy
  have r2 : ((List.range 2).map fun (k : Nat) => PyData.int (k : Int)) = [.int 0, .int 1] := rfl
  rw [r2] at e3
  have i1 := fun s d t c' st tab due gr la to => kin_eq (s := s) (d := d) (t := t) (c' := c') (st := st) (tab := tab) (due := due) (gr := gr) (la := la) (to := to) k35.1
  have i2 := fun s d t c' st tab due gr la to => kin_eq (s := s) (d := d) (t := t) (c' := c') (st := st) (tab := tab) (due := due) (gr := gr) (la := la) (to := to) k46.1
  have i3 := fun s d t c' st tab due gr la to => kin_eq (s := s) (d := d) (t := t) (c' := c') (st := st) (tab := tab) (due := due) (gr := gr) (la := la) (to := to) k345.1
  have i4 := fun s d t c' st tab due gr la to => kin_eq (s := s) (d := d) (t := t) (c' := c') (st := st) (tab := tab) (due := due) (gr := gr) (la := la) (to := to) k17.1
  rw [k35.2.2.1, k35.2.2.2, g35] at i1
  rw [k46.2.2.1, k46.2.2.2, g46] at i2
  rw [k345.2.2.1, k345.2.2.2, g345] at i3
  rw [k17.2.2.1, k17.2.2.2, g17] at i4
  obtain ⟨z, hz⟩ := known_repr
  unfold knownD at hz
  have f3 : lS3 (qE (some (.val (.list (zs ns)))) (some (.own false (.lst (zs y2)))) (some (.val t)) (some (.val c)) (some (.val st)) (some (.val tab)) (some (.val due)) (some (.val gr)) (some (.val la)) (some (.own false (.lst to))) none none) =
      .nx (qE (some (.val (.list (zs ns)))) (some (.own false (.lst (zs y2)))) (some (.val t)) (some (.val c)) (some (.val st)) (some (.val tab)) (some (.val due)) (some (.val gr)) (some (.val la)) (some (.own false (.lst to))) (some (.own false (.lst knownD))) none) := by
    simp only [vec, List.map_cons, List.map_nil] at i1 i2 i3 i4
    simp [lS3, qE, -xComp_ap]
    rw [xComp_ap]
    simp [-xComp_ap, i1, i2, i3, i4, knownD]
  have w : ∀ k : Nat, k < 5 → f_u_law_told [.int k, .tuple [.int 0, .int 3]] = .ok (.val (.str "!number")) := fun k hk => told_bad (c := [0, 3]) (by simp) rfl k hk
  unfold f_law
  rw [runF_out, b_law_eq]
  simp only [qE] at e3 f3
  have r5 : ((List.range 5).map fun (k : Nat) => PyData.int (k : Int)) = [.int 0, .int 1, .int 2, .int 3, .int 4] := rfl
  have w0 := w 0 (by omega)
  have w1 := w 1 (by omega)
  have w2 := w 2 (by omega)
  have w3 := w 3 (by omega)
  have w4 := w 4 (by omega)
  have w5 : xComp (DL.iRange1 (aCons (xC (.int 5)) (aNil))) [14] (bName 14) (tTrue) (xCall f_u_law_told (aCons (xVar 14) (aCons (xTup (aCons (xC (.int 0)) (aCons (xC (.int 3)) (aNil)))) (aNil)))) (qE (some (.val (.list (zs ns)))) (some (.own false (.lst (zs y2)))) (some (.val t)) (some (.val c)) (some (.val st)) (some (.val tab)) (some (.val (.list knownD))) (some (.val gr)) (some (.val la)) (some (.own false (.lst to))) (some (.own false (.lst knownD))) none) =
      .ok (.lst ((List.range 5).map fun _ => PyData.str "!number")) (qE (some (.val (.list (zs ns)))) (some (.own false (.lst (zs y2)))) (some (.val t)) (some (.val c)) (some (.val st)) (some (.val tab)) (some (.val (.list knownD))) (some (.val gr)) (some (.val la)) (some (.own false (.lst to))) (some (.own false (.lst knownD))) none) := by
    refine xComp_of_map (e := fun (k : Nat) => PyData.int (k : Int)) (iRange1_nat (n := 5) (by simp) (by omega)) (by simp [qE]) (by simp) fun k hk => ?_
    have := w k (List.mem_range.mp hk)
    simp [qE, this]
  have r5' : ((List.range 5).map fun _ => PyData.str "!number") = [.str "!number", .str "!number", .str "!number", .str "!number", .str "!number"] := rfl
  rw [r5'] at w5
  have f4 : lS4 (qE (some (.val (.list (zs ns)))) (some (.own false (.lst (zs y2)))) (some (.val t)) (some (.val c)) (some (.val st)) (some (.val tab)) (some (.val due)) (some (.val gr)) (some (.val la)) (some (.own false (.lst to))) (some (.own false (.lst knownD))) none) =
      .nx (qE (some (.val (.list (zs ns)))) (some (.own false (.lst (zs y2)))) (some (.val t)) (some (.val c)) (some (.val st)) (some (.val tab)) (some (.val (.list knownD))) (some (.val gr)) (some (.val la)) (some (.own false (.lst to))) (some (.own false (.lst knownD))) none) := by
    simp [lS4, qE, knownD]
  have f5 : lS5 (qE (some (.val (.list (zs ns)))) (some (.own false (.lst (zs y2)))) (some (.val t)) (some (.val c)) (some (.val st)) (some (.val tab)) (some (.val (.list knownD))) (some (.val gr)) (some (.val la)) (some (.own false (.lst to))) (some (.own false (.lst knownD))) none) =
      .nx (qE (some (.val (.list (zs ns)))) (some (.own false (.lst (zs y2)))) (some (.val t)) (some (.val c)) (some (.val st)) (some (.val tab)) (some (.val (.list knownD))) (some (.val gr)) (some (.val la)) (some (.own false (.lst to))) (some (.own false (.lst knownD))) none) := by
    obtain ⟨z, hz⟩ := known_repr
    simp [lS5, qE, hz]
  simp only [qE] at f4 f5 w5
  simp [startD, d1, e2', r2, e3, f3, f4, f5]
  simp only [lS6, gRet_ap, x2_ap, ofL_ap, w5, bindR_ok, cellR_lst, deref_val, optR_some]
  simp [xRepL, rep5, five_eq]
end K47

namespace K47
open L2 PySem PySem.Spec PyProof.Rows DL
theorem walk {l : PySem.W.OpenLaw} {q : Program} {loose : List Str} {XP : (Str → Option Value) → Heap → Prop} {YP : World → Heap → Prop} {d : DefRec} {K : Params → Frg} (hn : l.most = some 63) (hdf : d.params.defaults = [])
    (hY : ∀ (w : World) (h : Heap), YP w h → (K w.params).In h)
    (F : ∀ (w : World) (mg : Mg) (fa : Addr) (h : Heap), (K w.params).In h → h.Ns mainGlobals mg → mg d.name = some (.ref fa) →
      ∃ (fd : FuncData) (Fl : Fn), (∀ (s : Shared) (u : Value), BindsTo s fd ⟨[u], []⟩ [("script", u)]) ∧ (∀ ns : List Int, ns.length ≤ 63 → (∀ z ∈ ns, Builtin.Int.intBits z ≤ 1048576) → Fl [.list (ns.map PyData.int)] = .ok (.val (.bool true))) ∧
        ∀ base : Heap, (K w.params).In base → base.Ns mainGlobals mg → LawRun l.prog w (K w.params) mg base fa fd ["script"] (spP (K w.params) mg 1 Fl)) :
    PySem.W.WalkO q loose XP YP l.row.toRowW d [] (fun f vs => PySem.call f vs) :=
  walk_D hn (by decide) hdf hY F
theorem all_mk {P : Program} {w : World} {K : Frg} {h : Heap} {mg : Mg} {fa C_BadNumber : Addr} (X : K.In h) (G : h.Ns mainGlobals mg) (hfa : mg "law" = some (.ref fa))
    {F_check_coins : Addr} {od_check_coins an_check_coins : Option Addr} {sl_check_coins : Array (Option Value)} {oc_check_coins kV_check_coins dc_check_coins pm_check_coins cd_check_coins ct_check_coins : Value}
    {F_divisor_of : Addr} {od_divisor_of an_divisor_of : Option Addr} {sl_divisor_of : Array (Option Value)} {oc_divisor_of kV_divisor_of dc_divisor_of pm_divisor_of cd_divisor_of ct_divisor_of : Value}
    {F_row_of : Addr} {od_row_of an_row_of : Option Addr} {sl_row_of : Array (Option Value)} {oc_row_of kV_row_of dc_row_of pm_row_of cd_row_of ct_row_of : Value}
    {F_pays : Addr} {od_pays an_pays : Option Addr} {sl_pays : Array (Option Value)} {oc_pays kV_pays dc_pays pm_pays cd_pays ct_pays : Value}
    {F_all_gaps : Addr} {od_all_gaps an_all_gaps : Option Addr} {sl_all_gaps : Array (Option Value)} {oc_all_gaps kV_all_gaps dc_all_gaps pm_all_gaps cd_all_gaps ct_all_gaps : Value}
    {F_gaps : Addr} {od_gaps an_gaps : Option Addr} {sl_gaps : Array (Option Value)} {oc_gaps kV_gaps dc_gaps pm_gaps cd_gaps ct_gaps : Value}
    {F_gap_count : Addr} {od_gap_count an_gap_count : Option Addr} {sl_gap_count : Array (Option Value)} {oc_gap_count kV_gap_count dc_gap_count pm_gap_count cd_gap_count ct_gap_count : Value}
    {F_greatest_gap : Addr} {od_greatest_gap an_greatest_gap : Option Addr} {sl_greatest_gap : Array (Option Value)} {oc_greatest_gap kV_greatest_gap dc_greatest_gap pm_greatest_gap cd_greatest_gap ct_greatest_gap : Value}
    {F_last_gaps : Addr} {od_last_gaps an_last_gaps : Option Addr} {sl_last_gaps : Array (Option Value)} {oc_last_gaps kV_last_gaps dc_last_gaps pm_last_gaps cd_last_gaps ct_last_gaps : Value}
    {F_is_even_handed : Addr} {od_is_even_handed an_is_even_handed : Option Addr} {sl_is_even_handed : Array (Option Value)} {oc_is_even_handed kV_is_even_handed dc_is_even_handed pm_is_even_handed cd_is_even_handed ct_is_even_handed : Value}
    {F_u_law_number : Addr} {od_u_law_number an_u_law_number : Option Addr} {sl_u_law_number : Array (Option Value)} {oc_u_law_number kV_u_law_number dc_u_law_number pm_u_law_number cd_u_law_number ct_u_law_number : Value}
    {F_u_law_draws : Addr} {od_u_law_draws an_u_law_draws : Option Addr} {sl_u_law_draws : Array (Option Value)} {oc_u_law_draws kV_u_law_draws dc_u_law_draws pm_u_law_draws cd_u_law_draws ct_u_law_draws : Value}
    {F_u_law_next : Addr} {od_u_law_next an_u_law_next : Option Addr} {sl_u_law_next : Array (Option Value)} {oc_u_law_next kV_u_law_next dc_u_law_next pm_u_law_next cd_u_law_next ct_u_law_next : Value}
    {F_u_law_pick : Addr} {od_u_law_pick an_u_law_pick : Option Addr} {sl_u_law_pick : Array (Option Value)} {oc_u_law_pick kV_u_law_pick dc_u_law_pick pm_u_law_pick cd_u_law_pick ct_u_law_pick : Value}
    {F_u_law_more : Addr} {od_u_law_more an_u_law_more : Option Addr} {sl_u_law_more : Array (Option Value)} {oc_u_law_more kV_u_law_more dc_u_law_more pm_u_law_more cd_u_law_more ct_u_law_more : Value}
    {F_u_law_coins : Addr} {od_u_law_coins an_u_law_coins : Option Addr} {sl_u_law_coins : Array (Option Value)} {oc_u_law_coins kV_u_law_coins dc_u_law_coins pm_u_law_coins cd_u_law_coins ct_u_law_coins : Value}
    {F_u_law_gcd : Addr} {od_u_law_gcd an_u_law_gcd : Option Addr} {sl_u_law_gcd : Array (Option Value)} {oc_u_law_gcd kV_u_law_gcd dc_u_law_gcd pm_u_law_gcd cd_u_law_gcd ct_u_law_gcd : Value}
    {F_u_law_step : Addr} {od_u_law_step an_u_law_step : Option Addr} {sl_u_law_step : Array (Option Value)} {oc_u_law_step kV_u_law_step dc_u_law_step pm_u_law_step cd_u_law_step ct_u_law_step : Value}
    {F_u_law_table : Addr} {od_u_law_table an_u_law_table : Option Addr} {sl_u_law_table : Array (Option Value)} {oc_u_law_table kV_u_law_table dc_u_law_table pm_u_law_table cd_u_law_table ct_u_law_table : Value}
    {F_u_law_told : Addr} {od_u_law_told an_u_law_told : Option Addr} {sl_u_law_told : Array (Option Value)} {oc_u_law_told kV_u_law_told dc_u_law_told pm_u_law_told cd_u_law_told ct_u_law_told : Value}
    {F_u_law_is_even : Addr} {od_u_law_is_even an_u_law_is_even : Option Addr} {sl_u_law_is_even : Array (Option Value)} {oc_u_law_is_even kV_u_law_is_even dc_u_law_is_even pm_u_law_is_even cd_u_law_is_even ct_u_law_is_even : Value}
    {F_law : Addr} {od_law an_law : Option Addr} {sl_law : Array (Option Value)} {oc_law kV_law dc_law pm_law cd_law ct_law : Value}
    {tk_MOST_COIN : Tok}
    {tk_MOST_COINS : Tok}
    (a_check_coins : PySem.W.nsIn K mainGlobals "check_coins" = some (some (.ref F_check_coins)))
    (l_check_coins : K.lookup F_check_coins = some ⟨oc_check_coins, od_check_coins, .func (PySem.W.fnOf "check_coins" "check_coins" (defArgs s_check_coins) (defBody s_check_coins) (defScope s_check_coins) .none kV_check_coins dc_check_coins pm_check_coins an_check_coins cd_check_coins ct_check_coins), sl_check_coins⟩)
    (c_check_coins : PySem.W.codeIn K cd_check_coins "check_coins" = true)
    (k_check_coins : PySem.W.keepIn K (.ref F_check_coins) = true)
    (a_divisor_of : PySem.W.nsIn K mainGlobals "divisor_of" = some (some (.ref F_divisor_of)))
    (l_divisor_of : K.lookup F_divisor_of = some ⟨oc_divisor_of, od_divisor_of, .func (PySem.W.fnOf "divisor_of" "divisor_of" (defArgs s_divisor_of) (defBody s_divisor_of) (defScope s_divisor_of) .none kV_divisor_of dc_divisor_of pm_divisor_of an_divisor_of cd_divisor_of ct_divisor_of), sl_divisor_of⟩)
    (c_divisor_of : PySem.W.codeIn K cd_divisor_of "divisor_of" = true)
    (k_divisor_of : PySem.W.keepIn K (.ref F_divisor_of) = true)
    (a_row_of : PySem.W.nsIn K mainGlobals "row_of" = some (some (.ref F_row_of)))
    (l_row_of : K.lookup F_row_of = some ⟨oc_row_of, od_row_of, .func (PySem.W.fnOf "row_of" "row_of" (defArgs s_row_of) (defBody s_row_of) (defScope s_row_of) .none kV_row_of dc_row_of pm_row_of an_row_of cd_row_of ct_row_of), sl_row_of⟩)
    (c_row_of : PySem.W.codeIn K cd_row_of "row_of" = true)
    (k_row_of : PySem.W.keepIn K (.ref F_row_of) = true)
    (a_pays : PySem.W.nsIn K mainGlobals "pays" = some (some (.ref F_pays)))
    (l_pays : K.lookup F_pays = some ⟨oc_pays, od_pays, .func (PySem.W.fnOf "pays" "pays" (defArgs s_pays) (defBody s_pays) (defScope s_pays) .none kV_pays dc_pays pm_pays an_pays cd_pays ct_pays), sl_pays⟩)
    (c_pays : PySem.W.codeIn K cd_pays "pays" = true)
    (k_pays : PySem.W.keepIn K (.ref F_pays) = true)
    (a_all_gaps : PySem.W.nsIn K mainGlobals "all_gaps" = some (some (.ref F_all_gaps)))
    (l_all_gaps : K.lookup F_all_gaps = some ⟨oc_all_gaps, od_all_gaps, .func (PySem.W.fnOf "all_gaps" "all_gaps" (defArgs s_all_gaps) (defBody s_all_gaps) (defScope s_all_gaps) .none kV_all_gaps dc_all_gaps pm_all_gaps an_all_gaps cd_all_gaps ct_all_gaps), sl_all_gaps⟩)
    (c_all_gaps : PySem.W.codeIn K cd_all_gaps "all_gaps" = true)
    (k_all_gaps : PySem.W.keepIn K (.ref F_all_gaps) = true)
    (a_gaps : PySem.W.nsIn K mainGlobals "gaps" = some (some (.ref F_gaps)))
    (l_gaps : K.lookup F_gaps = some ⟨oc_gaps, od_gaps, .func (PySem.W.fnOf "gaps" "gaps" (defArgs s_gaps) (defBody s_gaps) (defScope s_gaps) .none kV_gaps dc_gaps pm_gaps an_gaps cd_gaps ct_gaps), sl_gaps⟩)
    (c_gaps : PySem.W.codeIn K cd_gaps "gaps" = true)
    (k_gaps : PySem.W.keepIn K (.ref F_gaps) = true)
    (a_gap_count : PySem.W.nsIn K mainGlobals "gap_count" = some (some (.ref F_gap_count)))
    (l_gap_count : K.lookup F_gap_count = some ⟨oc_gap_count, od_gap_count, .func (PySem.W.fnOf "gap_count" "gap_count" (defArgs s_gap_count) (defBody s_gap_count) (defScope s_gap_count) .none kV_gap_count dc_gap_count pm_gap_count an_gap_count cd_gap_count ct_gap_count), sl_gap_count⟩)
    (c_gap_count : PySem.W.codeIn K cd_gap_count "gap_count" = true)
    (k_gap_count : PySem.W.keepIn K (.ref F_gap_count) = true)
    (a_greatest_gap : PySem.W.nsIn K mainGlobals "greatest_gap" = some (some (.ref F_greatest_gap)))
    (l_greatest_gap : K.lookup F_greatest_gap = some ⟨oc_greatest_gap, od_greatest_gap, .func (PySem.W.fnOf "greatest_gap" "greatest_gap" (defArgs s_greatest_gap) (defBody s_greatest_gap) (defScope s_greatest_gap) .none kV_greatest_gap dc_greatest_gap pm_greatest_gap an_greatest_gap cd_greatest_gap ct_greatest_gap), sl_greatest_gap⟩)
    (c_greatest_gap : PySem.W.codeIn K cd_greatest_gap "greatest_gap" = true)
    (k_greatest_gap : PySem.W.keepIn K (.ref F_greatest_gap) = true)
    (a_last_gaps : PySem.W.nsIn K mainGlobals "last_gaps" = some (some (.ref F_last_gaps)))
    (l_last_gaps : K.lookup F_last_gaps = some ⟨oc_last_gaps, od_last_gaps, .func (PySem.W.fnOf "last_gaps" "last_gaps" (defArgs s_last_gaps) (defBody s_last_gaps) (defScope s_last_gaps) .none kV_last_gaps dc_last_gaps pm_last_gaps an_last_gaps cd_last_gaps ct_last_gaps), sl_last_gaps⟩)
    (c_last_gaps : PySem.W.codeIn K cd_last_gaps "last_gaps" = true)
    (k_last_gaps : PySem.W.keepIn K (.ref F_last_gaps) = true)
    (a_is_even_handed : PySem.W.nsIn K mainGlobals "is_even_handed" = some (some (.ref F_is_even_handed)))
    (l_is_even_handed : K.lookup F_is_even_handed = some ⟨oc_is_even_handed, od_is_even_handed, .func (PySem.W.fnOf "is_even_handed" "is_even_handed" (defArgs s_is_even_handed) (defBody s_is_even_handed) (defScope s_is_even_handed) .none kV_is_even_handed dc_is_even_handed pm_is_even_handed an_is_even_handed cd_is_even_handed ct_is_even_handed), sl_is_even_handed⟩)
    (c_is_even_handed : PySem.W.codeIn K cd_is_even_handed "is_even_handed" = true)
    (k_is_even_handed : PySem.W.keepIn K (.ref F_is_even_handed) = true)
    (a_u_law_number : PySem.W.nsIn K mainGlobals "_law_number" = some (some (.ref F_u_law_number)))
    (l_u_law_number : K.lookup F_u_law_number = some ⟨oc_u_law_number, od_u_law_number, .func (PySem.W.fnOf "_law_number" "_law_number" (defArgs s_u_law_number) (defBody s_u_law_number) (defScope s_u_law_number) .none kV_u_law_number dc_u_law_number pm_u_law_number an_u_law_number cd_u_law_number ct_u_law_number), sl_u_law_number⟩)
    (c_u_law_number : PySem.W.codeIn K cd_u_law_number "_law_number" = true)
    (k_u_law_number : PySem.W.keepIn K (.ref F_u_law_number) = true)
    (a_u_law_draws : PySem.W.nsIn K mainGlobals "_law_draws" = some (some (.ref F_u_law_draws)))
    (l_u_law_draws : K.lookup F_u_law_draws = some ⟨oc_u_law_draws, od_u_law_draws, .func (PySem.W.fnOf "_law_draws" "_law_draws" (defArgs s_u_law_draws) (defBody s_u_law_draws) (defScope s_u_law_draws) .none kV_u_law_draws dc_u_law_draws pm_u_law_draws an_u_law_draws cd_u_law_draws ct_u_law_draws), sl_u_law_draws⟩)
    (c_u_law_draws : PySem.W.codeIn K cd_u_law_draws "_law_draws" = true)
    (k_u_law_draws : PySem.W.keepIn K (.ref F_u_law_draws) = true)
    (a_u_law_next : PySem.W.nsIn K mainGlobals "_law_next" = some (some (.ref F_u_law_next)))
    (l_u_law_next : K.lookup F_u_law_next = some ⟨oc_u_law_next, od_u_law_next, .func (PySem.W.fnOf "_law_next" "_law_next" (defArgs s_u_law_next) (defBody s_u_law_next) (defScope s_u_law_next) .none kV_u_law_next dc_u_law_next pm_u_law_next an_u_law_next cd_u_law_next ct_u_law_next), sl_u_law_next⟩)
    (c_u_law_next : PySem.W.codeIn K cd_u_law_next "_law_next" = true)
    (k_u_law_next : PySem.W.keepIn K (.ref F_u_law_next) = true)
    (a_u_law_pick : PySem.W.nsIn K mainGlobals "_law_pick" = some (some (.ref F_u_law_pick)))
    (l_u_law_pick : K.lookup F_u_law_pick = some ⟨oc_u_law_pick, od_u_law_pick, .func (PySem.W.fnOf "_law_pick" "_law_pick" (defArgs s_u_law_pick) (defBody s_u_law_pick) (defScope s_u_law_pick) .none kV_u_law_pick dc_u_law_pick pm_u_law_pick an_u_law_pick cd_u_law_pick ct_u_law_pick), sl_u_law_pick⟩)
    (c_u_law_pick : PySem.W.codeIn K cd_u_law_pick "_law_pick" = true)
    (k_u_law_pick : PySem.W.keepIn K (.ref F_u_law_pick) = true)
    (a_u_law_more : PySem.W.nsIn K mainGlobals "_law_more" = some (some (.ref F_u_law_more)))
    (l_u_law_more : K.lookup F_u_law_more = some ⟨oc_u_law_more, od_u_law_more, .func (PySem.W.fnOf "_law_more" "_law_more" (defArgs s_u_law_more) (defBody s_u_law_more) (defScope s_u_law_more) .none kV_u_law_more dc_u_law_more pm_u_law_more an_u_law_more cd_u_law_more ct_u_law_more), sl_u_law_more⟩)
    (c_u_law_more : PySem.W.codeIn K cd_u_law_more "_law_more" = true)
    (k_u_law_more : PySem.W.keepIn K (.ref F_u_law_more) = true)
    (a_u_law_coins : PySem.W.nsIn K mainGlobals "_law_coins" = some (some (.ref F_u_law_coins)))
    (l_u_law_coins : K.lookup F_u_law_coins = some ⟨oc_u_law_coins, od_u_law_coins, .func (PySem.W.fnOf "_law_coins" "_law_coins" (defArgs s_u_law_coins) (defBody s_u_law_coins) (defScope s_u_law_coins) .none kV_u_law_coins dc_u_law_coins pm_u_law_coins an_u_law_coins cd_u_law_coins ct_u_law_coins), sl_u_law_coins⟩)
    (c_u_law_coins : PySem.W.codeIn K cd_u_law_coins "_law_coins" = true)
    (k_u_law_coins : PySem.W.keepIn K (.ref F_u_law_coins) = true)
    (a_u_law_gcd : PySem.W.nsIn K mainGlobals "_law_gcd" = some (some (.ref F_u_law_gcd)))
    (l_u_law_gcd : K.lookup F_u_law_gcd = some ⟨oc_u_law_gcd, od_u_law_gcd, .func (PySem.W.fnOf "_law_gcd" "_law_gcd" (defArgs s_u_law_gcd) (defBody s_u_law_gcd) (defScope s_u_law_gcd) .none kV_u_law_gcd dc_u_law_gcd pm_u_law_gcd an_u_law_gcd cd_u_law_gcd ct_u_law_gcd), sl_u_law_gcd⟩)
    (c_u_law_gcd : PySem.W.codeIn K cd_u_law_gcd "_law_gcd" = true)
    (k_u_law_gcd : PySem.W.keepIn K (.ref F_u_law_gcd) = true)
    (a_u_law_step : PySem.W.nsIn K mainGlobals "_law_step" = some (some (.ref F_u_law_step)))
    (l_u_law_step : K.lookup F_u_law_step = some ⟨oc_u_law_step, od_u_law_step, .func (PySem.W.fnOf "_law_step" "_law_step" (defArgs s_u_law_step) (defBody s_u_law_step) (defScope s_u_law_step) .none kV_u_law_step dc_u_law_step pm_u_law_step an_u_law_step cd_u_law_step ct_u_law_step), sl_u_law_step⟩)
    (c_u_law_step : PySem.W.codeIn K cd_u_law_step "_law_step" = true)
    (k_u_law_step : PySem.W.keepIn K (.ref F_u_law_step) = true)
    (a_u_law_table : PySem.W.nsIn K mainGlobals "_law_table" = some (some (.ref F_u_law_table)))
    (l_u_law_table : K.lookup F_u_law_table = some ⟨oc_u_law_table, od_u_law_table, .func (PySem.W.fnOf "_law_table" "_law_table" (defArgs s_u_law_table) (defBody s_u_law_table) (defScope s_u_law_table) .none kV_u_law_table dc_u_law_table pm_u_law_table an_u_law_table cd_u_law_table ct_u_law_table), sl_u_law_table⟩)
    (c_u_law_table : PySem.W.codeIn K cd_u_law_table "_law_table" = true)
    (k_u_law_table : PySem.W.keepIn K (.ref F_u_law_table) = true)
    (a_u_law_told : PySem.W.nsIn K mainGlobals "_law_told" = some (some (.ref F_u_law_told)))
    (l_u_law_told : K.lookup F_u_law_told = some ⟨oc_u_law_told, od_u_law_told, .func (PySem.W.fnOf "_law_told" "_law_told" (defArgs s_u_law_told) (defBody s_u_law_told) (defScope s_u_law_told) .none kV_u_law_told dc_u_law_told pm_u_law_told an_u_law_told cd_u_law_told ct_u_law_told), sl_u_law_told⟩)
    (c_u_law_told : PySem.W.codeIn K cd_u_law_told "_law_told" = true)
    (k_u_law_told : PySem.W.keepIn K (.ref F_u_law_told) = true)
    (a_u_law_is_even : PySem.W.nsIn K mainGlobals "_law_is_even" = some (some (.ref F_u_law_is_even)))
    (l_u_law_is_even : K.lookup F_u_law_is_even = some ⟨oc_u_law_is_even, od_u_law_is_even, .func (PySem.W.fnOf "_law_is_even" "_law_is_even" (defArgs s_u_law_is_even) (defBody s_u_law_is_even) (defScope s_u_law_is_even) .none kV_u_law_is_even dc_u_law_is_even pm_u_law_is_even an_u_law_is_even cd_u_law_is_even ct_u_law_is_even), sl_u_law_is_even⟩)
    (c_u_law_is_even : PySem.W.codeIn K cd_u_law_is_even "_law_is_even" = true)
    (k_u_law_is_even : PySem.W.keepIn K (.ref F_u_law_is_even) = true)
    (a_law : PySem.W.nsIn K mainGlobals "law" = some (some (.ref F_law)))
    (l_law : K.lookup F_law = some ⟨oc_law, od_law, .func (PySem.W.fnOf "law" "law" (defArgs s_law) (defBody s_law) (defScope s_law) .none kV_law dc_law pm_law an_law cd_law ct_law), sl_law⟩)
    (c_law : PySem.W.codeIn K cd_law "law" = true)
    (k_law : PySem.W.keepIn K (.ref F_law) = true)
    (z_all : PySem.W.nsIn K mainGlobals "all" = some none)
    (z_any : PySem.W.nsIn K mainGlobals "any" = some none)
    (z_int : PySem.W.nsIn K mainGlobals "int" = some none)
    (z_len : PySem.W.nsIn K mainGlobals "len" = some none)
    (z_list : PySem.W.nsIn K mainGlobals "list" = some none)
    (z_max : PySem.W.nsIn K mainGlobals "max" = some none)
    (z_min : PySem.W.nsIn K mainGlobals "min" = some none)
    (z_range : PySem.W.nsIn K mainGlobals "range" = some none)
    (z_repr : PySem.W.nsIn K mainGlobals "repr" = some none)
    (z_sorted : PySem.W.nsIn K mainGlobals "sorted" = some none)
    (z_sum : PySem.W.nsIn K mainGlobals "sum" = some none)
    (z_tuple : PySem.W.nsIn K mainGlobals "tuple" = some none)
    (y_gcd : PySem.W.nsIn K mainGlobals "gcd" = some (some (.builtin "math.gcd")))
    (v_MOST_COIN : PySem.W.nsIn K mainGlobals "MOST_COIN" = some (some (.int 200 tk_MOST_COIN)))
    (v_MOST_COINS : PySem.W.nsIn K mainGlobals "MOST_COINS" = some (some (.int 6 tk_MOST_COINS)))
    (g_BadNumber : PySem.W.nsIn K mainGlobals "BadNumber" = some (some (.ref C_BadNumber)))
    (x_BadNumber : PySem.W.excIn K C_BadNumber [.type "ValueError", .type "Exception", .type "BaseException", .type "object"] "ValueError.__new__" = true)
    (kc_BadNumber : PySem.W.keepIn K (.ref C_BadNumber) = true)
    (s1_BadNumber : PySem.W.subIn K (.ref C_BadNumber) (.type "BaseException") = some true)
    (s2_BadNumber : PySem.W.typeIn K (.ref C_BadNumber) = some (.type "type"))
    (e1_BadNumber : PySem.W.findIn K (.ref C_BadNumber) "__getattribute__" = some (some (.builtin "BaseException.__getattribute__")))
    (e2_BadNumber : PySem.W.findIn K (.ref C_BadNumber) "__getattr__" = some none)
    (e3_BadNumber : PySem.W.hasDictIn K C_BadNumber = true)
    (e4_BadNumber : PySem.W.findIn K (.ref C_BadNumber) "__class__" = some (some (.builtin "object.__class__")))
    (e5_BadNumber : PySem.W.mroIn K C_BadNumber (.type "object") = some true)
    (q_BadNumber_BadNumber : PySem.W.subIn K (.ref C_BadNumber) (.ref C_BadNumber) = some true)
    (i1_BadNumber : PySem.W.subIn K (.ref C_BadNumber) (.type "BaseException") = some true)
    (i2_BadNumber : PySem.W.hasDictIn K C_BadNumber = true)
    (i3_BadNumber : PySem.W.typeIn K (.ref C_BadNumber) = some (.type "type"))
    (i4_BadNumber : PySem.W.subIn K (.ref C_BadNumber) (.ref C_BadNumber) = some true)
    (hn : PySem.W.specialIn K (.builtin "object.__class__") "__get__" = some (some (.builtin "getset_descriptor.__get__")))
    (ht : PySem.W.takesIn K (.builtin "object.__class__") = some true)
    (hpure : ∀ ns : List Int, ns.length ≤ 63 → (∀ z ∈ ns, Builtin.Int.intBits z ≤ 1048576) → f_law [.list (ns.map PyData.int)] = .ok (.val (.bool true))) :
    ∃ (fd : FuncData) (Fl : Fn), (∀ (s : Shared) (u : Value), BindsTo s fd ⟨[u], []⟩ [("script", u)]) ∧ (∀ ns : List Int, ns.length ≤ 63 → (∀ z ∈ ns, Builtin.Int.intBits z ≤ 1048576) → Fl [.list (ns.map PyData.int)] = .ok (.val (.bool true))) ∧
      ∀ base : Heap, K.In base → base.Ns mainGlobals mg → LawRun P w K mg base fa fd ["script"] (spP K mg 1 Fl) := by
  cases hfa.symm.trans (PySem.W.mg_of X G a_law)
  have T : Txt K mg C_BadNumber := { b_all := PySem.W.mg_none_of X G z_all, b_any := PySem.W.mg_none_of X G z_any, b_int := PySem.W.mg_none_of X G z_int, b_len := PySem.W.mg_none_of X G z_len, b_list := PySem.W.mg_none_of X G z_list, b_max := PySem.W.mg_none_of X G z_max, b_min := PySem.W.mg_none_of X G z_min, b_range := PySem.W.mg_none_of X G z_range, b_repr := PySem.W.mg_none_of X G z_repr, b_sorted := PySem.W.mg_none_of X G z_sorted, b_sum := PySem.W.mg_none_of X G z_sum, b_tuple := PySem.W.mg_none_of X G z_tuple, i_gcd := PySem.W.mg_of X G y_gcd, c_MOST_COIN := ⟨_, PySem.W.mg_of X G v_MOST_COIN⟩, c_MOST_COINS := ⟨_, PySem.W.mg_of X G v_MOST_COINS⟩, g_BadNumber := PySem.W.mg_of X G g_BadNumber, o_BadNumber := ⟨x_BadNumber, PySem.W.mg_of X G g_BadNumber, kc_BadNumber, s1_BadNumber, s2_BadNumber⟩, e_BadNumber := ⟨e1_BadNumber, e2_BadNumber, s1_BadNumber, e3_BadNumber, e4_BadNumber, hn, ht, e5_BadNumber⟩, m_BadNumber_BadNumber := PySem.W.exm_ref i1_BadNumber i2_BadNumber i3_BadNumber q_BadNumber_BadNumber }
  refine ⟨PySem.W.fnOf "law" "law" (defArgs s_law) (defBody s_law) (defScope s_law) .none kV_law dc_law pm_law an_law cd_law ct_law, f_law, fun s v => .of_eq rfl, hpure, fun base _ _ => ?_⟩
  have D_check_coins : Def K mg "check_coins" s_check_coins := ⟨F_check_coins, _, fun_mk (st := s_check_coins) l_check_coins c_check_coins k_check_coins, PySem.W.mg_of X G a_check_coins⟩
  have D_divisor_of : Def K mg "divisor_of" s_divisor_of := ⟨F_divisor_of, _, fun_mk (st := s_divisor_of) l_divisor_of c_divisor_of k_divisor_of, PySem.W.mg_of X G a_divisor_of⟩
  have D_row_of : Def K mg "row_of" s_row_of := ⟨F_row_of, _, fun_mk (st := s_row_of) l_row_of c_row_of k_row_of, PySem.W.mg_of X G a_row_of⟩
  have D_pays : Def K mg "pays" s_pays := ⟨F_pays, _, fun_mk (st := s_pays) l_pays c_pays k_pays, PySem.W.mg_of X G a_pays⟩
  have D_all_gaps : Def K mg "all_gaps" s_all_gaps := ⟨F_all_gaps, _, fun_mk (st := s_all_gaps) l_all_gaps c_all_gaps k_all_gaps, PySem.W.mg_of X G a_all_gaps⟩
  have D_gaps : Def K mg "gaps" s_gaps := ⟨F_gaps, _, fun_mk (st := s_gaps) l_gaps c_gaps k_gaps, PySem.W.mg_of X G a_gaps⟩
  have D_gap_count : Def K mg "gap_count" s_gap_count := ⟨F_gap_count, _, fun_mk (st := s_gap_count) l_gap_count c_gap_count k_gap_count, PySem.W.mg_of X G a_gap_count⟩
  have D_greatest_gap : Def K mg "greatest_gap" s_greatest_gap := ⟨F_greatest_gap, _, fun_mk (st := s_greatest_gap) l_greatest_gap c_greatest_gap k_greatest_gap, PySem.W.mg_of X G a_greatest_gap⟩
  have D_last_gaps : Def K mg "last_gaps" s_last_gaps := ⟨F_last_gaps, _, fun_mk (st := s_last_gaps) l_last_gaps c_last_gaps k_last_gaps, PySem.W.mg_of X G a_last_gaps⟩
  have D_is_even_handed : Def K mg "is_even_handed" s_is_even_handed := ⟨F_is_even_handed, _, fun_mk (st := s_is_even_handed) l_is_even_handed c_is_even_handed k_is_even_handed, PySem.W.mg_of X G a_is_even_handed⟩
  have D_u_law_number : Def K mg "_law_number" s_u_law_number := ⟨F_u_law_number, _, fun_mk (st := s_u_law_number) l_u_law_number c_u_law_number k_u_law_number, PySem.W.mg_of X G a_u_law_number⟩
  have D_u_law_draws : Def K mg "_law_draws" s_u_law_draws := ⟨F_u_law_draws, _, fun_mk (st := s_u_law_draws) l_u_law_draws c_u_law_draws k_u_law_draws, PySem.W.mg_of X G a_u_law_draws⟩
  have D_u_law_next : Def K mg "_law_next" s_u_law_next := ⟨F_u_law_next, _, fun_mk (st := s_u_law_next) l_u_law_next c_u_law_next k_u_law_next, PySem.W.mg_of X G a_u_law_next⟩
  have D_u_law_pick : Def K mg "_law_pick" s_u_law_pick := ⟨F_u_law_pick, _, fun_mk (st := s_u_law_pick) l_u_law_pick c_u_law_pick k_u_law_pick, PySem.W.mg_of X G a_u_law_pick⟩
  have D_u_law_more : Def K mg "_law_more" s_u_law_more := ⟨F_u_law_more, _, fun_mk (st := s_u_law_more) l_u_law_more c_u_law_more k_u_law_more, PySem.W.mg_of X G a_u_law_more⟩
  have D_u_law_coins : Def K mg "_law_coins" s_u_law_coins := ⟨F_u_law_coins, _, fun_mk (st := s_u_law_coins) l_u_law_coins c_u_law_coins k_u_law_coins, PySem.W.mg_of X G a_u_law_coins⟩
  have D_u_law_gcd : Def K mg "_law_gcd" s_u_law_gcd := ⟨F_u_law_gcd, _, fun_mk (st := s_u_law_gcd) l_u_law_gcd c_u_law_gcd k_u_law_gcd, PySem.W.mg_of X G a_u_law_gcd⟩
  have D_u_law_step : Def K mg "_law_step" s_u_law_step := ⟨F_u_law_step, _, fun_mk (st := s_u_law_step) l_u_law_step c_u_law_step k_u_law_step, PySem.W.mg_of X G a_u_law_step⟩
  have D_u_law_table : Def K mg "_law_table" s_u_law_table := ⟨F_u_law_table, _, fun_mk (st := s_u_law_table) l_u_law_table c_u_law_table k_u_law_table, PySem.W.mg_of X G a_u_law_table⟩
  have D_u_law_told : Def K mg "_law_told" s_u_law_told := ⟨F_u_law_told, _, fun_mk (st := s_u_law_told) l_u_law_told c_u_law_told k_u_law_told, PySem.W.mg_of X G a_u_law_told⟩
  have D_u_law_is_even : Def K mg "_law_is_even" s_u_law_is_even := ⟨F_u_law_is_even, _, fun_mk (st := s_u_law_is_even) l_u_law_is_even c_u_law_is_even k_u_law_is_even, PySem.W.mg_of X G a_u_law_is_even⟩
  have C_check_coins := ok_check_coins (P := P) (w := w) (base := base) T D_check_coins 
  have C_divisor_of := ok_divisor_of (P := P) (w := w) (base := base) T D_divisor_of 
  have C_row_of := ok_row_of (P := P) (w := w) (base := base) T D_row_of C_divisor_of
  have C_pays := ok_pays (P := P) (w := w) (base := base) T D_pays C_divisor_of
  have C_all_gaps := ok_all_gaps (P := P) (w := w) (base := base) T D_all_gaps C_row_of
  have C_gaps := ok_gaps (P := P) (w := w) (base := base) T D_gaps C_check_coins C_all_gaps
  have C_gap_count := ok_gap_count (P := P) (w := w) (base := base) T D_gap_count C_check_coins C_row_of
  have C_greatest_gap := ok_greatest_gap (P := P) (w := w) (base := base) T D_greatest_gap C_check_coins C_row_of
  have C_last_gaps := ok_last_gaps (P := P) (w := w) (base := base) T D_last_gaps C_check_coins C_row_of C_all_gaps C_pays
  have C_is_even_handed := ok_is_even_handed (P := P) (w := w) (base := base) T D_is_even_handed C_last_gaps
  have C_u_law_number := ok_u_law_number (P := P) (w := w) (base := base) T D_u_law_number 
  have C_u_law_draws := ok_u_law_draws (P := P) (w := w) (base := base) T D_u_law_draws C_u_law_number
  have C_u_law_next := ok_u_law_next (P := P) (w := w) (base := base) T D_u_law_next 
  have C_u_law_pick := ok_u_law_pick (P := P) (w := w) (base := base) T D_u_law_pick C_u_law_next
  have C_u_law_more := ok_u_law_more (P := P) (w := w) (base := base) T D_u_law_more C_u_law_next
  have C_u_law_coins := ok_u_law_coins (P := P) (w := w) (base := base) T D_u_law_coins C_u_law_pick C_u_law_next
  have C_u_law_gcd := ok_u_law_gcd (P := P) (w := w) (base := base) T D_u_law_gcd 
  have C_u_law_step := ok_u_law_step (P := P) (w := w) (base := base) T D_u_law_step C_u_law_gcd
  have C_u_law_table := ok_u_law_table (P := P) (w := w) (base := base) T D_u_law_table 
  have C_u_law_told := ok_u_law_told (P := P) (w := w) (base := base) T D_u_law_told C_gaps C_gap_count C_greatest_gap C_last_gaps C_is_even_handed
  have C_u_law_is_even := ok_u_law_is_even (P := P) (w := w) (base := base) T D_u_law_is_even 
  exact ok_law T (fun_mk (st := s_law) l_law c_law k_law) C_u_law_draws C_u_law_more C_u_law_coins C_u_law_step C_u_law_table C_u_law_told C_u_law_is_even
end K47
open PySem PySem.W PyProof.Rows
set_option maxRecDepth 100000 in
set_option maxHeartbeats 0 in
theorem PySem.Challenge.cw_tallyhull_k47_gaps_of_coins_holds : PySem.Challenge.rw_tallyhull_k47_gaps_of_coins.Holds := by
  w_on; o_law; k_head; (case hw => w_witness2)
  k_fill
  refine K47.walk (l := PySem.Challenge.rw_tallyhull_k47_gaps_of_coins) rfl rfl (fun w h Y => PySem.W.kIn_of Y) ?F
  case F =>
    intro w mg fa h KX G hmg
    refine' K47.all_mk KX G hmg ?a_check_coins ?l_check_coins ?c_check_coins ?k_check_coins ?a_divisor_of ?l_divisor_of ?c_divisor_of ?k_divisor_of ?a_row_of ?l_row_of ?c_row_of ?k_row_of ?a_pays ?l_pays ?c_pays ?k_pays ?a_all_gaps ?l_all_gaps ?c_all_gaps ?k_all_gaps ?a_gaps ?l_gaps ?c_gaps ?k_gaps ?a_gap_count ?l_gap_count ?c_gap_count ?k_gap_count ?a_greatest_gap ?l_greatest_gap ?c_greatest_gap ?k_greatest_gap ?a_last_gaps ?l_last_gaps ?c_last_gaps ?k_last_gaps ?a_is_even_handed ?l_is_even_handed ?c_is_even_handed ?k_is_even_handed ?a_u_law_number ?l_u_law_number ?c_u_law_number ?k_u_law_number ?a_u_law_draws ?l_u_law_draws ?c_u_law_draws ?k_u_law_draws ?a_u_law_next ?l_u_law_next ?c_u_law_next ?k_u_law_next ?a_u_law_pick ?l_u_law_pick ?c_u_law_pick ?k_u_law_pick ?a_u_law_more ?l_u_law_more ?c_u_law_more ?k_u_law_more ?a_u_law_coins ?l_u_law_coins ?c_u_law_coins ?k_u_law_coins ?a_u_law_gcd ?l_u_law_gcd ?c_u_law_gcd ?k_u_law_gcd ?a_u_law_step ?l_u_law_step ?c_u_law_step ?k_u_law_step ?a_u_law_table ?l_u_law_table ?c_u_law_table ?k_u_law_table ?a_u_law_told ?l_u_law_told ?c_u_law_told ?k_u_law_told ?a_u_law_is_even ?l_u_law_is_even ?c_u_law_is_even ?k_u_law_is_even ?a_law ?l_law ?c_law ?k_law ?z_all ?z_any ?z_int ?z_len ?z_list ?z_max ?z_min ?z_range ?z_repr ?z_sorted ?z_sum ?z_tuple ?y_gcd ?v_MOST_COIN ?v_MOST_COINS ?g_BadNumber ?x_BadNumber ?kc_BadNumber ?s1_BadNumber ?s2_BadNumber ?e1_BadNumber ?e2_BadNumber ?e3_BadNumber ?e4_BadNumber ?e5_BadNumber ?q_BadNumber_BadNumber ?i1_BadNumber ?i2_BadNumber ?i3_BadNumber ?i4_BadNumber ?hn ?ht K47.pure_law
    (case a_check_coins => k_is)
    (case l_check_coins => k_is)
    (case c_check_coins => k_is)
    (case k_check_coins => k_is)
    (case a_divisor_of => k_is)
    (case l_divisor_of => k_is)
    (case c_divisor_of => k_is)
    (case k_divisor_of => k_is)
    (case a_row_of => k_is)
    (case l_row_of => k_is)
    (case c_row_of => k_is)
    (case k_row_of => k_is)
    (case a_pays => k_is)
    (case l_pays => k_is)
    (case c_pays => k_is)
    (case k_pays => k_is)
    (case a_all_gaps => k_is)
    (case l_all_gaps => k_is)
    (case c_all_gaps => k_is)
    (case k_all_gaps => k_is)
    (case a_gaps => k_is)
    (case l_gaps => k_is)
    (case c_gaps => k_is)
    (case k_gaps => k_is)
    (case a_gap_count => k_is)
    (case l_gap_count => k_is)
    (case c_gap_count => k_is)
    (case k_gap_count => k_is)
    (case a_greatest_gap => k_is)
    (case l_greatest_gap => k_is)
    (case c_greatest_gap => k_is)
    (case k_greatest_gap => k_is)
    (case a_last_gaps => k_is)
    (case l_last_gaps => k_is)
    (case c_last_gaps => k_is)
    (case k_last_gaps => k_is)
    (case a_is_even_handed => k_is)
    (case l_is_even_handed => k_is)
    (case c_is_even_handed => k_is)
    (case k_is_even_handed => k_is)
    (case a_u_law_number => k_is)
    (case l_u_law_number => k_is)
    (case c_u_law_number => k_is)
    (case k_u_law_number => k_is)
    (case a_u_law_draws => k_is)
    (case l_u_law_draws => k_is)
    (case c_u_law_draws => k_is)
    (case k_u_law_draws => k_is)
    (case a_u_law_next => k_is)
    (case l_u_law_next => k_is)
    (case c_u_law_next => k_is)
    (case k_u_law_next => k_is)
    (case a_u_law_pick => k_is)
    (case l_u_law_pick => k_is)
    (case c_u_law_pick => k_is)
    (case k_u_law_pick => k_is)
    (case a_u_law_more => k_is)
    (case l_u_law_more => k_is)
    (case c_u_law_more => k_is)
    (case k_u_law_more => k_is)
    (case a_u_law_coins => k_is)
    (case l_u_law_coins => k_is)
    (case c_u_law_coins => k_is)
    (case k_u_law_coins => k_is)
    (case a_u_law_gcd => k_is)
    (case l_u_law_gcd => k_is)
    (case c_u_law_gcd => k_is)
    (case k_u_law_gcd => k_is)
    (case a_u_law_step => k_is)
    (case l_u_law_step => k_is)
    (case c_u_law_step => k_is)
    (case k_u_law_step => k_is)
    (case a_u_law_table => k_is)
    (case l_u_law_table => k_is)
    (case c_u_law_table => k_is)
    (case k_u_law_table => k_is)
    (case a_u_law_told => k_is)
    (case l_u_law_told => k_is)
    (case c_u_law_told => k_is)
    (case k_u_law_told => k_is)
    (case a_u_law_is_even => k_is)
    (case l_u_law_is_even => k_is)
    (case c_u_law_is_even => k_is)
    (case k_u_law_is_even => k_is)
    (case a_law => k_is)
    (case l_law => k_is)
    (case c_law => k_is)
    (case k_law => k_is)
    (case z_all => k_is)
    (case z_any => k_is)
    (case z_int => k_is)
    (case z_len => k_is)
    (case z_list => k_is)
    (case z_max => k_is)
    (case z_min => k_is)
    (case z_range => k_is)
    (case z_repr => k_is)
    (case z_sorted => k_is)
    (case z_sum => k_is)
    (case z_tuple => k_is)
    (case y_gcd => k_is)
    (case v_MOST_COIN => k_is)
    (case v_MOST_COINS => k_is)
    (case g_BadNumber => k_is)
    (case x_BadNumber => k_exc)
    (case kc_BadNumber => k_is)
    (case s1_BadNumber => k_is)
    (case s2_BadNumber => k_is)
    (case e1_BadNumber => k_is)
    (case e2_BadNumber => k_is)
    (case e3_BadNumber => k_is)
    (case e4_BadNumber => k_is)
    (case e5_BadNumber => k_is)
    (case q_BadNumber_BadNumber => k_is)
    (case i1_BadNumber => k_is)
    (case i2_BadNumber => k_is)
    (case i3_BadNumber => k_is)
    (case i4_BadNumber => first | rfl | k_is)
    (case hn => k_is)
    (case ht => k_is)
