import PyProof.Rows.All
import Wide.All
import OpenK.AllK
import Wide.FinOn
import HandS.ForMost
import HandS.ForExc
import HandS.Flow
import HandS.TupAny
import HandS.Wide
import HandS.Gcd
import KE.DataCmp
import HandS.Walk
import HandS.Zip
import HandS.ExcCtx
import HandS.HotCalls
import HandS.TupMul
import HandS.Deep
import HandS.RaiseMore
import KE.DataAny
import PyProof.ReprRoads
import HandS.Style
import HandS.SortInts
import KE.KTupSum
import HandS.ExcIs
import PyProof.ExcBaseAll.ValueError
import KE.DataFind
import HandS.EndBits
import PyProof.ReprLen
import HandS.Dict
import HandS.Remove
import KE.SortData
import HandS.Conv
import HandS.Star
import KE.GoesEnum
import HandS.DictComp
import HandS.WordsDict
import PySem.Challenge.RW_tallyhull_k03_coordinates_and_orthogonal
set_option Elab.async false
set_option linter.all false
set_option maxRecDepth 100000
set_option maxHeartbeats 4000001
/-! DL: what a piece of Python computes on plain data, over the hand layer. -/
namespace DL
open L2 PySem PySem.Spec PyProof.Rows

abbrev D := PyData
/-- what a name may own alone -/
inductive Cell where
  | lst (ds : List D)
  | dK (kvs : List (Key × D))
  | dT (kvs : List (List Key × D))
/-- what a name holds: data, or a thing that it owns (io: handed in by the caller, who sees the changes) -/
inductive SV where
  | val (d : D)
  | own (io : Bool) (c : Cell)
  | raw (a : Addr)
abbrev DEnv := List (Option SV)
structure Exn where
  cls : Str
  arg : Option Int := none
/-- what an expression gives: data, or the thing that the name i owns -/
inductive EV where
  | val (d : D)
  | bor (i : Nat)
inductive Res (α : Type) where
  | ok (a : α) (ρ : DEnv)
  | err (x : Exn) (ρ : DEnv)
  | bad
inductive RV where
  | val (d : D)
  | own (c : Cell)
inductive Fl where
  | nx (ρ : DEnv)
  | rt (v : RV) (ρ : DEnv)
  | bk (ρ : DEnv)
  | ct (ρ : DEnv)
  | err (x : Exn) (ρ : DEnv)
  | bad

abbrev Frg := PySem.W.Frag
abbrev Mg := Str → Option Value

/-! ### data in a heap: more of it stays -/
section
variable {K : Frg} {G G' : Hp}
theorem SqL.mono (h : ∀ a o, G a = some o → G' a = some o) {a : Addr} {xs : List V} (s : SqL K G a xs) : SqL K G' a xs := by
  rcases s with (s | ⟨o, s⟩) | s
  · exact .inl (.inl (h _ _ s))
  · exact .inl (.inr ⟨o, h _ _ s⟩)
  · exact .inr s
theorem SqT.mono (h : ∀ a o, G a = some o → G' a = some o) {a : Addr} {xs : List V} (s : SqT K G a xs) : SqT K G' a xs := by
  rcases s with (s | ⟨o, s⟩) | s
  · exact .inl (.inl (h _ _ s))
  · exact .inl (.inr ⟨o, h _ _ s⟩)
  · exact .inr s
mutual
theorem dp_mono (h : ∀ a o, G a = some o → G' a = some o) : ∀ (d : PyData) (v : V), Dp K G v d → Dp K G' v d
  | .none, _, q => by cases q; exact .non
  | .bool b, _, q => by cases q; exact .bl b
  | .int i, _, q => by cases q; exact .int i
  | .str x, _, q => by cases q; exact .str x
  | .list ds, _, q => by
    cases q with
    | lst s a => exact .lst (SqL.mono h s) (dpAll_mono h ds _ a)
  | .tuple ds, _, q => by
    cases q with
    | tup s a => exact .tup (SqT.mono h s) (dpAll_mono h ds _ a)
  | .dict _, _, q => by cases q
theorem dpAll_mono (h : ∀ a o, G a = some o → G' a = some o) : ∀ (ds : List PyData) (vs : List V), DpAll K G vs ds → DpAll K G' vs ds
  | [], _, q => by cases q; exact .nil
  | d :: ds, _, q => by
    cases q with
    | cons a b => exact .cons (dp_mono h d _ a) (dpAll_mono h ds _ b)
end
theorem DpAll.length : ∀ {vs : List V} {ds : List PyData}, DpAll K G vs ds → vs.length = ds.length
  | _, [], q => by cases q; rfl
  | _, d :: ds, q => by
    cases q with
    | cons a b => simp [DpAll.length b]
theorem DpAll.at : ∀ {vs : List V} {ds : List PyData} {i : Nat} {d : PyData}, DpAll K G vs ds → ds[i]? = some d → ∃ v, vs[i]? = some v ∧ Dp K G v d
  | _, [], i, d, q, e => by simp at e
  | _, d' :: ds, i, d, q, e => by
    cases q with
    | cons a b =>
      cases i with
      | zero => simp at e; subst e; exact ⟨_, by simp, a⟩
      | succ i =>
        obtain ⟨v, h1, h2⟩ := DpAll.at (i := i) b (by simpa using e)
        exact ⟨v, by simpa using h1, h2⟩
theorem DpAll.atV : ∀ {vs : List V} {ds : List PyData} {i : Nat} {v : V}, DpAll K G vs ds → vs[i]? = some v → ∃ d, ds[i]? = some d ∧ Dp K G v d
  | _, [], i, d, q, e => by cases q; simp at e
  | _, d' :: ds, i, d, q, e => by
    cases q with
    | cons a b =>
      cases i with
      | zero => simp at e; subst e; exact ⟨_, by simp, a⟩
      | succ i =>
        obtain ⟨v, h1, h2⟩ := DpAll.atV (i := i) b (by simpa using e)
        exact ⟨v, by simpa using h1, h2⟩
theorem DpAll.append : ∀ {vs ws : List V} {ds es : List PyData}, DpAll K G vs ds → DpAll K G ws es → DpAll K G (vs ++ ws) (ds ++ es)
  | _, _, [], _, q, r => by cases q; exact r
  | _, _, d :: ds, _, q, r => by
    cases q with
    | cons a b => exact .cons a (DpAll.append b r)
theorem DpAll.take : ∀ {vs : List V} {ds : List PyData} (n : Nat), DpAll K G vs ds → DpAll K G (vs.take n) (ds.take n)
  | _, [], n, q => by cases q; simp; exact .nil
  | _, d :: ds, 0, q => by simp; exact .nil
  | _, d :: ds, n + 1, q => by
    cases q with
    | cons a b => simp; exact .cons a (DpAll.take n b)
theorem DpAll.drop : ∀ {vs : List V} {ds : List PyData} (n : Nat), DpAll K G vs ds → DpAll K G (vs.drop n) (ds.drop n)
  | _, [], n, q => by cases q; simp; exact .nil
  | _, d :: ds, 0, q => q
  | _, d :: ds, n + 1, q => by
    cases q with
    | cons a b => simp; exact DpAll.drop n b
theorem DpAll.reverse : ∀ {vs : List V} {ds : List PyData}, DpAll K G vs ds → DpAll K G vs.reverse ds.reverse
  | _, [], q => by cases q; exact .nil
  | _, d :: ds, q => by
    cases q with
    | cons a b => simp; exact DpAll.append (DpAll.reverse b) (.cons a .nil)
theorem DpAll.set : ∀ {vs : List V} {ds : List PyData} {v : V} {d : PyData} (i : Nat), DpAll K G vs ds → Dp K G v d → DpAll K G (vs.set i v) (ds.set i d)
  | _, [], _, _, i, q, r => by cases q; exact .nil
  | _, d :: ds, _, _, 0, q, r => by
    cases q with
    | cons a b => exact .cons r b
  | _, d :: ds, _, _, i + 1, q, r => by
    cases q with
    | cons a b => exact .cons a (DpAll.set i b r)
theorem DpAll.ints : ∀ {vs : List V} {ns : List Int}, DpAll K G vs (ns.map PyData.int) → vs = ns.map V.int
  | _, [], q => by cases q; rfl
  | _, n :: ns, q => by
    cases q with
    | cons a b => cases a; rw [DpAll.ints b]; rfl
theorem DpAll.of_ints : ∀ (ns : List Int), DpAll K G (ns.map V.int) (ns.map PyData.int)
  | [] => .nil
  | n :: ns => .cons (.int n) (DpAll.of_ints ns)
end

/-- data without an address -/
def flat : PyData → Option V
  | .none => some .non
  | .bool b => some (.bl b)
  | .int i => some (.int i)
  | .str x => some (.str x)
  | _ => none
theorem flat_dp {K : Frg} {G : Hp} : ∀ {d : PyData} {v : V}, flat d = some v → Dp K G v d
  | .none, _, e => by cases e; exact .non
  | .bool b, _, e => by cases e; exact .bl b
  | .int i, _, e => by cases e; exact .int i
  | .str x, _, e => by cases e; exact .str x
  | .list _, _, e => by cases e
  | .tuple _, _, e => by cases e
  | .dict _, _, e => by cases e
theorem flat_eq {K : Frg} {G : Hp} : ∀ {d : PyData} {v w : V}, flat d = some v → Dp K G w d → w = v
  | .none, _, _, e, q => by cases e; cases q; rfl
  | .bool b, _, _, e, q => by cases e; cases q; rfl
  | .int i, _, _, e, q => by cases e; cases q; rfl
  | .str x, _, _, e, q => by cases e; cases q; rfl
  | .list _, _, _, e, _ => by cases e
  | .tuple _, _, _, e, _ => by cases e
  | .dict _, _, _, e, _ => by cases e
theorem dp_any {K : Frg} {G G' : Hp} {d : PyData} {v w : V} (h : Dp K G v d) (f : flat d = some w) : Dp K G' v d := by
  rw [flat_eq f h]; exact flat_dp f

/-! ### what is owned, what is seen -/
def Ow (σ : L2.St) (ρ : DEnv) (a : Addr) : Prop := ∃ (i : Nat) (b : Bool) (c : Cell), ρ[i]? = some (some (.own b c)) ∧ σ[i]? = some (some (V.ref a))
open Classical in
noncomputable def Gv (O : Addr → Prop) (σ : L2.St) (ρ : DEnv) (H : Hp) : Hp := fun a => if O a ∨ Ow σ ρ a then none else H a
theorem Gv_of {O : Addr → Prop} {σ : L2.St} {ρ : DEnv} {H : Hp} {a : Addr} {o : HO} (h1 : ¬ O a) (h2 : ¬ Ow σ ρ a) (h : H a = some o) : Gv O σ ρ H a = some o := by
  unfold Gv; rw [if_neg (fun q => q.elim h1 h2)]; exact h
theorem of_Gv {O : Addr → Prop} {σ : L2.St} {ρ : DEnv} {H : Hp} {a : Addr} {o : HO} (h : Gv O σ ρ H a = some o) : ¬ O a ∧ ¬ Ow σ ρ a ∧ H a = some o := by
  unfold Gv at h
  split at h
  · cases h
  · rename_i q; exact ⟨fun z => q (.inl z), fun z => q (.inr z), h⟩
theorem Gv_sub {O : Addr → Prop} {σ : L2.St} {ρ : DEnv} {H : Hp} : ∀ a o, Gv O σ ρ H a = some o → H a = some o := fun _ _ h => (of_Gv h).2.2

def CellOk (K : Frg) (G H : Hp) (a : Addr) : Cell → Prop
  | .lst ds => ∃ vs, H a = some (.lst vs) ∧ DpAll K G vs ds
  | .dK kvs => ∃ vvs : List (Key × V), H a = some (.dK vvs) ∧ vvs.map (·.1) = kvs.map (·.1) ∧ DpAll K G (vvs.map (·.2)) (kvs.map (·.2))
  | .dT kvs => ∃ vvs : List (List Key × V), H a = some (.dT vvs) ∧ vvs.map (·.1) = kvs.map (·.1) ∧ DpAll K G (vvs.map (·.2)) (kvs.map (·.2))
theorem CellOk.mono {K : Frg} {G G' H H' : Hp} {a : Addr} {c : Cell} (h : CellOk K G H a c) (hg : ∀ a o, G a = some o → G' a = some o) (ha : ∀ o, H a = some o → H' a = some o) : CellOk K G' H' a c := by
  cases c with
  | lst ds => obtain ⟨vs, e, q⟩ := h; exact ⟨vs, ha _ e, dpAll_mono hg _ _ q⟩
  | dK kvs => obtain ⟨vs, e, k, q⟩ := h; exact ⟨vs, ha _ e, k, dpAll_mono hg _ _ q⟩
  | dT kvs => obtain ⟨vs, e, k, q⟩ := h; exact ⟨vs, ha _ e, k, dpAll_mono hg _ _ q⟩
theorem CellOk.some {K : Frg} {G H : Hp} {a : Addr} {c : Cell} (h : CellOk K G H a c) : ∃ o, H a = some o := by
  cases c with
  | lst ds => obtain ⟨vs, e, q⟩ := h; exact ⟨_, e⟩
  | dK kvs => obtain ⟨vs, e, k, q⟩ := h; exact ⟨_, e⟩
  | dT kvs => obtain ⟨vs, e, k, q⟩ := h; exact ⟨_, e⟩

structure RelEnv (K : Frg) (O : Addr → Prop) (σ : L2.St) (H : Hp) (ρ : DEnv) : Prop where
  len : σ.length = ρ.length
  oa : ∀ a, O a → H a ≠ none
  val : ∀ (i : Nat) (d : D), ρ[i]? = some (some (.val d)) → ∃ v, σ[i]? = some (some v) ∧ Dp K (Gv O σ ρ H) v d
  own : ∀ (i : Nat) (b : Bool) (c : Cell), ρ[i]? = some (some (.own b c)) → ∃ a, σ[i]? = some (some (.ref a)) ∧ ¬ O a ∧ CellOk K (Gv O σ ρ H) H a c
  inj : ∀ (i j : Nat) (a : Addr) (b : Bool) (c : Cell) (b' : Bool) (c' : Cell), ρ[i]? = some (some (.own b c)) → ρ[j]? = some (some (.own b' c')) → σ[i]? = some (some (.ref a)) → σ[j]? = some (some (.ref a)) → i = j
  raw : ∀ (i : Nat) (a : Addr), ρ[i]? = some (some (.raw a)) → σ[i]? = some (some (.ref a))

/-- a step of an expression: what this frame does not own stays -/
structure EStp (σ : L2.St) (ρ : DEnv) (H : Hp) (ρ' : DEnv) (H' : Hp) : Prop where
  ext : ∀ b o, H b = some o → ¬ Ow σ ρ b → H' b = some o
  al : ∀ b, H b ≠ none → H' b ≠ none
  own : ∀ b, Ow σ ρ' b → Ow σ ρ b
  io : ∀ (i : Nat) (c : Cell), ρ[i]? = some (some (.own true c)) → ∃ c', ρ'[i]? = some (some (.own true c'))
theorem EStp.refl {σ : L2.St} {ρ : DEnv} {H : Hp} : EStp σ ρ H ρ H := ⟨fun _ _ h _ => h, fun _ h => h, fun _ h => h, fun _ c h => ⟨c, h⟩⟩
theorem EStp.trans {σ : L2.St} {ρ ρ1 ρ2 : DEnv} {H H1 H2 : Hp} (a : EStp σ ρ H ρ1 H1) (b : EStp σ ρ1 H1 ρ2 H2) : EStp σ ρ H ρ2 H2 :=
  ⟨fun c o h n => b.ext c o (a.ext c o h n) fun q => n (a.own c q), fun c h => b.al c (a.al c h), fun c h => a.own c (b.own c h), fun i c h => let ⟨c', h'⟩ := a.io i c h; b.io i c' h'⟩
theorem EStp.same {σ : L2.St} {ρ : DEnv} {H H' : Hp} (h : Same H H') : EStp σ ρ H ρ H' := by
  refine ⟨fun b o e _ => h b o e, fun b e q => ?_, fun _ h => h, fun _ c h => ⟨c, h⟩⟩
  cases z : H b with
  | none => exact e z
  | some o => rw [h b o z] at q; cases q
theorem EStp.gv {O : Addr → Prop} {σ : L2.St} {ρ ρ' : DEnv} {H H' : Hp} (s : EStp σ ρ H ρ' H') : ∀ a o, Gv O σ ρ H a = some o → Gv O σ ρ' H' a = some o := fun a o h => by
  obtain ⟨h1, h2, h3⟩ := of_Gv h
  exact Gv_of h1 (fun q => h2 (s.own a q)) (s.ext a o h3 h2)
theorem same_gv {O : Addr → Prop} {σ : L2.St} {ρ : DEnv} {H H' : Hp} (s : Same H H') : ∀ a o, Gv O σ ρ H a = some o → Gv O σ ρ H' a = some o := (EStp.same s).gv
theorem RelEnv.same {K : Frg} {O : Addr → Prop} {σ : L2.St} {ρ : DEnv} {H H' : Hp} (r : RelEnv K O σ H ρ) (s : Same H H') : RelEnv K O σ H' ρ :=
  ⟨r.len, fun a q => (EStp.same (σ := σ) (ρ := ρ) s).al a (r.oa a q), fun i d e => let ⟨v, h1, h2⟩ := r.val i d e; ⟨v, h1, dp_mono (same_gv s) _ _ h2⟩,
   fun i b c e => let ⟨a, h1, h2, h3⟩ := r.own i b c e; ⟨a, h1, h2, h3.mono (same_gv s) fun o q => s _ _ q⟩, r.inj, r.raw⟩
theorem RelEnv.owSome {K : Frg} {O : Addr → Prop} {σ : L2.St} {ρ : DEnv} {H : Hp} (r : RelEnv K O σ H ρ) {a : Addr} (h : Ow σ ρ a) : ∃ o, H a = some o := by
  obtain ⟨i, b, c, e1, e2⟩ := h
  obtain ⟨a', h1, h2, h3⟩ := r.own i b c e1
  rw [e2] at h1; cases h1
  exact h3.some
theorem RelEnv.owO {K : Frg} {O : Addr → Prop} {σ : L2.St} {ρ : DEnv} {H : Hp} (r : RelEnv K O σ H ρ) {a : Addr} (h : Ow σ ρ a) : ¬ O a := by
  obtain ⟨i, b, c, e1, e2⟩ := h
  obtain ⟨a', h1, h2, h3⟩ := r.own i b c e1
  rw [e2] at h1; cases h1
  exact h2
theorem RelEnv.fresh {K : Frg} {O : Addr → Prop} {σ : L2.St} {ρ : DEnv} {H : Hp} (r : RelEnv K O σ H ρ) {p : Addr} (h : H p = none) : ¬ O p ∧ ¬ Ow σ ρ p :=
  ⟨fun q => r.oa p q h, fun q => by obtain ⟨o, e⟩ := r.owSome q; rw [h] at e; cases e⟩

/-- what an expression has given -/
def RelE (K : Frg) (O : Addr → Prop) (σ : L2.St) (ρ : DEnv) (H : Hp) (u : V) : EV → Prop
  | .val d => Dp K (Gv O σ ρ H) u d
  | .bor i => σ[i]? = some (some u)
theorem RelE.mono {K : Frg} {O : Addr → Prop} {σ : L2.St} {ρ ρ' : DEnv} {H H' : Hp} {u : V} {v : EV} (h : RelE K O σ ρ H u v) (s : EStp σ ρ H ρ' H') : RelE K O σ ρ' H' u v := by
  cases v with
  | val d => exact dp_mono s.gv _ _ h
  | bor i => exact h
def RelEs (K : Frg) (O : Addr → Prop) (σ : L2.St) (ρ : DEnv) (H : Hp) : List V → List EV → Prop
  | [], [] => True
  | u :: us, v :: vs => RelE K O σ ρ H u v ∧ RelEs K O σ ρ H us vs
  | _, _ => False
theorem RelEs.mono {K : Frg} {O : Addr → Prop} {σ : L2.St} {ρ ρ' : DEnv} {H H' : Hp} (s : EStp σ ρ H ρ' H') : ∀ {us : List V} {vs : List EV}, RelEs K O σ ρ H us vs → RelEs K O σ ρ' H' us vs
  | [], [], _ => trivial
  | u :: us, v :: vs, h => ⟨h.1.mono s, RelEs.mono s h.2⟩
  | [], _ :: _, h => h
  | _ :: _, [], h => h

/-- the data of what an expression gives -/
def deref (ρ : DEnv) : EV → Option D
  | .val d => some d
  | .bor i => match ρ[i]? with
    | some (some (.own _ (.lst ds))) => some (.list ds)
    | some (some (.val d)) => some d
    | _ => none
theorem RelE.dp {K : Frg} {O : Addr → Prop} {σ : L2.St} {ρ : DEnv} {H : Hp} {u : V} {v : EV} {d : D} (h : RelE K O σ ρ H u v) (r : RelEnv K O σ H ρ) (e : deref ρ v = some d) : Dp K H u d := by
  cases v with
  | val d' => cases e; exact dp_mono Gv_sub _ _ h
  | bor i =>
    have h' : σ[i]? = some (some u) := h
    unfold deref at e
    dsimp only at e
    split at e
    · rename_i b ds q
      cases e
      obtain ⟨a, h1, h2, vs, h3, h4⟩ := r.own i b _ q
      rw [h'] at h1; cases h1
      exact .lst (SqL.of h3) (dpAll_mono Gv_sub _ _ h4)
    · rename_i d' q
      cases e
      obtain ⟨w, h1, h2⟩ := r.val i _ q
      rw [h'] at h1; cases h1
      exact dp_mono Gv_sub _ _ h2
    · cases e
/-- a sequence: the list or tuple itself, its items seen -/
theorem RelE.lst {K : Frg} {O : Addr → Prop} {σ : L2.St} {ρ : DEnv} {H : Hp} {u : V} {v : EV} {ds : List D} (h : RelE K O σ ρ H u v) (r : RelEnv K O σ H ρ) (e : deref ρ v = some (.list ds)) :
    ∃ a vs, u = .ref a ∧ SqL K H a vs ∧ DpAll K (Gv O σ ρ H) vs ds := by
  cases v with
  | val d' =>
    cases e
    have h' : Dp K (Gv O σ ρ H) u (.list ds) := h
    cases h' with
    | lst s a => exact ⟨_, _, rfl, SqL.mono Gv_sub s, a⟩
  | bor i =>
    have h' : σ[i]? = some (some u) := h
    unfold deref at e
    dsimp only at e
    split at e
    · rename_i b ds q
      cases e
      obtain ⟨a, h1, h2, vs, h3, h4⟩ := r.own i b _ q
      rw [h'] at h1; cases h1
      exact ⟨_, _, rfl, SqL.of h3, h4⟩
    · rename_i d' q
      cases e
      obtain ⟨w, h1, h2⟩ := r.val i _ q
      rw [h'] at h1; cases h1
      cases h2 with
      | lst s a => exact ⟨_, _, rfl, SqL.mono Gv_sub s, a⟩
    · cases e
theorem RelE.tup {K : Frg} {O : Addr → Prop} {σ : L2.St} {ρ : DEnv} {H : Hp} {u : V} {v : EV} {ds : List D} (h : RelE K O σ ρ H u v) (r : RelEnv K O σ H ρ) (e : deref ρ v = some (.tuple ds)) :
    ∃ a vs, u = .ref a ∧ SqT K (Gv O σ ρ H) a vs ∧ DpAll K (Gv O σ ρ H) vs ds := by
  cases v with
  | val d' =>
    cases e
    have h' : Dp K (Gv O σ ρ H) u (.tuple ds) := h
    cases h' with
    | tup s a => exact ⟨_, _, rfl, s, a⟩
  | bor i =>
    have h' : σ[i]? = some (some u) := h
    unfold deref at e
    dsimp only at e
    split at e
    · cases e
    · rename_i d' q
      cases e
      obtain ⟨w, h1, h2⟩ := r.val i _ q
      rw [h'] at h1; cases h1
      cases h2 with
      | tup s a => exact ⟨_, _, rfl, s, a⟩
    · cases e

/-! ### giving up what is owned -/
/-- the name i keeps its list as data from now on -/
def frzAt (i : Nat) (ρ : DEnv) : Option (D × DEnv) := match ρ[i]? with
  | some (some (.own false (.lst ds))) => some (.list ds, ρ.set i (some (.val (.list ds))))
  | some (some (.val d)) => some (d, ρ)
  | _ => none
theorem ow_set {σ : L2.St} {ρ : DEnv} {i : Nat} {d : D} {b : Addr} (h : Ow σ (ρ.set i (some (.val d))) b) : Ow σ ρ b := by
  obtain ⟨j, b, c, e1, e2⟩ := h
  by_cases hj : i = j
  · subst hj
    rw [List.getElem?_set] at e1
    simp only [if_true] at e1
    split at e1 <;> cases e1
  · rw [List.getElem?_set_ne hj] at e1
    exact ⟨j, b, c, e1, e2⟩
theorem frz_ok {K : Frg} {O : Addr → Prop} {σ : L2.St} {ρ : DEnv} {H : Hp} {i : Nat} {ds : List D} (r : RelEnv K O σ H ρ) (e : ρ[i]? = some (some (.own false (.lst ds)))) :
    RelEnv K O σ H (ρ.set i (some (.val (.list ds)))) ∧ EStp σ ρ H (ρ.set i (some (.val (.list ds)))) H := by
  have hi : i < ρ.length := (List.getElem?_eq_some_iff.mp e).1
  have st : EStp σ ρ H (ρ.set i (some (.val (.list ds)))) H := ⟨fun _ _ h _ => h, fun _ h => h, fun b h => ow_set h, fun j c h => ⟨c, by
    have hj : i ≠ j := by rintro rfl; rw [e] at h; cases h
    rw [List.getElem?_set_ne hj]; exact h⟩⟩
  refine ⟨⟨by rw [List.length_set]; exact r.len, r.oa, fun j d h => ?_, fun j b c h => ?_, fun j k a b c b' c' h1 h2 h3 h4 => ?_, fun j a h => r.raw j a (by
    have hj : i ≠ j := by rintro rfl; rw [List.getElem?_set_self hi] at h; cases h
    rw [List.getElem?_set_ne hj] at h; exact h)⟩, st⟩
  · by_cases hj : i = j
    · subst hj
      rw [List.getElem?_set_self hi] at h
      cases h
      obtain ⟨a, h1, h2, vs, h3, h4⟩ := r.own i _ _ e
      refine ⟨_, h1, .lst (SqL.of (Gv_of h2 ?_ h3)) (dpAll_mono st.gv _ _ h4)⟩
      rintro ⟨k, b, c, e1, e2⟩
      by_cases hk : i = k
      · subst hk
        rw [List.getElem?_set_self hi] at e1
        cases e1
      · rw [List.getElem?_set_ne hk] at e1
        exact hk (r.inj i k a _ _ _ _ e e1 h1 e2)
    · rw [List.getElem?_set_ne hj] at h
      obtain ⟨v, h1, h2⟩ := r.val j d h
      exact ⟨v, h1, dp_mono st.gv _ _ h2⟩
  · by_cases hj : i = j
    · subst hj
      rw [List.getElem?_set_self hi] at h
      cases h
    · rw [List.getElem?_set_ne hj] at h
      obtain ⟨a, h1, h2, h3⟩ := r.own j b c h
      exact ⟨a, h1, h2, h3.mono st.gv fun _ q => q⟩
  · have n1 : i ≠ j := by rintro rfl; rw [List.getElem?_set_self hi] at h1; cases h1
    have n2 : i ≠ k := by rintro rfl; rw [List.getElem?_set_self hi] at h2; cases h2
    rw [List.getElem?_set_ne n1] at h1
    rw [List.getElem?_set_ne n2] at h2
    exact r.inj j k a _ _ _ _ h1 h2 h3 h4
/-- data, given up if it was owned -/
def keep (v : EV) (ρ : DEnv) : Option (D × DEnv) := match v with
  | .val d => some (d, ρ)
  | .bor i => frzAt i ρ
theorem keep_ok {K : Frg} {O : Addr → Prop} {σ : L2.St} {ρ ρ' : DEnv} {H : Hp} {u : V} {v : EV} {d : D} (r : RelEnv K O σ H ρ) (h : RelE K O σ ρ H u v) (e : keep v ρ = some (d, ρ')) :
    RelEnv K O σ H ρ' ∧ EStp σ ρ H ρ' H ∧ Dp K (Gv O σ ρ' H) u d := by
  cases v with
  | val d' => cases e; exact ⟨r, .refl, h⟩
  | bor i =>
    have h' : σ[i]? = some (some u) := h
    unfold keep frzAt at e
    dsimp only at e
    split at e
    · rename_i ds q
      cases e
      obtain ⟨a, b⟩ := frz_ok r q
      have hi : i < ρ.length := (List.getElem?_eq_some_iff.mp q).1
      obtain ⟨w, h1, h2⟩ := a.val i (.list ds) (List.getElem?_set_self hi)
      rw [h'] at h1; cases h1
      exact ⟨a, b, h2⟩
    · rename_i d' q
      cases e
      obtain ⟨w, h1, h2⟩ := r.val i _ q
      rw [h'] at h1; cases h1
      exact ⟨r, .refl, h2⟩
    · cases e
def keeps : List EV → DEnv → Option (List D × DEnv)
  | [], ρ => some ([], ρ)
  | v :: vs, ρ => match keep v ρ with
    | some (d, ρ1) => match keeps vs ρ1 with
      | some (ds, ρ2) => some (d :: ds, ρ2)
      | none => none
    | none => none
theorem keeps_ok {K : Frg} {O : Addr → Prop} {σ : L2.St} {H : Hp} : ∀ {us : List V} {vs : List EV} {ds : List D} {ρ ρ' : DEnv}, RelEnv K O σ H ρ → RelEs K O σ ρ H us vs → keeps vs ρ = some (ds, ρ') →
    RelEnv K O σ H ρ' ∧ EStp σ ρ H ρ' H ∧ DpAll K (Gv O σ ρ' H) us ds
  | [], [], ds, ρ, ρ', r, h, e => by cases e; exact ⟨r, .refl, .nil⟩
  | u :: us, v :: vs, ds, ρ, ρ', r, h, e => by
    unfold keeps at e
    split at e
    · rename_i d ρ1 q
      split at e
      · rename_i ds' ρ2 q2
        cases e
        obtain ⟨a1, b1, c1⟩ := keep_ok r h.1 q
        obtain ⟨a2, b2, c2⟩ := keeps_ok a1 (h.2.mono b1) q2
        exact ⟨a2, b1.trans b2, .cons (dp_mono b2.gv _ _ c1) c2⟩
      · cases e
    · cases e
  | [], _ :: _, _, _, _, _, h, _ => h.elim
  | _ :: _, [], _, _, _, _, h, _ => h.elim
end DL

namespace DL
open L2 PySem PySem.Spec PyProof.Rows

/-- the exception x as it lies -/
def ExnAt (mg : Mg) (x : Exn) (cls : Value) (d : Option Addr) (H : Hp) : Prop :=
  ∃ C, mg x.cls = some (.ref C) ∧ cls = .ref C ∧ match x.arg with
    | none => d = none
    | some n => ∃ dd fs, d = some dd ∧ H dd = some (.xd fs) ∧ List.lookup ("at" : Str) fs = some (.int n)

def bindR {α β : Type} (r : Res α) (k : α → DEnv → Res β) : Res β := match r with
  | .ok a ρ => k a ρ
  | .err x ρ => .err x ρ
  | .bad => .bad
@[simp] theorem bindR_ok {α β : Type} (a : α) (ρ : DEnv) (k : α → DEnv → Res β) : bindR (.ok a ρ) k = k a ρ := (Eq.refl _).trans (Eq.refl _)
@[simp] theorem bindR_err {α β : Type} (x : Exn) (ρ : DEnv) (k : α → DEnv → Res β) : bindR (.err x ρ : Res α) k = .err x ρ := (Eq.refl _).trans (Eq.refl _)
@[simp] theorem bindR_bad {α β : Type} (k : α → DEnv → Res β) : bindR (.bad : Res α) k = .bad := (Eq.refl _).trans (Eq.refl _)
def optR {α β : Type} (o : Option α) (k : α → Res β) : Res β := match o with
  | some a => k a
  | none => .bad
@[simp] theorem optR_some {α β : Type} (a : α) (k : α → Res β) : optR (some a) k = k a := (Eq.refl _).trans (Eq.refl _)
@[simp] theorem optR_none {α β : Type} (k : α → Res β) : optR none k = .bad := (Eq.refl _).trans (Eq.refl _)

section sat
variable {α β γ δ : Type}
def Sat (K : Frg) (mg : Mg) (O : Addr → Prop) (σ : L2.St) (ρ : DEnv) (H : Hp) (W : WX) (rel : DEnv → Hp → β → α → Prop) (Q : β → Hp → Prop) : Res α → Prop
  | .ok a ρ' => ∀ u H', EStp σ ρ H ρ' H' → RelEnv K O σ H' ρ' → rel ρ' H' u a → Q u H'
  | .err x ρ' => ∀ cls d H', EStp σ ρ H ρ' H' → RelEnv K O σ H' ρ' → ExnAt mg x cls d H' → W cls d σ H'
  | .bad => False
variable {K : Frg} {mg : Mg} {O : Addr → Prop} {σ : L2.St} {ρ ρ1 : DEnv} {H H1 : Hp} {W : WX} {rel : DEnv → Hp → β → α → Prop} {rel2 : DEnv → Hp → δ → γ → Prop} {Q Q' : β → Hp → Prop} {Q2 : δ → Hp → Prop}
theorem Sat.imp {r : Res α} (h : Sat K mg O σ ρ H W rel Q r) (i : ∀ u H', Q u H' → Q' u H') : Sat K mg O σ ρ H W rel Q' r := by
  cases r with
  | ok a ρ' => exact fun u H' s e q => i _ _ (h u H' s e q)
  | err x ρ' => exact h
  | bad => exact h
theorem Sat.shift {r : Res α} (h : Sat K mg O σ ρ H W rel Q r) (s : EStp σ ρ H ρ1 H1) : Sat K mg O σ ρ1 H1 W rel Q r := by
  cases r with
  | ok a ρ' => exact fun u H' s' e q => h u H' (s.trans s') e q
  | err x ρ' => exact fun c d H' s' e q => h c d H' (s.trans s') e q
  | bad => exact h
/-- what is known behind a part -/
def Mid (K : Frg) (mg : Mg) (O : Addr → Prop) (σ : L2.St) (W : WX) (rel : DEnv → Hp → β → α → Prop) (rel2 : DEnv → Hp → δ → γ → Prop) (Q2 : δ → Hp → Prop) (k : α → DEnv → Res γ) (u : β) (H1 : Hp) : Prop :=
  ∃ a ρ1, RelEnv K O σ H1 ρ1 ∧ rel ρ1 H1 u a ∧ Sat K mg O σ ρ1 H1 W rel2 Q2 (k a ρ1)
theorem Sat.bind {r : Res α} {k : α → DEnv → Res γ} (h : Sat K mg O σ ρ H W rel2 Q2 (bindR r k)) : Sat K mg O σ ρ H W rel (Mid K mg O σ W rel rel2 Q2 k) r := by
  cases r with
  | ok a ρ' => exact fun u H' s e q => ⟨a, ρ', e, q, Sat.shift h s⟩
  | err x ρ' => exact h
  | bad => exact h
end sat

abbrev DX := DEnv → Res EV
def SatE (K : Frg) (mg : Mg) (O : Addr → Prop) (σ : L2.St) (ρ : DEnv) (H : Hp) (W : WX) (Q : VK) : Res EV → Prop := Sat K mg O σ ρ H W (fun ρ' H' u a => RelE K O σ ρ' H' u a) Q
def tDX (K : Frg) (mg : Mg) (W : WX) (f : DX) : TE := fun σ H Q => ∃ O ρ, RelEnv K O σ H ρ ∧ Sat K mg O σ ρ H W (fun ρ' H' u a => RelE K O σ ρ' H' u a) Q (f ρ)
def tDT (K : Frg) (mg : Mg) (W : WX) (f : DEnv → Res Bool) : TT := fun σ H Q => ∃ O ρ, RelEnv K O σ H ρ ∧ Sat K mg O σ ρ H W (fun _ _ u a => u = a) Q (f ρ)
def tDA (K : Frg) (mg : Mg) (W : WX) (f : DEnv → Res (List EV)) : TA := fun σ H Q => ∃ O ρ, RelEnv K O σ H ρ ∧ Sat K mg O σ ρ H W (fun ρ' H' u a => RelEs K O σ ρ' H' u a) Q (f ρ)
/-- a new thing at p, seen by nobody -/
def NewAt (K : Frg) (O : Addr → Prop) (σ : L2.St) (ρ : DEnv) (H : Hp) (p : Addr) (c : Cell) : Prop :=
  RelEnv K (fun a => O a ∨ a = p) σ H ρ ∧ ¬ O p ∧ ¬ Ow σ ρ p ∧ CellOk K (Gv (fun a => O a ∨ a = p) σ ρ H) H p c
def SatL (K : Frg) (mg : Mg) (O : Addr → Prop) (σ : L2.St) (ρ : DEnv) (H : Hp) (W : WX) (Q : VK) : Res Cell → Prop
  | .ok c ρ' => ∀ p H', EStp σ ρ H ρ' H' → H p = none → NewAt K O σ ρ' H' p c → Q (.ref p) H'
  | .err x ρ' => ∀ cls d H', EStp σ ρ H ρ' H' → RelEnv K O σ H' ρ' → ExnAt mg x cls d H' → W cls d σ H'
  | .bad => False
def tDL (K : Frg) (mg : Mg) (W : WX) (f : DEnv → Res Cell) : TE := fun σ H Q => ∃ O ρ, RelEnv K O σ H ρ ∧ SatL K mg O σ ρ H W Q (f ρ)

structure DE (X : Cx) (W : WX) (e : Expr) (f : DX) : Prop where
  pe : PE X e (tDX X.K X.mg W f)
structure DT (X : Cx) (W : WX) (e : Expr) (f : DEnv → Res Bool) : Prop where
  pt : PT X e (tDT X.K X.mg W f)
structure DA (X : Cx) (W : WX) (es : List Expr) (f : DEnv → Res (List EV)) : Prop where
  pa : PA X es (tDA X.K X.mg W f)
structure DLs (X : Cx) (W : WX) (e : Expr) (f : DEnv → Res Cell) : Prop where
  pe : PE X e (tDL X.K X.mg W f)
theorem pe_imp {X : Cx} {e : Expr} {t t' : TE} (h : PE X e t) (i : ∀ σ H Q, t' σ H Q → t σ H Q) : PE X e t' := ⟨fun pins s σ H Q I q => h.run pins s σ H Q I (i _ _ _ q)⟩
theorem pt_imp {X : Cx} {e : Expr} {t t' : TT} (h : PT X e t) (i : ∀ σ H Q, t' σ H Q → t σ H Q) : PT X e t' := ⟨fun pins s σ H Q I q => h.run pins s σ H Q I (i _ _ _ q)⟩
theorem pw_imp {X : Cx} {e : Expr} {t t' : TT} (h : PW X e t) (i : ∀ σ H Q, t' σ H Q → t σ H Q) : PW X e t' := ⟨fun wh pins s σ H Q I q => h.run wh pins s σ H Q I (i _ _ _ q)⟩
theorem pa_imp {X : Cx} {e : List Expr} {t t' : TA} (h : PA X e t) (i : ∀ σ H Q, t' σ H Q → t σ H Q) : PA X e t' := ⟨fun pos pins s σ H Q I q => h.run pos pins s σ H Q I (i _ _ _ q)⟩

section alloc
variable {K : Frg} {O : Addr → Prop} {σ : L2.St} {ρ : DEnv} {H : Hp} {p : Addr} {o : HO}
theorem same_upd (h : H p = none) : Same H (upd H p o) := fun b u e => by rw [upd_ne (ne_of_none e h)]; exact e
theorem gv_new (r : RelEnv K O σ H ρ) (h : H p = none) : ∀ a u, Gv O σ ρ H a = some u → Gv (fun a => O a ∨ a = p) σ ρ (upd H p o) a = some u := fun a u e => by
  obtain ⟨h1, h2, h3⟩ := of_Gv e
  have n : a ≠ p := ne_of_none h3 h
  exact Gv_of (fun q => q.elim h1 n) h2 (by rw [upd_ne n]; exact h3)
theorem gv_hide : ∀ a u, Gv (fun a => O a ∨ a = p) σ ρ H a = some u → Gv O σ ρ H a = some u := fun a u e => by
  obtain ⟨h1, h2, h3⟩ := of_Gv e
  exact Gv_of (fun q => h1 (.inl q)) h2 h3
theorem RelEnv.hidden (r : RelEnv K O σ H ρ) (h : H p = none) : RelEnv K (fun a => O a ∨ a = p) σ (upd H p o) ρ := by
  refine ⟨r.len, fun a q => ?_, fun i d e => ?_, fun i b c e => ?_, r.inj, r.raw⟩
  · rcases q with q | q
    · have := r.oa a q
      rw [upd_ne (fun z => this (by rw [z]; exact h))]; exact this
    · rw [q, upd_same]; exact fun z => nomatch z
  · obtain ⟨v, h1, h2⟩ := r.val i d e
    exact ⟨v, h1, dp_mono (gv_new r h) _ _ h2⟩
  · obtain ⟨a, h1, h2, h3⟩ := r.own i b c e
    obtain ⟨u, hu⟩ := h3.some
    refine ⟨a, h1, fun q => q.elim h2 (ne_of_none hu h), h3.mono (gv_new r h) fun u e => ?_⟩
    rw [upd_ne (ne_of_none e h)]; exact e
theorem RelEnv.unhide (r : RelEnv K (fun a => O a ∨ a = p) σ H ρ) : RelEnv K O σ H ρ :=
  ⟨r.len, fun a q => r.oa a (.inl q), fun i d e => let ⟨v, h1, h2⟩ := r.val i d e; ⟨v, h1, dp_mono gv_hide _ _ h2⟩,
    fun i b c e => let ⟨a, h1, h2, h3⟩ := r.own i b c e; ⟨a, h1, fun q => h2 (.inl q), h3.mono gv_hide fun _ q => q⟩, r.inj, r.raw⟩
theorem NewAt.mk' {vs : List V} {ds : List D} (r : RelEnv K O σ H ρ) (h : H p = none) (a : DpAll K (Gv O σ ρ H) vs ds) : NewAt K O σ ρ (upd H p (.lst vs)) p (.lst ds) :=
  ⟨r.hidden h, (r.fresh h).1, (r.fresh h).2, vs, upd_same, dpAll_mono (gv_new r h) _ _ a⟩
/-- a new list, as data -/
theorem NewAt.data {ds : List D} (n : NewAt K O σ ρ H p (.lst ds)) : RelEnv K O σ H ρ ∧ Dp K (Gv O σ ρ H) (.ref p) (.list ds) := by
  obtain ⟨r, h1, h2, vs, h3, h4⟩ := n
  exact ⟨r.unhide, .lst (SqL.of (Gv_of h1 h2 h3)) (dpAll_mono gv_hide _ _ h4)⟩
end alloc

/-- a new list taken as data -/
def ofL (f : DEnv → Res Cell) : DX := fun ρ => bindR (f ρ) fun c ρ' => match c with
  | .lst ds => .ok (.val (.list ds)) ρ'
  | _ => .bad
theorem de_of {X : Cx} {W : WX} {e : Expr} {f : DEnv → Res Cell} (h : DLs X W e f) : DE X W e (ofL f) := by
  refine ⟨pe_imp h.pe fun σ H Q ⟨O, ρ, r, s⟩ => ⟨O, ρ, r, ?_⟩⟩
  unfold ofL at s
  cases q : f ρ with
  | ok c ρ' =>
    rw [q] at s
    cases c with
    | lst ds =>
      intro p H' st _ n
      obtain ⟨a, b⟩ := n.data
      exact s _ H' st a b
    | dK _ => exact s.elim
    | dT _ => exact s.elim
  | err x ρ' => rw [q] at s; exact s
  | bad => rw [q] at s; exact s

/-! ### names and constants -/
def xVar (i : Nat) : DX := fun ρ => match ρ[i]? with
  | some (some (.val d)) => .ok (.val d) ρ
  | some (some (.own _ _)) => .ok (.bor i) ρ
  | _ => .bad
def xC (d : D) : DX := fun ρ => .ok (.val d) ρ
section
variable {X : Cx} {W : WX}
theorem de_var' {i : Nat} {e : Expr} (h : PE X e (tVar i)) : DE X W e (xVar i) := by
  refine ⟨pe_imp h fun σ H Q ⟨O, ρ, r, s⟩ => ?_⟩
  unfold xVar at s
  split at s
  · rename_i d q
    obtain ⟨v, h1, h2⟩ := r.val i d q
    exact ⟨v, h1, s v H .refl r h2⟩
  · rename_i b c q
    obtain ⟨a, h1, h2, h3⟩ := r.own i b c q
    exact ⟨_, h1, s _ H .refl r h1⟩
  · exact s.elim
theorem de_c' {e : Expr} {v : V} {d : D} (h : PE X e (tC v)) (hd : ∀ G, Dp X.K G v d) : DE X W e (xC d) :=
  ⟨pe_imp h fun σ H Q ⟨O, ρ, r, s⟩ => s v H .refl r (hd _)⟩
theorem de_int {i j pos} : DE X W (.Constant (.int i) j pos) (xC (.int i)) := de_c' pe_int fun _ => .int i
theorem de_bl {b j pos} : DE X W (.Constant (.bool b) j pos) (xC (.bool b)) := de_c' pe_bl fun _ => .bl b
theorem de_non {j pos} : DE X W (.Constant .none j pos) (xC .none) := de_c' pe_non fun _ => .non
theorem de_str {x j pos} : DE X W (.Constant (.str x) j pos) (xC (.str x)) := de_c' pe_str fun _ => .str x
theorem dv (i : Nat) {x : Str} {pos : Pos} (hN : X.N[i]? = some x := by rfl) (hv : Vis X.env.scope x := by first | exact Or.inl rfl | exact Or.inr (Or.inl rfl) | exact Or.inr (Or.inr rfl)) (hd : (x == ("__debug__" : Str)) = false := by decide)
    (hcd : (x == ("__classdict__" : Str)) = false := by decide) : DE X W (.Name x pos) (xVar i) := de_var' (pe_var hN hv hd hcd)
theorem de_glob {x : Str} {v : V} {u : Value} {d : D} {pos : Pos} (hm : X.mg x = some u) (r : RelV v u) (hd' : ∀ G, Dp X.K G v d) (hg : Gl X x := by rfl) (hd : (x == ("__debug__" : Str)) = false := by decide) : DE X W (.Name x pos) (xC d) :=
  de_c' (pe_glob hg hm r hd) hd'
end

/-! ### operations on data -/
def derefs (ρ : DEnv) : List EV → Option (List D)
  | [] => some []
  | v :: vs => match deref ρ v with
    | some d => match derefs ρ vs with
      | some ds => some (d :: ds)
      | none => none
    | none => none
def x2 (k : D → D → Option D) (fa fb : DX) : DX := fun ρ => bindR (fa ρ) fun a ρ1 => bindR (fb ρ1) fun b ρ2 => optR (deref ρ2 a) fun d => optR (deref ρ2 b) fun e => optR (k d e) fun z => .ok (.val z) ρ2
def x2L (k : D → D → Option (List D)) (fa fb : DX) : DEnv → Res Cell := fun ρ => bindR (fa ρ) fun a ρ1 => bindR (fb ρ1) fun b ρ2 => optR (deref ρ2 a) fun d => optR (deref ρ2 b) fun e => optR (k d e) fun z => .ok (.lst z) ρ2
def x1 (k : D → Option D) (fa : DX) : DX := fun ρ => bindR (fa ρ) fun a ρ1 => optR (deref ρ1 a) fun d => optR (k d) fun z => .ok (.val z) ρ1
def xt2 (k : D → D → Option Bool) (fa fb : DX) : DEnv → Res Bool := fun ρ => bindR (fa ρ) fun a ρ1 => bindR (fb ρ1) fun b ρ2 => optR (deref ρ2 a) fun d => optR (deref ρ2 b) fun e => optR (k d e) fun z => .ok z ρ2
/-- what the rules of two-place operations are asked -/
def rD2 (K : Frg) (k : D → D → Option D) : R2 := fun x y H Q => ∃ O σ ρ a b d e z, RelEnv K O σ H ρ ∧ RelE K O σ ρ H x a ∧ RelE K O σ ρ H y b ∧ deref ρ a = some d ∧ deref ρ b = some e ∧ k d e = some z ∧
  ∀ u H', Same H H' → Dp K (Gv O σ ρ H') u z → Q u H'
def rD2L (K : Frg) (k : D → D → Option (List D)) : R2 := fun x y H Q => ∃ O σ ρ a b d e z, RelEnv K O σ H ρ ∧ RelE K O σ ρ H x a ∧ RelE K O σ ρ H y b ∧ deref ρ a = some d ∧ deref ρ b = some e ∧ k d e = some z ∧
  ∀ p vs, H p = none → DpAll K (Gv O σ ρ H) vs z → Q (.ref p) (upd H p (.lst vs))
def rD1 (K : Frg) (k : D → Option D) : V → Hp → VK → Prop := fun x H Q => ∃ O σ ρ a d z, RelEnv K O σ H ρ ∧ RelE K O σ ρ H x a ∧ deref ρ a = some d ∧ k d = some z ∧
  ∀ u H', Same H H' → Dp K (Gv O σ ρ H') u z → Q u H'
section
variable {X : Cx} {W : WX} {a b c : Expr} {fa fb fc : DX}
theorem optR_sat {α β γ : Type} {K : Frg} {mg : Mg} {O : Addr → Prop} {σ : L2.St} {ρ : DEnv} {H : Hp} {rel : DEnv → Hp → β → α → Prop} {Q : β → Hp → Prop} {o : Option γ} {k : γ → Res α}
    (h : Sat K mg O σ ρ H W rel Q (optR o k)) : ∃ z, o = some z ∧ Sat K mg O σ ρ H W rel Q (k z) := by
  cases o with
  | some z => exact ⟨z, rfl, h⟩
  | none => exact h.elim
theorem optR_satL {γ : Type} {K : Frg} {mg : Mg} {O : Addr → Prop} {σ : L2.St} {ρ : DEnv} {H : Hp} {Q : VK} {o : Option γ} {k : γ → Res Cell}
    (h : SatL K mg O σ ρ H W Q (optR o k)) : ∃ z, o = some z ∧ SatL K mg O σ ρ H W Q (k z) := by
  cases o with
  | some z => exact ⟨z, rfl, h⟩
  | none => exact h.elim
theorem SatL.shift {K : Frg} {mg : Mg} {O : Addr → Prop} {σ : L2.St} {ρ ρ1 : DEnv} {H H1 : Hp} {Q : VK} {r : Res Cell} (h : SatL K mg O σ ρ H W Q r) (s : EStp σ ρ H ρ1 H1) (n : ∀ p, H1 p = none → H p = none) : SatL K mg O σ ρ1 H1 W Q r := by
  cases r with
  | ok a ρ' => exact fun p H' s' e q => h p H' (s.trans s') (n p e) q
  | err x ρ' => exact fun c d H' s' e q => h c d H' (s.trans s') e q
  | bad => exact h
theorem EStp.none {σ : L2.St} {ρ ρ1 : DEnv} {H H1 : Hp} (s : EStp σ ρ H ρ1 H1) (p : Addr) (h : H1 p = none) : H p = none := by
  cases q : H p with
  | none => rfl
  | some o => exact absurd h (s.al p (by rw [q]; exact fun z => nomatch z))
theorem SatL.bind {α β : Type} {K : Frg} {mg : Mg} {O : Addr → Prop} {σ : L2.St} {ρ : DEnv} {H : Hp} {Q : VK} {rel : DEnv → Hp → β → α → Prop} {r : Res α} {k : α → DEnv → Res Cell} (h : SatL K mg O σ ρ H W Q (bindR r k)) :
    Sat K mg O σ ρ H W rel (fun u H1 => ∃ a ρ1, RelEnv K O σ H1 ρ1 ∧ rel ρ1 H1 u a ∧ EStp σ ρ H ρ1 H1 ∧ SatL K mg O σ ρ1 H1 W Q (k a ρ1)) r := by
  cases r with
  | ok a ρ' => exact fun u H' s e q => ⟨a, ρ', e, q, s, SatL.shift h s s.none⟩
  | err x ρ' => exact h
  | bad => exact h
theorem op2_core {k : D → D → Option D} {σ : L2.St} {H : Hp} {Q : VK} (h : tDX X.K X.mg W (x2 k fa fb) σ H Q) : tOp (rD2 X.K k) (tDX X.K X.mg W fa) (tDX X.K X.mg W fb) σ H Q := by
  obtain ⟨O, ρ, r, s⟩ := h
  refine ⟨O, ρ, r, (Sat.bind s).imp fun u H1 ⟨v, ρ1, r1, e1, s1⟩ => ⟨O, ρ1, r1, ?_⟩⟩
  try dsimp only at s1
  cases q : fb ρ1 with
  | ok b ρ2 =>
    rw [q] at s1
    intro w H2 st r2 e2
    have s2 := s1.shift st
    obtain ⟨d, hd, s3⟩ := optR_sat s2
    obtain ⟨e, he, s4⟩ := optR_sat s3
    obtain ⟨z, hz, s5⟩ := optR_sat s4
    exact ⟨O, σ, ρ2, v, b, d, e, z, r2, e1.mono st, e2, hd, he, hz, fun u' H' sm q' => s5 u' H' (.same sm) (r2.same sm) q'⟩
  | err x ρ2 => rw [q] at s1; exact s1
  | bad => rw [q] at s1; exact s1
theorem op2_coreL {k : D → D → Option (List D)} {σ : L2.St} {H : Hp} {Q : VK} (h : tDL X.K X.mg W (x2L k fa fb) σ H Q) : tOp (rD2L X.K k) (tDX X.K X.mg W fa) (tDX X.K X.mg W fb) σ H Q := by
  obtain ⟨O, ρ, r, s⟩ := h
  refine ⟨O, ρ, r, (SatL.bind s).imp fun u H1 ⟨v, ρ1, r1, e1, st1, s1⟩ => ⟨O, ρ1, r1, ?_⟩⟩
  try dsimp only at s1
  cases q : fb ρ1 with
  | ok b ρ2 =>
    rw [q] at s1
    intro w H2 st r2 e2
    have s2 := s1.shift st st.none
    obtain ⟨d, hd, s3⟩ := optR_satL s2
    obtain ⟨e, he, s4⟩ := optR_satL s3
    obtain ⟨z, hz, s5⟩ := optR_satL s4
    exact ⟨O, σ, ρ2, v, b, d, e, z, r2, e1.mono st, e2, hd, he, hz, fun p vs hp q' => s5 p _ (.same (same_upd hp)) hp (.mk' r2 hp q')⟩
  | err x ρ2 => rw [q] at s1; exact s1
  | bad => rw [q] at s1; exact s1
theorem de_bin {op : Operator} {k : D → D → Option D} {pos : Pos} (ho : OpR X (binaryOp op) (rD2 X.K k)) (ha : DE X W a fa) (hb : DE X W b fb) : DE X W (.BinOp a op b pos) (x2 k fa fb) :=
  ⟨pe_imp (pe_op ho ha.pe hb.pe) fun _ _ _ h => op2_core h⟩
theorem dl_bin {op : Operator} {k : D → D → Option (List D)} {pos : Pos} (ho : OpR X (binaryOp op) (rD2L X.K k)) (ha : DE X W a fa) (hb : DE X W b fb) : DLs X W (.BinOp a op b pos) (x2L k fa fb) :=
  ⟨pe_imp (pe_op ho ha.pe hb.pe) fun _ _ _ h => op2_coreL h⟩
theorem de_cmp {op : CmpOp} {k : D → D → Option D} {pos : Pos} (ho : OpR X (compareOp op) (rD2 X.K k)) (ha : DE X W a fa) (hb : DE X W b fb) (hm : behindInMarks op b = false := by rfl) : DE X W (.Compare a [op] [b] pos) (x2 k fa fb) :=
  ⟨pe_imp (pe_cmpR ho ha.pe hb.pe hm) fun _ _ _ h => op2_core h⟩
theorem de_ix {k : D → D → Option D} {pos : Pos} (ho : IxR X (rD2 X.K k)) (ha : DE X W a fa) (hb : DE X W b fb) (hs : PlainIx b := by exact fun _ _ => rfl) : DE X W (.Subscript a b pos) (x2 k fa fb) :=
  ⟨pe_imp (pe_ix ho ha.pe hb.pe hs) fun _ _ _ h => op2_core h⟩
theorem op1_core {k : D → Option D} {σ : L2.St} {H : Hp} {Q : VK} (h : tDX X.K X.mg W (x1 k fa) σ H Q) : tUn (rD1 X.K k) (tDX X.K X.mg W fa) σ H Q := by
  obtain ⟨O, ρ, r, s⟩ := h
  refine ⟨O, ρ, r, (Sat.bind s).imp fun u H1 ⟨v, ρ1, r1, e1, s1⟩ => ?_⟩
  obtain ⟨d, hd, s3⟩ := optR_sat s1
  obtain ⟨z, hz, s5⟩ := optR_sat s3
  exact ⟨O, σ, ρ1, v, d, z, r1, e1, hd, hz, fun u' H' sm q' => s5 u' H' (.same sm) (r1.same sm) q'⟩
theorem de_un {op : UnaryOp} {k : D → Option D} {pos : Pos} (ho : UnR X (unaryOp op) (rD1 X.K k)) (ha : DE X W a fa) : DE X W (.UnaryOp op a pos) (x1 k fa) :=
  ⟨pe_imp (pe_un ho ha.pe) fun _ _ _ h => op1_core h⟩

/-! ### truth -/
def truthD : D → Option Bool
  | .none => some false
  | .bool b => some b
  | .int i => some (i != 0)
  | .str x => if x.length ≤ sizeLine then some (x.length != 0) else none
  | .list ds => some (!ds.isEmpty)
  | .tuple ds => some (!ds.isEmpty)
  | .dict _ => none
theorem isEmpty_of {α β : Type} {xs : List α} {ys : List β} (h : xs.length = ys.length) : (!ys.isEmpty) = !xs.isEmpty := by
  cases xs with
  | nil => cases ys with
    | nil => rfl
    | cons _ _ => simp at h
  | cons _ _ => cases ys with
    | nil => simp at h
    | cons _ _ => rfl
theorem truV_of {K : Frg} {H : Hp} {x : V} {d : D} {k : Bool} (h : Dp K H x d) (e : truthD d = some k) : TruV K x H k := by
  cases d with
  | none => cases h; cases e; rfl
  | bool b => cases h; cases e; rfl
  | int i => cases h; cases e; rfl
  | str x =>
    cases h
    by_cases q : x.length ≤ sizeLine
    · rw [truthD, if_pos q] at e; cases e; exact ⟨q, by cases x.length <;> simp <;> omega⟩
    · rw [truthD, if_neg q] at e; cases e
  | list ds =>
    cases h with
    | lst s a =>
      cases e
      refine .inl ⟨_, s, ?_⟩
      have := DL.DpAll.length a
      exact isEmpty_of this
  | tuple ds =>
    cases h with
    | tup s a =>
      cases e
      refine .inr (.inl ⟨_, s, ?_⟩)
      have := DL.DpAll.length a
      exact isEmpty_of this
  | dict _ => cases h
end
end DL

namespace DL
open L2 PySem PySem.Spec PyProof.Rows
section
variable {X : Cx} {W : WX} {a b c : Expr} {fa fb fc : DX} {ta tb : DEnv → Res Bool}

/-! ### tests -/
def xTr (fa : DX) : DEnv → Res Bool := fun ρ => bindR (fa ρ) fun a ρ1 => optR (deref ρ1 a) fun d => optR (truthD d) fun k => .ok k ρ1
theorem dt_of (ha : DE X W a fa) (he : ∀ whole, isTrue a X.env whole = (do let v ← whole; standAt a.pos; holding [v] (truthy v)) := by intro _; rfl) : DT X W a (xTr fa) := by
  refine ⟨pt_imp (pt_truth ha.pe he) fun σ H Q ⟨O, ρ, r, s⟩ => ⟨O, ρ, r, (Sat.bind s).imp fun u H1 ⟨v, ρ1, r1, e1, s1⟩ => ?_⟩⟩
  obtain ⟨d, hd, s2⟩ := optR_sat s1
  obtain ⟨k, hk, s3⟩ := optR_sat s2
  exact ⟨k, truV_of (e1.dp r1 hd) hk, s3 k H1 .refl r1 rfl⟩
def kB (k : D → D → Option Bool) : D → D → Option D := fun d e => (k d e).map .bool
theorem dt_cmp {op : CmpOp} {k : D → D → Option Bool} {pos : Pos} (ho : OpR X (compareOp op) (rD2 X.K (kB k))) (ha : DE X W a fa) (hb : DE X W b fb) (hm : behindInMarks op b = false := by rfl) : DT X W (.Compare a [op] [b] pos) (xt2 k fa fb) := by
  refine ⟨pt_imp (pt_cmpR ho ha.pe hb.pe hm) fun σ H Q ⟨O, ρ, r, s⟩ => ⟨O, ρ, r, (Sat.bind s).imp fun u H1 ⟨v, ρ1, r1, e1, s1⟩ => ⟨O, ρ1, r1, ?_⟩⟩⟩
  try dsimp only at s1
  cases q : fb ρ1 with
  | ok b ρ2 =>
    rw [q] at s1
    intro w H2 st r2 e2
    have s2 := s1.shift st
    obtain ⟨d, hd, s3⟩ := optR_sat s2
    obtain ⟨e, he, s4⟩ := optR_sat s3
    obtain ⟨z, hz, s5⟩ := optR_sat s4
    refine ⟨O, σ, ρ2, v, b, d, e, .bool z, r2, e1.mono st, e2, hd, he, by unfold kB; rw [hz]; rfl, fun u' H' sm q' => ?_⟩
    cases q'
    exact ⟨z, rfl, s5 z H' (.same sm) (r2.same sm) rfl⟩
  | err x ρ2 => rw [q] at s1; exact s1
  | bad => rw [q] at s1; exact s1
/-- a op b op' c -/
def xChain (k k' : D → D → Option Bool) (fa fb fc : DX) : DEnv → Res Bool := fun ρ => bindR (fa ρ) fun a ρ1 => bindR (fb ρ1) fun b ρ2 => optR (deref ρ2 a) fun d => optR (deref ρ2 b) fun e => optR (k d e) fun z =>
  if z = true then bindR (fc ρ2) fun c ρ3 => optR (deref ρ3 b) fun e' => optR (deref ρ3 c) fun f => optR (k' e' f) fun z' => .ok z' ρ3 else .ok false ρ2
theorem chain_core {k k' : D → D → Option Bool} {σ : L2.St} {H : Hp} {Q : Bool → Hp → Prop} {Q' : VK} (i : ∀ k H', Q k H' → Q' (.bl k) H') (h : tDT X.K X.mg W (xChain k k' fa fb fc) σ H Q) :
    tChain (rD2 X.K (kB k)) (rD2 X.K (kB k')) (tDX X.K X.mg W fa) (tDX X.K X.mg W fb) (tDX X.K X.mg W fc) σ H Q' := by
  obtain ⟨O, ρ, r, s⟩ := h
  refine ⟨O, ρ, r, (Sat.bind s).imp fun u H1 ⟨v, ρ1, r1, e1, s1⟩ => ⟨O, ρ1, r1, ?_⟩⟩
  try dsimp only at s1
  cases q : fb ρ1 with
  | ok b ρ2 =>
    rw [q] at s1
    intro w H2 st r2 e2
    have s2 := s1.shift st
    obtain ⟨d, hd, s3⟩ := optR_sat s2
    obtain ⟨e, he, s4⟩ := optR_sat s3
    obtain ⟨z, hz, s5⟩ := optR_sat s4
    refine ⟨O, σ, ρ2, v, b, d, e, .bool z, r2, e1.mono st, e2, hd, he, by unfold kB; rw [hz]; rfl, fun u' H' sm q' => ?_⟩
    cases q'
    refine ⟨z, rfl, ?_⟩
    cases z with
    | false =>
      rw [if_neg Bool.false_ne_true] at s5 ⊢
      exact i _ _ (s5 false H' (.same sm) (r2.same sm) rfl)
    | true =>
      rw [if_pos rfl] at s5 ⊢
      have s6 := s5.shift (.same sm)
      refine ⟨O, ρ2, r2.same sm, ?_⟩
      cases qc : fc ρ2 with
      | ok c ρ3 =>
        rw [qc] at s6
        intro y H3 st3 r3 e3
        have s7 := s6.shift st3
        obtain ⟨e', he', s8⟩ := optR_sat s7
        obtain ⟨f', hf', s9⟩ := optR_sat s8
        obtain ⟨z', hz', s10⟩ := optR_sat s9
        refine ⟨O, σ, ρ3, b, c, e', f', .bool z', r3, (e2.mono (.same sm)).mono st3, e3, he', hf', by unfold kB; rw [hz']; rfl, fun u4 H4 sm4 q4 => ?_⟩
        cases q4
        exact i _ _ (s10 z' H4 (.same sm4) (r3.same sm4) rfl)
      | err x ρ3 => rw [qc] at s6; exact s6
      | bad => rw [qc] at s6; exact s6
  | err x ρ2 => rw [q] at s1; exact s1
  | bad => rw [q] at s1; exact s1
theorem dt_chain {op op' : CmpOp} {k k' : D → D → Option Bool} {pos : Pos} (ho : OpR X (compareOp op) (rD2 X.K (kB k))) (ho' : OpR X (compareOp op') (rD2 X.K (kB k'))) (ha : DE X W a fa) (hb : DE X W b fb) (hc : DE X W c fc)
    (hm : lastMarks [op, op'] [b, c] = false := by with_unfolding_all rfl) : DT X W (.Compare a [op, op'] [b, c] pos) (xChain k k' fa fb fc) := ⟨pt_imp (pt_chain ho ho' ha.pe hb.pe hc.pe hm) fun _ _ _ h => chain_core (fun k _ q => ⟨k, rfl, q⟩) h⟩
/-- a test's answer as a value -/
def xOfT (t : DEnv → Res Bool) : DX := fun ρ => bindR (t ρ) fun k ρ1 => .ok (.val (.bool k)) ρ1
theorem de_chain {op op' : CmpOp} {k k' : D → D → Option Bool} {pos : Pos} (ho : OpR X (compareOp op) (rD2 X.K (kB k))) (ho' : OpR X (compareOp op') (rD2 X.K (kB k'))) (ha : DE X W a fa) (hb : DE X W b fb) (hc : DE X W c fc)
    (hm : lastMarks [op, op'] [b, c] = false := by with_unfolding_all rfl) : DE X W (.Compare a [op, op'] [b, c] pos) (xOfT (xChain k k' fa fb fc)) := by
  refine ⟨pe_imp (pe_chain ho ho' ha.pe hb.pe hc.pe hm) fun σ H Q ⟨O, ρ, r, s⟩ => ?_⟩
  have h : tDT X.K X.mg W (xChain k k' fa fb fc) σ H (fun k H' => Q (.bl k) H') := by
    refine ⟨O, ρ, r, (Sat.bind s).imp fun u H1 ⟨v, ρ1, r1, e1, s1⟩ => ?_⟩
    cases e1
    exact s1 _ H1 .refl r1 (.bl _)
  exact chain_core (fun _ _ q => q) h
def xtNot (t : DEnv → Res Bool) : DEnv → Res Bool := fun ρ => bindR (t ρ) fun k ρ1 => .ok (!k) ρ1
theorem dt_not {pos : Pos} (ha : DT X W a ta) : DT X W (.UnaryOp .Not a pos) (xtNot ta) := by
  refine ⟨pt_imp (pt_not ha.pt) fun σ H Q ⟨O, ρ, r, s⟩ => ⟨O, ρ, r, (Sat.bind s).imp fun u H1 ⟨v, ρ1, r1, e1, s1⟩ => ?_⟩⟩
  cases e1
  exact s1 _ H1 .refl r1 rfl
def xtAnd (t u : DEnv → Res Bool) : DEnv → Res Bool := fun ρ => bindR (t ρ) fun k ρ1 => if k = true then u ρ1 else .ok false ρ1
def xtOr (t u : DEnv → Res Bool) : DEnv → Res Bool := fun ρ => bindR (t ρ) fun k ρ1 => if k = true then .ok true ρ1 else u ρ1
structure DW (X : Cx) (W : WX) (e : Expr) (f : DEnv → Res Bool) : Prop where
  pw : PW X e (tDT X.K X.mg W f)
theorem dt_w {e : Expr} {t : DEnv → Res Bool} (h : DW X W e t) : DT X W e t := ⟨h.pw.pt⟩
theorem dw_and1 {pos : Pos} (h : DT X W a ta) : DW X W (.BoolOp .And [a] pos) ta := ⟨pw_and1 h.pt⟩
theorem dw_or1 {pos : Pos} (h : DT X W a ta) : DW X W (.BoolOp .Or [a] pos) ta := ⟨pw_or1 h.pt⟩
theorem dw_and {pos : Pos} {rest : List Expr} (h : DT X W a ta) (h2 : DW X W (.BoolOp .And (b :: rest) pos) tb) : DW X W (.BoolOp .And (a :: b :: rest) pos) (xtAnd ta tb) := by
  refine ⟨pw_imp (pw_and h.pt h2.pw) fun σ H Q ⟨O, ρ, r, s⟩ => ⟨O, ρ, r, (Sat.bind s).imp fun u H1 ⟨v, ρ1, r1, e1, s1⟩ => ?_⟩⟩
  cases e1
  cases u with
  | true => exact iteT ⟨O, ρ1, r1, by simpa using s1⟩
  | false => exact iteF (by simp at s1; exact s1 _ H1 .refl r1 rfl)
theorem dw_or {pos : Pos} {rest : List Expr} (h : DT X W a ta) (h2 : DW X W (.BoolOp .Or (b :: rest) pos) tb) : DW X W (.BoolOp .Or (a :: b :: rest) pos) (xtOr ta tb) := by
  refine ⟨pw_imp (pw_or h.pt h2.pw) fun σ H Q ⟨O, ρ, r, s⟩ => ⟨O, ρ, r, (Sat.bind s).imp fun u H1 ⟨v, ρ1, r1, e1, s1⟩ => ?_⟩⟩
  cases e1
  cases u with
  | false => exact iteF ⟨O, ρ1, r1, by simpa using s1⟩
  | true => exact iteT (by simp at s1; exact s1 _ H1 .refl r1 rfl)

/-! ### and, or, not, if as values -/
def xAnd (fa fb : DX) : DX := fun ρ => bindR (fa ρ) fun a ρ1 => optR (deref ρ1 a) fun d => optR (truthD d) fun k => if k = true then fb ρ1 else .ok a ρ1
def xOr (fa fb : DX) : DX := fun ρ => bindR (fa ρ) fun a ρ1 => optR (deref ρ1 a) fun d => optR (truthD d) fun k => if k = true then .ok a ρ1 else fb ρ1
def xNot (fa : DX) : DX := fun ρ => bindR (fa ρ) fun a ρ1 => optR (deref ρ1 a) fun d => optR (truthD d) fun k => .ok (.val (.bool (!k))) ρ1
def xIf (t : DEnv → Res Bool) (fa fb : DX) : DX := fun ρ => bindR (t ρ) fun k ρ1 => if k = true then fa ρ1 else fb ρ1
theorem de_one {op : BoolOp} {pos : Pos} (h : DE X W a fa) : DE X W (.BoolOp op [a] pos) fa := ⟨pe_one h.pe⟩
theorem de_and {pos : Pos} {rest : List Expr} (ha : DE X W a fa) (hb : DE X W (.BoolOp .And (b :: rest) pos) fb) : DE X W (.BoolOp .And (a :: b :: rest) pos) (xAnd fa fb) := by
  refine ⟨pe_imp (pe_andT ha.pe hb.pe) fun σ H Q ⟨O, ρ, r, s⟩ => ⟨O, ρ, r, (Sat.bind s).imp fun u H1 ⟨v, ρ1, r1, e1, s1⟩ => ?_⟩⟩
  obtain ⟨d, hd, s2⟩ := optR_sat s1
  obtain ⟨k, hk, s3⟩ := optR_sat s2
  refine ⟨k, truV_of (RelE.dp e1 r1 hd) hk, ?_⟩
  cases k with
  | true => exact iteT ⟨O, ρ1, r1, by simpa using s3⟩
  | false => exact iteF (by simp at s3; exact s3 _ H1 .refl r1 e1)
theorem de_or {pos : Pos} {rest : List Expr} (ha : DE X W a fa) (hb : DE X W (.BoolOp .Or (b :: rest) pos) fb) : DE X W (.BoolOp .Or (a :: b :: rest) pos) (xOr fa fb) := by
  refine ⟨pe_imp (pe_orT ha.pe hb.pe) fun σ H Q ⟨O, ρ, r, s⟩ => ⟨O, ρ, r, (Sat.bind s).imp fun u H1 ⟨v, ρ1, r1, e1, s1⟩ => ?_⟩⟩
  obtain ⟨d, hd, s2⟩ := optR_sat s1
  obtain ⟨k, hk, s3⟩ := optR_sat s2
  refine ⟨k, truV_of (RelE.dp e1 r1 hd) hk, ?_⟩
  cases k with
  | false => exact iteF ⟨O, ρ1, r1, by simpa using s3⟩
  | true => exact iteT (by simp at s3; exact s3 _ H1 .refl r1 e1)
theorem de_not {pos : Pos} (ha : DE X W a fa) : DE X W (.UnaryOp .Not a pos) (xNot fa) := by
  refine ⟨pe_imp (pe_notT ha.pe) fun σ H Q ⟨O, ρ, r, s⟩ => ⟨O, ρ, r, (Sat.bind s).imp fun u H1 ⟨v, ρ1, r1, e1, s1⟩ => ?_⟩⟩
  obtain ⟨d, hd, s2⟩ := optR_sat s1
  obtain ⟨k, hk, s3⟩ := optR_sat s2
  exact ⟨k, truV_of (RelE.dp e1 r1 hd) hk, s3 _ H1 .refl r1 (.bl _)⟩
theorem de_if {pos : Pos} (hc : DT X W c ta) (ha : DE X W a fa) (hb : DE X W b fb) : DE X W (.IfExp c a b pos) (xIf ta fa fb) := by
  refine ⟨pe_imp (pe_ifExp hc.pt ha.pe hb.pe) fun σ H Q ⟨O, ρ, r, s⟩ => ⟨O, ρ, r, (Sat.bind s).imp fun u H1 ⟨v, ρ1, r1, e1, s1⟩ => ?_⟩⟩
  cases e1
  cases u with
  | true => exact iteT ⟨O, ρ1, r1, by simpa using s1⟩
  | false => exact iteF ⟨O, ρ1, r1, by simpa using s1⟩

/-! ### argument lists -/
def aNil : DEnv → Res (List EV) := fun ρ => .ok [] ρ
def aCons (f : DX) (g : DEnv → Res (List EV)) : DEnv → Res (List EV) := fun ρ => bindR (f ρ) fun v ρ1 => bindR (g ρ1) fun vs ρ2 => .ok (v :: vs) ρ2
theorem da_nil : DA X W [] aNil := ⟨pa_imp pa_nil fun σ H Q ⟨O, ρ, r, s⟩ => s [] H .refl r trivial⟩
theorem da_cons {es : List Expr} {g : DEnv → Res (List EV)} (ha : DE X W a fa) (hr : DA X W es g) (hs : starEach (a :: es) X.env = (false, eval a X.env) :: starEach es X.env := by rfl) : DA X W (a :: es) (aCons fa g) := by
  refine ⟨pa_imp (pa_cons ha.pe hr.pa hs) fun σ H Q ⟨O, ρ, r, s⟩ => ⟨O, ρ, r, (Sat.bind s).imp fun u H1 ⟨v, ρ1, r1, e1, s1⟩ => ⟨O, ρ1, r1, ?_⟩⟩⟩
  try dsimp only at s1
  cases q : g ρ1 with
  | ok vs ρ2 =>
    rw [q] at s1
    intro us H2 st r2 e2
    exact s1 (u :: us) H2 st r2 ⟨RelE.mono e1 st, e2⟩
  | err x ρ2 => rw [q] at s1; exact s1
  | bad => rw [q] at s1; exact s1
/-- a display's items: what is owned is given up -/
def xTup (g : DEnv → Res (List EV)) : DX := fun ρ => bindR (g ρ) fun vs ρ1 => optR (keeps vs ρ1) fun p => if p.1.length ≤ sizeLine then .ok (.val (.tuple p.1)) p.2 else .bad
def xLst (g : DEnv → Res (List EV)) : DEnv → Res Cell := fun ρ => bindR (g ρ) fun vs ρ1 => optR (keeps vs ρ1) fun p => if p.1.length ≤ sizeLine then .ok (.lst p.1) p.2 else .bad
theorem de_tup {es : List Expr} {x1} {pos : Pos} {g : DEnv → Res (List EV)} (h : DA X W es g) : DE X W (.Tuple es x1 pos) (xTup g) := by
  refine ⟨pe_imp (pe_tup h.pa) fun σ H Q ⟨O, ρ, r, s⟩ => ⟨O, ρ, r, (Sat.bind s).imp fun us H1 ⟨vs, ρ1, r1, e1, s1⟩ => ?_⟩⟩
  obtain ⟨⟨ds, ρ2⟩, hk, s2⟩ := optR_sat s1
  obtain ⟨r2, st, a⟩ := keeps_ok r1 e1 hk
  have hl := DL.DpAll.length a
  dsimp only at s2
  split at s2
  · rename_i hz
    refine ⟨by omega, fun p hp => ?_⟩
    have sm := same_upd (o := .tup us) hp
    refine s2 _ _ (st.trans (.same sm)) (r2.same sm) (L2.Dp.tup (SqT.of (Gv_of (r2.fresh hp).1 (r2.fresh hp).2 upd_same)) (dpAll_mono (same_gv sm) _ _ a))
  · exact s2.elim
theorem dl_lst {es : List Expr} {pos : Pos} {g : DEnv → Res (List EV)} (h : DA X W es g) : DLs X W (.List es pos) (xLst g) := by
  refine ⟨pe_imp (pe_lst h.pa) fun σ H Q ⟨O, ρ, r, s⟩ => ⟨O, ρ, r, (SatL.bind s).imp fun us H1 ⟨vs, ρ1, r1, e1, st1, s1⟩ => ?_⟩⟩
  obtain ⟨⟨ds, ρ2⟩, hk, s2⟩ := optR_satL s1
  obtain ⟨r2, st, a⟩ := keeps_ok r1 e1 hk
  have hl := DL.DpAll.length a
  dsimp only at s2
  split at s2
  · rename_i hz
    refine ⟨by omega, fun p hp => ?_⟩
    exact s2 p _ (st.trans (.same (same_upd hp))) hp (.mk' r2 hp a)
  · exact s2.elim

/-! ### calls of what is built in -/
def xCB (k : List D → Option D) (g : DEnv → Res (List EV)) : DX := fun ρ => bindR (g ρ) fun vs ρ1 => optR (derefs ρ1 vs) fun ds => optR (k ds) fun z => .ok (.val z) ρ1
def xCBL (k : List D → Option (List D)) (g : DEnv → Res (List EV)) : DEnv → Res Cell := fun ρ => bindR (g ρ) fun vs ρ1 => optR (derefs ρ1 vs) fun ds => optR (k ds) fun z => .ok (.lst z) ρ1
def rDn (K : Frg) (k : List D → Option D) : List V → Hp → VK → Prop := fun xs H Q => ∃ O σ ρ vs ds z, RelEnv K O σ H ρ ∧ RelEs K O σ ρ H xs vs ∧ derefs ρ vs = some ds ∧ k ds = some z ∧ ∀ u H', Same H H' → Dp K (Gv O σ ρ H') u z → Q u H'
def rDnL (K : Frg) (k : List D → Option (List D)) : List V → Hp → VK → Prop := fun xs H Q => ∃ O σ ρ vs ds z, RelEnv K O σ H ρ ∧ RelEs K O σ ρ H xs vs ∧ derefs ρ vs = some ds ∧ k ds = some z ∧
  ∀ p us, H p = none → DpAll K (Gv O σ ρ H) us z → Q (.ref p) (upd H p (.lst us))
theorem cb_core {k : List D → Option D} {g : DEnv → Res (List EV)} {σ : L2.St} {H : Hp} {Q : VK} (h : tDX X.K X.mg W (xCB k g) σ H Q) : tCB (rDn X.K k) (tDA X.K X.mg W g) σ H Q := by
  obtain ⟨O, ρ, r, s⟩ := h
  refine ⟨O, ρ, r, (Sat.bind s).imp fun us H1 ⟨vs, ρ1, r1, e1, s1⟩ => ?_⟩
  obtain ⟨ds, hd, s2⟩ := optR_sat s1
  obtain ⟨z, hz, s3⟩ := optR_sat s2
  exact ⟨O, σ, ρ1, vs, ds, z, r1, e1, hd, hz, fun u H' sm q => s3 u H' (.same sm) (r1.same sm) q⟩
theorem cb_coreL {k : List D → Option (List D)} {g : DEnv → Res (List EV)} {σ : L2.St} {H : Hp} {Q : VK} (h : tDL X.K X.mg W (xCBL k g) σ H Q) : tCB (rDnL X.K k) (tDA X.K X.mg W g) σ H Q := by
  obtain ⟨O, ρ, r, s⟩ := h
  refine ⟨O, ρ, r, (SatL.bind s).imp fun us H1 ⟨vs, ρ1, r1, e1, st, s1⟩ => ?_⟩
  obtain ⟨ds, hd, s2⟩ := optR_satL s1
  obtain ⟨z, hz, s3⟩ := optR_satL s2
  exact ⟨O, σ, ρ1, vs, ds, z, r1, e1, hd, hz, fun p us hp q => s3 p _ (.same (same_upd hp)) hp (.mk' r1 hp q)⟩
section
variable {x : Str} {p pos : Pos} {e : Expr} {es : List Expr} {g : DEnv → Res (List EV)}
theorem de_cb {id : String} {k : List D → Option D} (hc : CallR X (.builtin id) (rDn X.K k)) (hm : X.mg x = none) (hv : bootBuiltins x = some (.builtin id)) (ha : DA X W (e :: es) g) (hg : Gl X x := by rfl) (hn : x ≠ "__name__" := by decide) (hdb : (x == ("__debug__" : Str)) = false := by decide)
    (he : starEach (e :: es) X.env = (false, eval e X.env) :: starEach es X.env := by rfl) (hpl : (backTo pos (starEach es X.env)).any (·.1) = false := by rfl) : DE X W (.Call (.Name x p) (e :: es) [] pos) (xCB k g) :=
  ⟨pe_imp (pe_callB hc hg hm hv ha.pa hn hdb he hpl) fun _ _ _ h => cb_core h⟩
theorem de_ct {T : String} {k : List D → Option D} (hc : CallR X (.type T) (rDn X.K k)) (hm : X.mg x = none) (hv : bootBuiltins x = some (.type T)) (ha : DA X W (e :: es) g) (hg : Gl X x := by rfl) (hn : x ≠ "__name__" := by decide) (hdb : (x == ("__debug__" : Str)) = false := by decide)
    (he : starEach (e :: es) X.env = (false, eval e X.env) :: starEach es X.env := by rfl) (hpl : (backTo pos (starEach es X.env)).any (·.1) = false := by rfl) : DE X W (.Call (.Name x p) (e :: es) [] pos) (xCB k g) :=
  ⟨pe_imp (pe_callTy hc hg hm hv ha.pa hn hdb he hpl) fun _ _ _ h => cb_core h⟩
theorem dl_cb {id : String} {k : List D → Option (List D)} (hc : CallR X (.builtin id) (rDnL X.K k)) (hm : X.mg x = none) (hv : bootBuiltins x = some (.builtin id)) (ha : DA X W (e :: es) g) (hg : Gl X x := by rfl) (hn : x ≠ "__name__" := by decide) (hdb : (x == ("__debug__" : Str)) = false := by decide)
    (he : starEach (e :: es) X.env = (false, eval e X.env) :: starEach es X.env := by rfl) (hpl : (backTo pos (starEach es X.env)).any (·.1) = false := by rfl) : DLs X W (.Call (.Name x p) (e :: es) [] pos) (xCBL k g) :=
  ⟨pe_imp (pe_callB hc hg hm hv ha.pa hn hdb he hpl) fun _ _ _ h => cb_coreL h⟩
theorem dl_ct {T : String} {k : List D → Option (List D)} (hc : CallR X (.type T) (rDnL X.K k)) (hm : X.mg x = none) (hv : bootBuiltins x = some (.type T)) (ha : DA X W (e :: es) g) (hg : Gl X x := by rfl) (hn : x ≠ "__name__" := by decide) (hdb : (x == ("__debug__" : Str)) = false := by decide)
    (he : starEach (e :: es) X.env = (false, eval e X.env) :: starEach es X.env := by rfl) (hpl : (backTo pos (starEach es X.env)).any (·.1) = false := by rfl) : DLs X W (.Call (.Name x p) (e :: es) [] pos) (xCBL k g) :=
  ⟨pe_imp (pe_callTy hc hg hm hv ha.pa hn hdb he hpl) fun _ _ _ h => cb_coreL h⟩
end
end
end DL

namespace DL
open L2 PySem PySem.Spec PyProof.Rows

abbrev DSt := DEnv → Fl
/-- a step of a statement -/
structure SStp (σ : L2.St) (ρ : DEnv) (H : Hp) (σ' : L2.St) (ρ' : DEnv) (H' : Hp) : Prop where
  ext : ∀ b o, H b = some o → ¬ Ow σ ρ b → H' b = some o
  al : ∀ b, H b ≠ none → H' b ≠ none
  own : ∀ b, Ow σ' ρ' b → Ow σ ρ b ∨ H b = none
  io : ∀ (i : Nat) (c : Cell), ρ[i]? = some (some (.own true c)) → σ'[i]? = σ[i]? ∧ ∃ c', ρ'[i]? = some (some (.own true c'))
theorem SStp.refl {σ : L2.St} {ρ : DEnv} {H : Hp} : SStp σ ρ H σ ρ H := ⟨fun _ _ h _ => h, fun _ h => h, fun _ h => .inl h, fun _ c h => ⟨rfl, c, h⟩⟩
theorem SStp.trans {σ σ1 σ2 : L2.St} {ρ ρ1 ρ2 : DEnv} {H H1 H2 : Hp} (a : SStp σ ρ H σ1 ρ1 H1) (b : SStp σ1 ρ1 H1 σ2 ρ2 H2) : SStp σ ρ H σ2 ρ2 H2 where
  ext := fun c o h n => b.ext c o (a.ext c o h n) fun q => (a.own c q).elim n fun z => by rw [h] at z; cases z
  al := fun c h => b.al c (a.al c h)
  own := fun c h => (b.own c h).elim (fun q => a.own c q) fun z => .inr (by
    cases q : H c with
    | none => rfl
    | some o => exact absurd z (a.al c (by rw [q]; exact fun z => nomatch z)))
  io := fun i c h => by
    obtain ⟨e1, c1, h1⟩ := a.io i c h
    obtain ⟨e2, c2, h2⟩ := b.io i c1 h1
    exact ⟨e2.trans e1, c2, h2⟩
theorem EStp.s {σ : L2.St} {ρ ρ' : DEnv} {H H' : Hp} (a : EStp σ ρ H ρ' H') : SStp σ ρ H σ ρ' H' := ⟨a.ext, a.al, fun b h => .inl (a.own b h), fun i c h => ⟨rfl, a.io i c h⟩⟩
theorem SStp.gv {O : Addr → Prop} {σ σ' : L2.St} {ρ ρ' : DEnv} {H H' : Hp} (s : SStp σ ρ H σ' ρ' H') : ∀ a o, Gv O σ ρ H a = some o → Gv O σ' ρ' H' a = some o := fun a o h => by
  obtain ⟨h1, h2, h3⟩ := of_Gv h
  exact Gv_of h1 (fun q => (s.own a q).elim h2 fun z => by rw [h3] at z; cases z) (s.ext a o h3 h2)

/-- what is handed back: seen data, or a thing that nobody else holds -/
def RelR (K : Frg) (O : Addr → Prop) (σ : L2.St) (ρ : DEnv) (H : Hp) (σ' : L2.St) (ρ' : DEnv) (H' : Hp) (u : V) : RV → Prop
  | .val d => RelEnv K O σ' H' ρ' ∧ Dp K (Gv O σ' ρ' H') u d
  | .own c => ∃ p, u = .ref p ∧ NewAt K O σ' ρ' H' p c ∧ (Ow σ ρ p ∨ H p = none)
def SatS (K : Frg) (mg : Mg) (O : Addr → Prop) (σ : L2.St) (ρ : DEnv) (H : Hp) (W : WX) (E : Ends) : Fl → Prop
  | .nx ρ' => ∀ σ' H', SStp σ ρ H σ' ρ' H' → RelEnv K O σ' H' ρ' → E.nx σ' H'
  | .rt v ρ' => ∀ u σ' H', SStp σ ρ H σ' ρ' H' → RelR K O σ ρ H σ' ρ' H' u v → E.rt u H'
  | .bk ρ' => ∀ σ' H', SStp σ ρ H σ' ρ' H' → RelEnv K O σ' H' ρ' → E.bk σ' H'
  | .ct ρ' => ∀ σ' H', SStp σ ρ H σ' ρ' H' → RelEnv K O σ' H' ρ' → E.ct σ' H'
  | .err x ρ' => ∀ cls d σ' H', SStp σ ρ H σ' ρ' H' → RelEnv K O σ' H' ρ' → ExnAt mg x cls d H' → W cls d σ' H'
  | .bad => False
theorem RelR.back {K : Frg} {O : Addr → Prop} {σ σ1 σ' : L2.St} {ρ ρ1 ρ' : DEnv} {H H1 H' : Hp} {u : V} {v : RV} (s : SStp σ ρ H σ1 ρ1 H1) (r : RelR K O σ1 ρ1 H1 σ' ρ' H' u v) : RelR K O σ ρ H σ' ρ' H' u v := by
  cases v with
  | val d => exact r
  | own c =>
    obtain ⟨p, h1, h2, h3⟩ := r
    refine ⟨p, h1, h2, h3.elim (fun q => s.own p q) fun z => .inr ?_⟩
    cases q : H p with
    | none => rfl
    | some o => exact absurd z (s.al p (by rw [q]; exact fun z => nomatch z))
theorem SatS.shift {K : Frg} {mg : Mg} {O : Addr → Prop} {σ σ1 : L2.St} {ρ ρ1 : DEnv} {H H1 : Hp} {W : WX} {E : Ends} {r : Fl} (h : SatS K mg O σ ρ H W E r) (s : SStp σ ρ H σ1 ρ1 H1) : SatS K mg O σ1 ρ1 H1 W E r := by
  cases r with
  | nx ρ' => exact fun σ' H' s' e => h σ' H' (s.trans s') e
  | rt v ρ' => exact fun u σ' H' s' e => h u σ' H' (s.trans s') (e.back s)
  | bk ρ' => exact fun σ' H' s' e => h σ' H' (s.trans s') e
  | ct ρ' => exact fun σ' H' s' e => h σ' H' (s.trans s') e
  | err x ρ' => exact fun c d σ' H' s' e q => h c d σ' H' (s.trans s') e q
  | bad => exact h
def tDS (K : Frg) (mg : Mg) (W : WX) (g : DSt) : TS := fun E σ H => ∃ O ρ, RelEnv K O σ H ρ ∧ SatS K mg O σ ρ H W E (g ρ)
structure DS (X : Cx) (W : WX) (st : Stmt) (g : DSt) : Prop where
  ps : PS X st (tDS X.K X.mg W g)
structure DSs (X : Cx) (W : WX) (st : List Stmt) (g : DSt) : Prop where
  pss : PSs X st (tDS X.K X.mg W g)
theorem ps_imp {X : Cx} {e : Stmt} {t t' : TS} (h : PS X e t) (i : ∀ D σ H, t' D σ H → t D σ H) : PS X e t' := ⟨fun pins s σ H D I q => h.run pins s σ H D I (i _ _ _ q)⟩
theorem pss_imp {X : Cx} {e : List Stmt} {t t' : TS} (h : PSs X e t) (i : ∀ D σ H, t' D σ H → t D σ H) : PSs X e t' := ⟨fun pins s σ H D I q => h.run pins s σ H D I (i _ _ _ q)⟩
theorem pg_imp {X : Cx} {e : Expr} {t t' : TG} (h : PG X e t) (i : ∀ v σ H Q, t' v σ H Q → t v σ H Q) : PG X e t' := ⟨fun pins s σ H v u Q I r q => h.run pins s σ H v u Q I r (i _ _ _ _ q)⟩

def bindF {α : Type} (r : Res α) (k : α → DEnv → Fl) : Fl := match r with
  | .ok a ρ => k a ρ
  | .err x ρ => .err x ρ
  | .bad => .bad
@[simp] theorem bindF_ok {α : Type} (a : α) (ρ : DEnv) (k : α → DEnv → Fl) : bindF (.ok a ρ) k = k a ρ := (Eq.refl _).trans (Eq.refl _)
@[simp] theorem bindF_err {α : Type} (x : Exn) (ρ : DEnv) (k : α → DEnv → Fl) : bindF (.err x ρ : Res α) k = .err x ρ := (Eq.refl _).trans (Eq.refl _)
@[simp] theorem bindF_bad {α : Type} (k : α → DEnv → Fl) : bindF (.bad : Res α) k = .bad := (Eq.refl _).trans (Eq.refl _)
def optF {α : Type} (o : Option α) (k : α → Fl) : Fl := match o with
  | some a => k a
  | none => .bad
@[simp] theorem optF_some {α : Type} (a : α) (k : α → Fl) : optF (some a) k = k a := (Eq.refl _).trans (Eq.refl _)
@[simp] theorem optF_none {α : Type} (k : α → Fl) : optF none k = .bad := (Eq.refl _).trans (Eq.refl _)
def seqF (f : Fl) (g : DSt) : Fl := match f with
  | .nx ρ => g ρ
  | z => z
@[simp] theorem seqF_nx (ρ : DEnv) (g : DSt) : seqF (.nx ρ) g = g ρ := (Eq.refl _).trans (Eq.refl _)
@[simp] theorem seqF_rt (v : RV) (ρ : DEnv) (g : DSt) : seqF (.rt v ρ) g = .rt v ρ := (Eq.refl _).trans (Eq.refl _)
@[simp] theorem seqF_bk (ρ : DEnv) (g : DSt) : seqF (.bk ρ) g = .bk ρ := (Eq.refl _).trans (Eq.refl _)
@[simp] theorem seqF_ct (ρ : DEnv) (g : DSt) : seqF (.ct ρ) g = .ct ρ := (Eq.refl _).trans (Eq.refl _)
@[simp] theorem seqF_err (x : Exn) (ρ : DEnv) (g : DSt) : seqF (.err x ρ) g = .err x ρ := (Eq.refl _).trans (Eq.refl _)
@[simp] theorem seqF_bad (g : DSt) : seqF .bad g = .bad := (Eq.refl _).trans (Eq.refl _)

section
variable {K : Frg} {mg : Mg} {O : Addr → Prop} {σ : L2.St} {ρ : DEnv} {H : Hp} {W : WX} {E : Ends}
theorem SatS.bind {α β : Type} {rel : DEnv → Hp → β → α → Prop} {r : Res α} {k : α → DEnv → Fl} (h : SatS K mg O σ ρ H W E (bindF r k)) :
    Sat K mg O σ ρ H W rel (fun u H1 => ∃ a ρ1, RelEnv K O σ H1 ρ1 ∧ rel ρ1 H1 u a ∧ EStp σ ρ H ρ1 H1 ∧ SatS K mg O σ ρ1 H1 W E (k a ρ1)) r := by
  cases r with
  | ok a ρ' => exact fun u H' s e q => ⟨a, ρ', e, q, s, SatS.shift h s.s⟩
  | err x ρ' => exact fun c d H' s e q => h c d σ H' s.s e q
  | bad => exact h
theorem SatS.bindL {r : Res Cell} {k : Cell → DEnv → Fl} (h : SatS K mg O σ ρ H W E (bindF r k)) :
    SatL K mg O σ ρ H W (fun u H1 => ∃ c ρ1 p, u = .ref p ∧ NewAt K O σ ρ1 H1 p c ∧ H p = none ∧ EStp σ ρ H ρ1 H1 ∧ SatS K mg O σ ρ1 H1 W E (k c ρ1)) r := by
  cases r with
  | ok a ρ' => exact fun p H' s e q => ⟨a, ρ', p, rfl, q, e, s, SatS.shift h s.s⟩
  | err x ρ' => exact fun c d H' s e q => h c d σ H' s.s e q
  | bad => exact h
theorem optF_sat {γ : Type} {o : Option γ} {k : γ → Fl} (h : SatS K mg O σ ρ H W E (optF o k)) : ∃ z, o = some z ∧ SatS K mg O σ ρ H W E (k z) := by
  cases o with
  | some z => exact ⟨z, rfl, h⟩
  | none => exact h.elim
theorem SatL.imp {Q Q' : VK} {r : Res Cell} (h : SatL K mg O σ ρ H W Q r) (i : ∀ u H', Q u H' → Q' u H') : SatL K mg O σ ρ H W Q' r := by
  cases r with
  | ok a ρ' => exact fun p H' s e q => i _ _ (h p H' s e q)
  | err x ρ' => exact h
  | bad => exact h

/-! ### storing at a name -/
def isIo (o : Option (Option SV)) : Bool := match o with
  | some (some (.own true _)) => true
  | _ => false
theorem ow_setV {v : Option V} {i : Nat} {x : Option SV} {b : Addr} (hx : ∀ io c, x ≠ some (.own io c)) (h : Ow (σ.set i v) (ρ.set i x) b) : Ow σ ρ b := by
  obtain ⟨j, io, c, e1, e2⟩ := h
  by_cases hj : i = j
  · subst hj
    rw [List.getElem?_set] at e1
    simp only [if_true] at e1
    split at e1
    · exact absurd (Option.some.inj e1) (hx io c)
    · cases e1
  · rw [List.getElem?_set_ne hj] at e1 e2
    exact ⟨j, io, c, e1, e2⟩
theorem set_val {u : V} {d : D} {i : Nat} (r : RelEnv K O σ H ρ) (hio : isIo ρ[i]? = false) (hd : Dp K (Gv O σ ρ H) u d) :
    RelEnv K O (σ.set i (some u)) H (ρ.set i (some (.val d))) ∧ SStp σ ρ H (σ.set i (some u)) (ρ.set i (some (.val d))) H := by
  have ow : ∀ b, Ow (σ.set i (some u)) (ρ.set i (some (.val d))) b → Ow σ ρ b := fun b h => ow_setV (by intro _ _ z; cases z) h
  have st : SStp σ ρ H (σ.set i (some u)) (ρ.set i (some (.val d))) H := ⟨fun _ _ h _ => h, fun _ h => h, fun b h => .inl (ow b h), fun j c h => by
    have hj : i ≠ j := by rintro rfl; rw [h] at hio; cases hio
    rw [List.getElem?_set_ne hj, List.getElem?_set_ne hj]; exact ⟨rfl, c, h⟩⟩
  refine ⟨⟨by rw [List.length_set, List.length_set]; exact r.len, r.oa, fun j d' h => ?_, fun j b c h => ?_, fun j k a b c b' c' h1 h2 h3 h4 => ?_, fun j a h => ?_⟩, st⟩
  · by_cases hj : i = j
    · subst hj
      have hi : i < ρ.length := by
        have := (List.getElem?_eq_some_iff.mp h).1
        rw [List.length_set] at this; exact this
      rw [List.getElem?_set_self hi] at h
      cases h
      exact ⟨u, List.getElem?_set_self (by rw [r.len]; exact hi), dp_mono st.gv _ _ hd⟩
    · rw [List.getElem?_set_ne hj] at h ⊢
      obtain ⟨v, h1, h2⟩ := r.val j d' h
      exact ⟨v, h1, dp_mono st.gv _ _ h2⟩
  · by_cases hj : i = j
    · subst hj
      have hi : i < ρ.length := by
        have := (List.getElem?_eq_some_iff.mp h).1
        rw [List.length_set] at this; exact this
      rw [List.getElem?_set_self hi] at h
      cases h
    · rw [List.getElem?_set_ne hj] at h ⊢
      obtain ⟨a, h1, h2, h3⟩ := r.own j b c h
      exact ⟨a, h1, h2, h3.mono st.gv fun _ q => q⟩
  · have n1 : i ≠ j := by
      rintro rfl
      have hi := (List.getElem?_eq_some_iff.mp h1).1
      rw [List.length_set] at hi
      rw [List.getElem?_set_self hi] at h1; cases h1
    have n2 : i ≠ k := by
      rintro rfl
      have hi := (List.getElem?_eq_some_iff.mp h2).1
      rw [List.length_set] at hi
      rw [List.getElem?_set_self hi] at h2; cases h2
    rw [List.getElem?_set_ne n1] at h1 h3
    rw [List.getElem?_set_ne n2] at h2 h4
    exact r.inj j k a _ _ _ _ h1 h2 h3 h4
  · have hj : i ≠ j := by
      rintro rfl
      have hi := (List.getElem?_eq_some_iff.mp h).1
      rw [List.length_set] at hi
      rw [List.getElem?_set_self hi] at h; cases h
    rw [List.getElem?_set_ne hj] at h ⊢
    exact r.raw j a h
theorem set_own {p : Addr} {c : Cell} {i : Nat} (n : NewAt K O σ ρ H p c) (hio : isIo ρ[i]? = false) :
    RelEnv K O (σ.set i (some (.ref p))) H (ρ.set i (some (.own false c))) ∧ (∀ b, Ow (σ.set i (some (.ref p))) (ρ.set i (some (.own false c))) b → Ow σ ρ b ∨ b = p) := by
  obtain ⟨r, np, no, hc⟩ := n
  have ow : ∀ b, Ow (σ.set i (some (.ref p))) (ρ.set i (some (.own false c))) b → Ow σ ρ b ∨ b = p := fun b h => by
    obtain ⟨j, io, c', e1, e2⟩ := h
    by_cases hj : i = j
    · subst hj
      have hi : i < σ.length := by
        have := (List.getElem?_eq_some_iff.mp e2).1
        rw [List.length_set] at this; exact this
      rw [List.getElem?_set_self hi] at e2
      cases e2; exact .inr rfl
    · rw [List.getElem?_set_ne hj] at e1 e2
      exact .inl ⟨j, io, c', e1, e2⟩
  have gv : ∀ a o, Gv (fun a => O a ∨ a = p) σ ρ H a = some o → Gv O (σ.set i (some (.ref p))) (ρ.set i (some (.own false c))) H a = some o := fun a o h => by
    obtain ⟨h1, h2, h3⟩ := of_Gv h
    exact Gv_of (fun q => h1 (.inl q)) (fun q => (ow a q).elim h2 fun z => h1 (.inr z)) h3
  refine ⟨⟨by rw [List.length_set, List.length_set]; exact r.len, fun a q => r.oa a (.inl q), fun j d' h => ?_, fun j b c h => ?_, fun j k a b1 c1 b' c' h1 h2 h3 h4 => ?_, fun j a h => ?_⟩, ow⟩
  · by_cases hj : i = j
    · subst hj
      have hi : i < ρ.length := by
        have := (List.getElem?_eq_some_iff.mp h).1
        rw [List.length_set] at this; exact this
      rw [List.getElem?_set_self hi] at h
      cases h
    · rw [List.getElem?_set_ne hj] at h ⊢
      obtain ⟨v, h1, h2⟩ := r.val j d' h
      exact ⟨v, h1, dp_mono gv _ _ h2⟩
  · by_cases hj : i = j
    · subst hj
      have hi : i < ρ.length := by
        have := (List.getElem?_eq_some_iff.mp h).1
        rw [List.length_set] at this; exact this
      rw [List.getElem?_set_self hi] at h
      cases h
      exact ⟨p, List.getElem?_set_self (by rw [r.len]; exact hi), np, hc.mono gv fun _ q => q⟩
    · rw [List.getElem?_set_ne hj] at h ⊢
      obtain ⟨a, h1, h2, h3⟩ := r.own j b c h
      exact ⟨a, h1, fun q => h2 (.inl q), h3.mono gv fun _ q => q⟩
  · have key : ∀ {m : Nat} {b0 : Bool} {c0 : Cell}, (ρ.set i (some (.own false c)))[m]? = some (some (.own b0 c0)) → (σ.set i (some (V.ref p)))[m]? = some (some (.ref a)) → (m = i ∧ a = p) ∨ (m ≠ i ∧ ρ[m]? = some (some (.own b0 c0)) ∧ σ[m]? = some (some (.ref a)) ∧ a ≠ p) := by
      intro m b0 c0 e1 e2
      by_cases hm : i = m
      · subst hm
        have hi : i < σ.length := by
          have := (List.getElem?_eq_some_iff.mp e2).1
          rw [List.length_set] at this; exact this
        rw [List.getElem?_set_self hi] at e2
        cases e2
        exact .inl ⟨rfl, rfl⟩
      · rw [List.getElem?_set_ne hm] at e1 e2
        refine .inr ⟨fun z => hm z.symm, e1, e2, ?_⟩
        rintro rfl
        exact no ⟨m, b0, c0, e1, e2⟩
    rcases key h1 h3 with ⟨e1, e2⟩ | ⟨n1, q1, q2, q3⟩
    · rcases key h2 h4 with ⟨f1, f2⟩ | ⟨m1, p1, p2, p3⟩
      · rw [e1, f1]
      · exact absurd e2 p3
    · rcases key h2 h4 with ⟨f1, f2⟩ | ⟨m1, p1, p2, p3⟩
      · exact absurd f2 q3
      · exact r.inj j k a _ _ _ _ q1 p1 q2 p2
  · have hj : i ≠ j := by
      rintro rfl
      have hi := (List.getElem?_eq_some_iff.mp h).1
      rw [List.length_set] at hi
      rw [List.getElem?_set_self hi] at h; cases h
    rw [List.getElem?_set_ne hj] at h ⊢
    exact r.raw j a h
theorem set_ownS {p : Addr} {c : Cell} {i : Nat} {ρ0 : DEnv} {H0 : Hp} (st : EStp σ ρ0 H0 ρ H) (hp : H0 p = none) (n : NewAt K O σ ρ H p c) (hio : isIo ρ[i]? = false) :
    SStp σ ρ0 H0 (σ.set i (some (.ref p))) (ρ.set i (some (.own false c))) H := by
  have ow := (set_own n hio).2
  refine ⟨st.ext, st.al, fun b h => (ow b h).elim (fun q => .inl (st.own b q)) fun z => .inr (by rw [z]; exact hp), fun j c' h => ?_⟩
  obtain ⟨c1, h1⟩ := st.io j c' h
  have hj : i ≠ j := by rintro rfl; rw [h1] at hio; cases hio
  rw [List.getElem?_set_ne hj, List.getElem?_set_ne hj]; exact ⟨rfl, c1, h1⟩
end

/-! ### blocks -/
section
variable {X : Cx} {W : WX} {st : Stmt} {sts : List Stmt} {g h : DSt}
def gNext : DSt := fun ρ => .nx ρ
def gSeq (g h : DSt) : DSt := fun ρ => seqF (g ρ) h
theorem dss_nil : DSs X W [] gNext := ⟨pss_imp pss_nil fun E σ H ⟨O, ρ, r, s⟩ => s σ H .refl r⟩
theorem dss_cons (a : DS X W st g) (b : DSs X W sts h) : DSs X W (st :: sts) (gSeq g h) := by
  refine ⟨pss_imp (pss_cons a.ps b.pss) fun E σ H ⟨O, ρ, r, s⟩ => ⟨O, ρ, r, ?_⟩⟩
  unfold gSeq at s
  cases q : g ρ with
  | nx ρ1 => rw [q] at s; exact fun σ' H' st' r' => ⟨O, ρ1, r', SatS.shift s st'⟩
  | rt v ρ1 => rw [q] at s; exact s
  | bk ρ1 => rw [q] at s; exact s
  | ct ρ1 => rw [q] at s; exact s
  | err x ρ1 => rw [q] at s; exact s
  | bad => rw [q] at s; exact s
theorem dss_one (a : DS X W st g) : DSs X W [st] g := ⟨pss_imp (pss_one a.ps) fun E σ H s => s⟩
theorem ds_pass {pos : Pos} : DS X W (.Pass pos) gNext := ⟨ps_imp ps_pass fun E σ H ⟨O, ρ, r, s⟩ => s σ H .refl r⟩
def gBreak : DSt := fun ρ => .bk ρ
def gCont : DSt := fun ρ => .ct ρ
theorem ds_break {pos : Pos} : DS X W (.Break pos) gBreak := ⟨ps_imp ps_break fun E σ H ⟨O, ρ, r, s⟩ => s σ H .refl r⟩
theorem ds_cont {pos : Pos} : DS X W (.Continue pos) gCont := ⟨ps_imp ps_continue fun E σ H ⟨O, ρ, r, s⟩ => s σ H .refl r⟩
def gIf (t : DEnv → Res Bool) (g h : DSt) : DSt := fun ρ => bindF (t ρ) fun k ρ1 => if k = true then g ρ1 else h ρ1
theorem ds_if {c : Expr} {as bs : List Stmt} {pos : Pos} {t : DEnv → Res Bool} (hc : DT X W c t) (ha : DSs X W as g) (hb : DSs X W bs h) : DS X W (.If c as bs pos) (gIf t g h) := by
  refine ⟨ps_imp (ps_if hc.pt ha.pss hb.pss) fun E σ H ⟨O, ρ, r, s⟩ => ⟨O, ρ, r, (SatS.bind s).imp fun u H1 ⟨v, ρ1, r1, e1, st, s1⟩ => ?_⟩⟩
  cases e1
  cases u with
  | true => exact iteT ⟨O, ρ1, r1, by simpa using s1⟩
  | false => exact iteF ⟨O, ρ1, r1, by simpa using s1⟩

/-! ### expressions, returns, assignments -/
def gExpr (f : DX) : DSt := fun ρ => bindF (f ρ) fun _ ρ1 => .nx ρ1
theorem ds_expr {e : Expr} {f : DX} {pos : Pos} (he : DE X W e f) (hs : swapsWith e none pos.line X.env = pure false := by rfl) : DS X W (.Expr e pos) (gExpr f) := by
  refine ⟨ps_imp (ps_expr he.pe hs) fun E σ H ⟨O, ρ, r, s⟩ => ⟨O, ρ, r, (SatS.bind s).imp fun u H1 ⟨v, ρ1, r1, e1, st, s1⟩ => ?_⟩⟩
  exact s1 σ H1 .refl r1
def gRet (f : DX) : DSt := fun ρ => bindF (f ρ) fun v ρ1 => optF (keep v ρ1) fun p => .rt (.val p.1) p.2
theorem ds_ret {e : Expr} {f : DX} {pos : Pos} (he : DE X W e f) : DS X W (.Return (some e) pos) (gRet f) := by
  refine ⟨ps_imp (ps_ret he.pe) fun E σ H ⟨O, ρ, r, s⟩ => ⟨O, ρ, r, (SatS.bind s).imp fun u H1 ⟨v, ρ1, r1, e1, st, s1⟩ => ?_⟩⟩
  obtain ⟨⟨d, ρ2⟩, hk, s2⟩ := optF_sat s1
  obtain ⟨r2, st2, hd⟩ := keep_ok r1 e1 hk
  exact s2 u σ H1 st2.s ⟨r2, hd⟩
def gRetL (f : DEnv → Res Cell) : DSt := fun ρ => bindF (f ρ) fun c ρ1 => .rt (.own c) ρ1
theorem ds_retL {e : Expr} {f : DEnv → Res Cell} {pos : Pos} (he : DLs X W e f) : DS X W (.Return (some e) pos) (gRetL f) := by
  refine ⟨ps_imp (ps_ret he.pe) fun E σ H ⟨O, ρ, r, s⟩ => ⟨O, ρ, r, ?_⟩⟩
  unfold gRetL at s
  cases q : f ρ with
  | ok c ρ1 =>
    rw [q] at s
    exact fun p H' st hp n => s _ σ H' st.s ⟨p, rfl, n, .inr hp⟩
  | err x ρ1 => rw [q] at s; exact fun c d H' st e z => s c d σ H' st.s e z
  | bad => rw [q] at s; exact s
def gRetN : DSt := fun ρ => .rt (.val .none) ρ
theorem ds_retN {pos : Pos} : DS X W (.Return none pos) gRetN := ⟨ps_imp ps_retN fun E σ H ⟨O, ρ, r, s⟩ => s .non σ H .refl ⟨r, .non⟩⟩
/-- return of a name that owns its thing -/
def gRetOwn (i : Nat) : DSt := fun ρ => match ρ[i]? with
  | some (some (.own false c)) => .rt (.own c) (ρ.set i none)
  | _ => .bad
def gSet (i : Nat) (f : DX) : DSt := fun ρ => bindF (f ρ) fun v ρ1 => optF (keep v ρ1) fun p => if isIo p.2[i]? = true then .bad else .nx (p.2.set i (some (.val p.1)))
def gSetL (i : Nat) (f : DEnv → Res Cell) : DSt := fun ρ => bindF (f ρ) fun c ρ1 => if isIo ρ1[i]? = true then .bad else .nx (ρ1.set i (some (.own false c)))
theorem set_core {i : Nat} {f : DX} {E : Ends} {σ : L2.St} {H : Hp} (h : tDS X.K X.mg W (gSet i f) E σ H) : tAsg (tDX X.K X.mg W f) (gName i) E σ H := by
  obtain ⟨O, ρ, r, s⟩ := h
  refine ⟨O, ρ, r, (SatS.bind s).imp fun u H1 ⟨v, ρ1, r1, e1, st, s1⟩ => ?_⟩
  obtain ⟨⟨d, ρ2⟩, hk, s2⟩ := optF_sat s1
  obtain ⟨r2, st2, hd⟩ := keep_ok r1 e1 hk
  dsimp only at s2
  split at s2
  · exact s2.elim
  · rename_i hio
    obtain ⟨r3, st3⟩ := set_val r2 (by simpa using hio) hd
    exact s2 _ H1 (st2.s.trans st3) r3
theorem set_coreL {i : Nat} {f : DEnv → Res Cell} {E : Ends} {σ : L2.St} {H : Hp} (h : tDS X.K X.mg W (gSetL i f) E σ H) : tAsg (tDL X.K X.mg W f) (gName i) E σ H := by
  obtain ⟨O, ρ, r, s⟩ := h
  refine ⟨O, ρ, r, ?_⟩
  unfold gSetL at s
  cases q : f ρ with
  | ok c ρ1 =>
    rw [q] at s
    intro p H' st hp n
    dsimp only [bindF] at s
    split at s
    · exact s.elim
    · rename_i hio
      exact s _ H' (set_ownS st hp n (by simpa using hio)) (set_own n (by simpa using hio)).1
  | err x ρ1 => rw [q] at s; exact fun c d H' st e z => s c d σ H' st.s e z
  | bad => rw [q] at s; exact s
section
variable {i : Nat} {x : Str} {e : Expr} {pos pos' : Pos}
theorem ds_set {f : DX} (he : DE X W e f) (hN : X.N.Nodup) (hi : X.N[i]? = some x := by rfl) (hx : Loc X.env.scope x := by first | exact Or.inl rfl | exact Or.inr rfl) (hs : swapsWith e (some (.Name x pos')) pos.line X.env = pure false := by rfl)
    (hf : X.fn x = true ∨ X.env.scope.names.lookup x = some .local := by first | exact .inl rfl | exact .inr rfl | assumption) : DS X W (.Assign [.Name x pos'] e pos) (gSet i f) :=
  ⟨ps_imp (ps_set hN hi hx he.pe hs hf) fun _ _ _ h => set_core h⟩
theorem ds_setL {f : DEnv → Res Cell} (he : DLs X W e f) (hN : X.N.Nodup) (hi : X.N[i]? = some x := by rfl) (hx : Loc X.env.scope x := by first | exact Or.inl rfl | exact Or.inr rfl) (hs : swapsWith e (some (.Name x pos')) pos.line X.env = pure false := by rfl)
    (hf : X.fn x = true ∨ X.env.scope.names.lookup x = some .local := by first | exact .inl rfl | exact .inr rfl | assumption) : DS X W (.Assign [.Name x pos'] e pos) (gSetL i f) :=
  ⟨ps_imp (ps_set hN hi hx he.pe hs hf) fun _ _ _ h => set_coreL h⟩
end
end
end DL

namespace DL
open L2 PySem PySem.Spec PyProof.Rows

/-! ### targets -/
def tDG (K : Frg) (sl : List Nat) (bind : D → DEnv → Option DEnv) : TG := fun x σ H Q => ∃ O ρ d ρ1, RelEnv K O σ H ρ ∧ Dp K (Gv O σ ρ H) x d ∧ bind d ρ = some ρ1 ∧
  ∀ σ1, SStp σ ρ H σ1 ρ1 H → RelEnv K O σ1 H ρ1 → σ1.length = σ.length → (∀ k, k ∉ sl → σ1[k]? = σ[k]?) → Q σ1 H
structure DG (X : Cx) (tg : Expr) (sl : List Nat) (bind : D → DEnv → Option DEnv) : Prop where
  pg : PG X tg (tDG X.K sl bind)
def tDGs (K : Frg) (sl : List Nat) (bind : List D → DEnv → Option DEnv) : TGs := fun xs σ H Q => ∃ O ρ ds ρ1, RelEnv K O σ H ρ ∧ DpAll K (Gv O σ ρ H) xs ds ∧ bind ds ρ = some ρ1 ∧
  ∀ σ1, SStp σ ρ H σ1 ρ1 H → RelEnv K O σ1 H ρ1 → σ1.length = σ.length → (∀ k, k ∉ sl → σ1[k]? = σ[k]?) → Q σ1 H
structure DGs (X : Cx) (tg : List Expr) (sl : List Nat) (bind : List D → DEnv → Option DEnv) : Prop where
  pgs : PGs X tg (tDGs X.K sl bind)
theorem pgs_imp {X : Cx} {e : List Expr} {t t' : TGs} (h : PGs X e t) (i : ∀ v σ H Q, t' v σ H Q → t v σ H Q) : PGs X e t' := ⟨fun pins s σ H v u Q I r q => h.run pins s σ H v u Q I r (i _ _ _ _ q)⟩
def bName (i : Nat) : D → DEnv → Option DEnv := fun d ρ => if isIo ρ[i]? = true then none else some (ρ.set i (some (.val d)))
def bNil : List D → DEnv → Option DEnv := fun ds ρ => match ds with
  | [] => some ρ
  | _ => none
def bCons (b : D → DEnv → Option DEnv) (r : List D → DEnv → Option DEnv) : List D → DEnv → Option DEnv := fun ds ρ => match ds with
  | d :: ds => match b d ρ with
    | some ρ1 => r ds ρ1
    | none => none
  | [] => none
def bTup (r : List D → DEnv → Option DEnv) : D → DEnv → Option DEnv := fun d ρ => match d with
  | .tuple ds => r ds ρ
  | _ => none
section
variable {X : Cx}
theorem dg_name {i : Nat} {x : Str} {pos : Pos} (hN : X.N.Nodup) (hi : X.N[i]? = some x := by rfl) (hx : Loc X.env.scope x := by first | exact Or.inl rfl | exact Or.inr rfl) (hf : X.fn x = true ∨ X.env.scope.names.lookup x = some .local := by first | exact .inl rfl | exact .inr rfl | assumption) :
    DG X (.Name x pos) [i] (bName i) := by
  refine ⟨pg_imp (pg_name hN hi hx hf) fun v σ H Q ⟨O, ρ, d, ρ1, r, hd, hb, q⟩ => ?_⟩
  unfold bName at hb
  split at hb
  · cases hb
  · rename_i hio
    cases hb
    obtain ⟨r1, st⟩ := set_val r (by simpa using hio) hd
    exact q _ st r1 (List.length_set) fun k hk => List.getElem?_set_ne (fun z => hk (by simp [z]))
theorem dgs_nil : DGs X [] [] bNil := by
  refine ⟨pgs_imp pgs_nil fun v σ H Q ⟨O, ρ, ds, ρ1, r, hd, hb, q⟩ => ?_⟩
  unfold bNil at hb
  split at hb
  · cases hb; cases hd; exact ⟨rfl, q σ .refl r rfl fun _ _ => rfl⟩
  · cases hb
theorem dgs_cons {e : Expr} {es : List Expr} {s1 s2 : List Nat} {b : D → DEnv → Option DEnv} {r : List D → DEnv → Option DEnv} (h1 : DG X e s1 b) (h2 : DGs X es s2 r)
    (hs : (assignEach (e :: es) X.env).map (·.2) = assign e X.env :: (assignEach es X.env).map (·.2) := by rfl) : DGs X (e :: es) (s1 ++ s2) (bCons b r) := by
  refine ⟨pgs_imp (pgs_cons h1.pg h2.pgs hs) fun v σ H Q ⟨O, ρ, ds, ρ1, rr, hd, hb, q⟩ => ?_⟩
  unfold bCons at hb
  split at hb
  · rename_i d ds'
    split at hb
    · rename_i ρ2 hb2
      cases hd with
      | cons hd1 hd2 =>
        refine ⟨_, _, rfl, O, ρ, d, ρ2, rr, hd1, hb2, fun σ1 st1 r1 l1 k1 => ?_⟩
        refine ⟨O, ρ2, ds', ρ1, r1, dpAll_mono st1.gv _ _ hd2, hb, fun σ2 st2 r2 l2 k2 => ?_⟩
        exact q σ2 (st1.trans st2) r2 (l2.trans l1) fun k hk => (k2 k fun z => hk (List.mem_append_right _ z)).trans (k1 k fun z => hk (List.mem_append_left _ z))
    · cases hb
  · cases hb
theorem dg_tup {es : List Expr} {k n : Nat} {pos : Pos} {sl : List Nat} {r : List D → DEnv → Option DEnv} (hc : X.calm = true) (h : DGs X es sl r) (hn : (assignEach es X.env).length = n := by rfl) (hst : (assignEach es X.env).findIdx? (·.1) = none := by rfl)
    (hlen : ∀ ds ρ ρ1, r ds ρ = some ρ1 → ds.length = n) : DG X (.Tuple es k pos) sl (bTup r) := by
  refine ⟨pg_imp (pg_tup hc h.pgs hn hst) fun v σ H Q ⟨O, ρ, d, ρ1, rr, hd, hb, q⟩ => ?_⟩
  unfold bTup at hb
  split at hb
  · rename_i ds
    cases hd with
    | tup s a => exact ⟨_, _, rfl, SqT.mono Gv_sub s, by rw [DL.DpAll.length a]; exact hlen _ _ _ hb, O, ρ, ds, ρ1, rr, a, hb, q⟩
  · cases hb
theorem bLen2 {b1 b2 : D → DEnv → Option DEnv} : ∀ ds ρ ρ1, bCons b1 (bCons b2 bNil) ds ρ = some ρ1 → ds.length = 2 := by
  intro ds ρ ρ1 h
  match ds, h with
  | [], h => simp [bCons] at h
  | [a], h => simp only [bCons] at h; split at h <;> cases h
  | [a, b], h => rfl
  | a :: b :: c :: t, h =>
    simp only [bCons] at h
    split at h
    · split at h
      · simp [bNil] at h
      · cases h
    · cases h
theorem bLen3 {b1 b2 b3 : D → DEnv → Option DEnv} : ∀ ds ρ ρ1, bCons b1 (bCons b2 (bCons b3 bNil)) ds ρ = some ρ1 → ds.length = 3 := by
  intro ds ρ ρ1 h
  match ds, h with
  | [], h => simp [bCons] at h
  | d :: ds, h =>
    rw [bCons] at h
    try dsimp only at h
    split at h
    · have := bLen2 _ _ _ h
      simp [this]
    · cases h
end

/-! ### what is walked -/
def YD (K : Frg) (G0 : Hp) (ds : List D) : Nat → Hp → V → Hp → Prop := fun i H x H' => ∃ d, ds[i]? = some d ∧ Same H H' ∧
  ∀ O σ ρ, RelEnv K O σ H ρ → (∀ a o, G0 a = some o → Gv O σ ρ H a = some o) → Dp K (Gv O σ ρ H') x d
def Src (K : Frg) (G0 : Hp) (J : It) (ds : List D) : Prop := Walk J ds.length (fun H => ∀ a o, G0 a = some o → H a = some o) (YD K G0 ds)
def SatI (K : Frg) (mg : Mg) (O : Addr → Prop) (σ : L2.St) (ρ : DEnv) (H : Hp) (W : WX) (R : It → Hp → Prop) : Res (List D) → Prop
  | .ok ds ρ' => ∀ J H', EStp σ ρ H ρ' H' → RelEnv K O σ H' ρ' → Src K (Gv O σ ρ' H') J ds → R J H'
  | .err x ρ' => ∀ cls d H', EStp σ ρ H ρ' H' → RelEnv K O σ H' ρ' → ExnAt mg x cls d H' → W cls d σ H'
  | .bad => False
def tDI (K : Frg) (mg : Mg) (W : WX) (f : DEnv → Res (List D)) : TI := fun σ H R => ∃ O ρ, RelEnv K O σ H ρ ∧ SatI K mg O σ ρ H W R (f ρ)
structure DI (X : Cx) (W : WX) (tg e : Expr) (f : DEnv → Res (List D)) : Prop where
  pi : PI X tg e (tDI X.K X.mg W f)
theorem pi_imp {X : Cx} {tg e : Expr} {t t' : TI} (h : PI X tg e t) (i : ∀ σ H R, t' σ H R → t σ H R) : PI X tg e t' := ⟨fun pins s σ H R I q => h.run pins s σ H R I (i _ _ _ q)⟩
theorem pi_or {X : Cx} {tg e : Expr} {t t' : TI} (h : PI X tg e t) (h' : PI X tg e t') : PI X tg e (fun σ H R => t σ H R ∨ t' σ H R) := ⟨fun pins s σ H R I q => q.elim (h.run pins s σ H R I) (h'.run pins s σ H R I)⟩
section
variable {X : Cx} {W : WX} {tg e : Expr} {K : Frg} {G0 : Hp}
theorem src_list {a : Addr} {vs : List V} {ds : List D} (s : SqL K G0 a vs) (h : DpAll K G0 vs ds) : Src K G0 (Itl K a) ds := by
  unfold Src
  rw [← DL.DpAll.length h]
  refine walk_list.mono (fun H hg => SqL.mono hg s) fun i H x H' hi hg y => ?_
  obtain ⟨rfl, y⟩ := y
  obtain ⟨d, h1, h2⟩ := DL.DpAll.atV h y
  exact ⟨d, h1, Same.refl _, fun O σ ρ r g => dp_mono g _ _ h2⟩
theorem src_tup {a : Addr} {vs : List V} {ds : List D} (s : SqT K G0 a vs) (h : DpAll K G0 vs ds) : Src K G0 (Itt K a) ds := by
  unfold Src
  rw [← DL.DpAll.length h]
  refine walk_tup.mono (fun H hg => SqT.mono hg s) fun i H x H' hi hg y => ?_
  obtain ⟨rfl, y⟩ := y
  obtain ⟨d, h1, h2⟩ := DL.DpAll.atV h y
  exact ⟨d, h1, Same.refl _, fun O σ ρ r g => dp_mono g _ _ h2⟩
def rangeD (lo : Int) (n : Nat) : List D := (List.range n).map fun (i : Nat) => .int (lo + i)
theorem src_range {lo : Int} {n : Nat} : Src K G0 (Itr lo n) (rangeD lo n) := by
  unfold Src
  have hl : (rangeD lo n).length = n := by simp [rangeD]
  rw [hl]
  refine walk_range.mono (fun _ _ => trivial) fun i H x H' hi hg y => ?_
  obtain ⟨rfl, rfl⟩ := y
  exact ⟨.int (lo + i), by simp [rangeD, hi], Same.refl _, fun _ _ _ _ _ => .int _⟩
def rangeCD (lo c : Int) (n : Nat) : List D := (List.range n).map fun (i : Nat) => .int (lo + i * c)
theorem src_rangeC {lo c : Int} {n : Nat} : Src K G0 (Itc lo c n) (rangeCD lo c n) := by
  unfold Src
  have hl : (rangeCD lo c n).length = n := by simp [rangeCD]
  rw [hl]
  refine walk_rangeC.mono (fun _ _ => trivial) fun i H x H' hi hg y => ?_
  obtain ⟨rfl, rfl⟩ := y
  exact ⟨.int (lo + i * c), by simp [rangeCD, hi], Same.refl _, fun _ _ _ _ _ => .int _⟩
/-- the items of a list or tuple -/
def itemsD : D → Option (List D)
  | .list ds => some ds
  | .tuple ds => some ds
  | _ => none
def iSeq (f : DX) : DEnv → Res (List D) := fun ρ => bindR (f ρ) fun v ρ1 => optR (keep v ρ1) fun p => optR (itemsD p.1) fun ds => .ok ds p.2
theorem sat_bindI {α β : Type} {mg : Mg} {O : Addr → Prop} {σ : L2.St} {ρ : DEnv} {H : Hp} {R : It → Hp → Prop} {rel : DEnv → Hp → β → α → Prop} {r : Res α} {k : α → DEnv → Res (List D)} (h : SatI K mg O σ ρ H W R (bindR r k)) :
    Sat K mg O σ ρ H W rel (fun u H1 => ∃ a ρ1, RelEnv K O σ H1 ρ1 ∧ rel ρ1 H1 u a ∧ EStp σ ρ H ρ1 H1 ∧ SatI K mg O σ ρ1 H1 W R (k a ρ1)) r := by
  cases r with
  | ok a ρ' => 
    intro u H' s e q
    refine ⟨a, ρ', e, q, s, ?_⟩
    have h' : SatI K mg O σ ρ H W R (k a ρ') := h
    revert h'
    cases k a ρ' with
    | ok ds ρ2 => exact fun h J H2 s2 r2 src => h J H2 (s.trans s2) r2 src
    | err x ρ2 => exact fun h c d H2 s2 r2 z => h c d H2 (s.trans s2) r2 z
    | bad => exact fun h => h
  | err x ρ' => exact h
  | bad => exact h
theorem optR_satI {γ : Type} {mg : Mg} {O : Addr → Prop} {σ : L2.St} {ρ : DEnv} {H : Hp} {R : It → Hp → Prop} {o : Option γ} {k : γ → Res (List D)} (h : SatI K mg O σ ρ H W R (optR o k)) : ∃ z, o = some z ∧ SatI K mg O σ ρ H W R (k z) := by
  cases o with
  | some z => exact ⟨z, rfl, h⟩
  | none => exact h.elim
theorem di_seq {f : DX} (he : DE X W e f) : DI X W tg e (iSeq f) := by
  have hl := pi_list (tg := tg) he.pe
  have ht := pi_tup (tg := tg) he.pe
  refine ⟨⟨fun pins s σ H R I h => ?_⟩⟩
  obtain ⟨O, ρ, r, st⟩ := h
  unfold iSeq at st
  cases q : f ρ with
  | ok v ρ1 =>
    rw [q] at st
    obtain ⟨⟨d, ρ2⟩, hk, s2⟩ := optR_satI st
    obtain ⟨ds, hi, s3⟩ := optR_satI s2
    have fin : ∀ u H', EStp σ ρ H ρ1 H' → RelEnv X.K O σ H' ρ1 → RelE X.K O σ ρ1 H' u v → RelEnv X.K O σ H' ρ2 ∧ EStp σ ρ H ρ2 H' ∧ Dp X.K (Gv O σ ρ2 H') u d := fun u H' st1 r1 e1 => by
      obtain ⟨a, b, c⟩ := keep_ok r1 e1 hk
      exact ⟨a, st1.trans b, c⟩
    cases d with
    | list xs =>
      cases hi
      refine hl.run pins s σ H R I ⟨O, ρ, r, ?_⟩
      rw [q]
      intro u H' st1 r1 e1
      obtain ⟨r2, st2, hd⟩ := fin u H' st1 r1 e1
      cases hd with
      | lst sq a => exact ⟨_, rfl, ⟨_, SqL.mono Gv_sub sq⟩, s3 _ H' st2 r2 (src_list sq a)⟩
    | tuple xs =>
      cases hi
      refine ht.run pins s σ H R I ⟨O, ρ, r, ?_⟩
      rw [q]
      intro u H' st1 r1 e1
      obtain ⟨r2, st2, hd⟩ := fin u H' st1 r1 e1
      cases hd with
      | tup sq a => exact ⟨_, rfl, ⟨_, SqT.mono Gv_sub sq⟩, s3 _ H' st2 r2 (src_tup sq a)⟩
    | none => cases hi
    | bool _ => cases hi
    | int _ => cases hi
    | str _ => cases hi
    | dict _ => cases hi
  | err x ρ1 =>
    rw [q] at st
    refine hl.run pins s σ H R I ⟨O, ρ, r, ?_⟩
    rw [q]
    exact st
  | bad => rw [q] at st; exact st.elim
def iRange1 (g : DEnv → Res (List EV)) : DEnv → Res (List D) := fun ρ => bindR (g ρ) fun vs ρ1 => match vs with
  | [.val (.int j)] => if -(2 ^ 62) ≤ j ∧ j < 2 ^ 62 then .ok (rangeD 0 j.toNat) ρ1 else .bad
  | _ => .bad
theorem di_range1 {a : Expr} {g : DEnv → Res (List EV)} {p pos : Pos} (hm : X.mg "range" = none) (ha : DA X W [a] g) (hg : Gl X "range" := by rfl) (hs : starEach [a] X.env = [(false, eval a X.env)] := by rfl) : DI X W tg (.Call (.Name "range" p) [a] [] pos) (iRange1 g) := by
  refine ⟨pi_imp (pi_range1 hg hm ha.pa hs) fun σ H R ⟨O, ρ, r, s⟩ => ⟨O, ρ, r, (sat_bindI s).imp fun us H1 ⟨vs, ρ1, r1, e1, st, s1⟩ => ?_⟩⟩
  try dsimp only at s1
  split at s1
  · rename_i j
    split at s1
    · rename_i hj
      match us, e1 with
      | [u], e1 =>
        have q : Dp X.K _ u (.int j) := e1.1
        cases q
        exact ⟨j, rfl, hj.1, hj.2, s1 _ H1 .refl r1 src_range⟩
    · exact s1.elim
  · exact s1.elim
def iRange2 (g : DEnv → Res (List EV)) : DEnv → Res (List D) := fun ρ => bindR (g ρ) fun vs ρ1 => match vs with
  | [.val (.int i), .val (.int j)] => if -(2 ^ 62) ≤ i ∧ i < 2 ^ 62 ∧ -(2 ^ 62) ≤ j ∧ j < 2 ^ 62 then .ok (rangeD i (j - i).toNat) ρ1 else .bad
  | _ => .bad
theorem di_range2 {a b : Expr} {g : DEnv → Res (List EV)} {p pos : Pos} (hm : X.mg "range" = none) (ha : DA X W [a, b] g) (hg : Gl X "range" := by rfl) (hs : starEach [a, b] X.env = [(false, eval a X.env), (false, eval b X.env)] := by rfl) (hs2 : starEach [b] X.env = [(false, eval b X.env)] := by rfl) :
    DI X W tg (.Call (.Name "range" p) [a, b] [] pos) (iRange2 g) := by
  refine ⟨pi_imp (pi_range2 hg hm ha.pa hs hs2) fun σ H R ⟨O, ρ, r, s⟩ => ⟨O, ρ, r, (sat_bindI s).imp fun us H1 ⟨vs, ρ1, r1, e1, st, s1⟩ => ?_⟩⟩
  try dsimp only at s1
  split at s1
  · rename_i i j
    split at s1
    · rename_i hj
      match us, e1 with
      | [u, v], e1 =>
        have q : Dp X.K _ u (.int i) := e1.1
        have q2 : Dp X.K _ v (.int j) := e1.2.1
        cases q; cases q2
        exact ⟨i, j, rfl, hj, s1 _ H1 .refl r1 src_range⟩
    · exact s1.elim
  · exact s1.elim

/-! ### for -/
def forD (bind : D → DEnv → Option DEnv) (body : DSt) : List D → DEnv → Fl
  | [], ρ => .nx ρ
  | d :: ds, ρ => optF (bind d ρ) fun ρ1 => match body ρ1 with
    | .nx ρ2 => forD bind body ds ρ2
    | .ct ρ2 => forD bind body ds ρ2
    | .bk ρ2 => .nx ρ2
    | .rt v ρ2 => .rt v ρ2
    | .err x ρ2 => .err x ρ2
    | .bad => .bad
def gFor (it : DEnv → Res (List D)) (bind : D → DEnv → Option DEnv) (body : DSt) : DSt := fun ρ => bindF (it ρ) fun ds ρ1 => forD bind body ds ρ1
theorem ds_for {iter : Expr} {body : List Stmt} {pos : Pos} {it : DEnv → Res (List D)} {sl : List Nat} {bind : D → DEnv → Option DEnv} {b : DSt} (hp : PassesOwn (model X.prog X.w) X.A X.env X.xe) (hc : X.calm = true) (hi : DI X W tg iter it) (hg : DG X tg sl bind) (hb : DSs X W body b)
    (hs : ∀ x, foldedSetIterable iter X.env x = pure x := by intro _; rfl) : DS X W (.For tg iter body [] pos) (gFor it bind b) := by
  refine ⟨ps_imp (ps_for hp hc hi.pi hg.pg hb.pss hs) fun E σ H ⟨O, ρ, r, s⟩ => ⟨O, ρ, r, ?_⟩⟩
  unfold gFor at s
  cases q : it ρ with
  | err x ρ1 => rw [q] at s; exact fun c d H' st e z => s c d σ H' st.s e z
  | bad => rw [q] at s; exact s
  | ok ds ρ1 =>
    rw [q] at s
    intro J H1 st1 r1 src
    have s1 : SatS X.K X.mg O σ ρ1 H1 W E (forD bind b ds ρ1) := SatS.shift s st1.s
    refine for_it src (fun i σi Hi => ∃ ρi, RelEnv X.K O σi Hi ρi ∧ SStp σ ρ1 H1 σi ρi Hi ∧ SatS X.K X.mg O σi ρi Hi W E (forD bind b (ds.drop i) ρi)) ⟨ρ1, r1, .refl, by simpa using s1⟩ (fun i σi Hi _ ⟨ρi, ri, sti, _⟩ a o h => Gv_sub _ _ (sti.gv a o h)) (fun i x σi Hi H' hi ⟨ρi, ri, sti, si⟩ y => ?_) (fun σi Hi ⟨ρi, ri, sti, si⟩ => ?_)
    · obtain ⟨d, hd, sm, hv⟩ := y
      have e : ds.drop i = d :: ds.drop (i + 1) := by
        obtain ⟨h1, h2⟩ := List.getElem?_eq_some_iff.mp hd
        rw [List.drop_eq_getElem_cons h1, h2]
      rw [e] at si
      obtain ⟨ρ2, hb2, s2⟩ := optF_sat si
      refine ⟨O, ρi, d, ρ2, ri.same sm, hv O σi ρi ri sti.gv, hb2, fun σ2 st2 r2 _ _ => ⟨O, ρ2, r2, ?_⟩⟩
      have st0 : SStp σi ρi Hi σ2 ρ2 H' := (EStp.same sm).s.trans st2
      have s3 := s2.shift st0
      try dsimp only at s3
      have sti2 := sti.trans st0
      cases qb : b ρ2 with
      | nx ρ3 => rw [qb] at s3; exact fun σ' H3 st3 r3 => ⟨ρ3, r3, sti2.trans st3, SatS.shift s3 st3⟩
      | ct ρ3 => rw [qb] at s3; exact fun σ' H3 st3 r3 => ⟨ρ3, r3, sti2.trans st3, SatS.shift s3 st3⟩
      | bk ρ3 => rw [qb] at s3; exact s3
      | rt v ρ3 => rw [qb] at s3; exact s3
      | err x ρ3 => rw [qb] at s3; exact s3
      | bad => rw [qb] at s3; exact s3
    · rw [List.drop_length] at si
      exact si σi Hi .refl ri

/-! ### while -/
def whileN (t : DEnv → Res Bool) (body : DSt) : Nat → DEnv → Fl
  | 0, _ => .bad
  | n + 1, ρ => bindF (t ρ) fun k ρ1 => if k = true then match body ρ1 with
    | .nx ρ2 => whileN t body n ρ2
    | .ct ρ2 => whileN t body n ρ2
    | .bk ρ2 => .nx ρ2
    | .rt v ρ2 => .rt v ρ2
    | .err x ρ2 => .err x ρ2
    | .bad => .bad else .nx ρ1
open Classical in
noncomputable def gWhile (t : DEnv → Res Bool) (body : DSt) : DSt := fun ρ => if h : ∃ n, whileN t body n ρ ≠ .bad then whileN t body (choose h) ρ else .bad
theorem whileN_mono {t : DEnv → Res Bool} {body : DSt} : ∀ {n m : Nat} {ρ : DEnv}, n ≤ m → whileN t body n ρ ≠ .bad → whileN t body m ρ = whileN t body n ρ
  | 0, _, _, _, h => absurd rfl h
  | n + 1, 0, _, hm, _ => absurd hm (by omega)
  | n + 1, m + 1, ρ, hm, h => by
    unfold whileN at h ⊢
    cases q : t ρ with
    | err x ρ1 => rfl
    | bad => rfl
    | ok k ρ1 =>
      rw [q] at h
      dsimp only [bindF] at h ⊢
      cases k with
      | false => rfl
      | true =>
        rw [if_pos rfl] at h ⊢
        rw [if_pos rfl]
        cases qb : body ρ1 with
        | nx ρ2 => rw [qb] at h; exact whileN_mono (by omega) h
        | ct ρ2 => rw [qb] at h; exact whileN_mono (by omega) h
        | bk ρ2 => rfl
        | rt v ρ2 => rfl
        | err x ρ2 => rfl
        | bad => rfl
theorem gWhile_of {t : DEnv → Res Bool} {body : DSt} {n : Nat} {ρ : DEnv} (h : whileN t body n ρ ≠ .bad) : gWhile t body ρ = whileN t body n ρ := by
  have hx : ∃ n, whileN t body n ρ ≠ .bad := ⟨n, h⟩
  unfold gWhile
  rw [dif_pos hx]
  have h2 := Classical.choose_spec hx
  rcases Nat.le_total n (Classical.choose hx) with l | l
  · exact whileN_mono l h
  · exact (whileN_mono l h2).symm
/-- one turn -/
theorem gWhile_step {t : DEnv → Res Bool} {body : DSt} (ρ : DEnv) : gWhile t body ρ = bindF (t ρ) fun k ρ1 => if k = true then match body ρ1 with
    | .nx ρ2 => gWhile t body ρ2
    | .ct ρ2 => gWhile t body ρ2
    | .bk ρ2 => .nx ρ2
    | .rt v ρ2 => .rt v ρ2
    | .err x ρ2 => .err x ρ2
    | .bad => .bad else .nx ρ1 := by
  have key : ∀ ρ2, (∃ n, whileN t body n ρ2 ≠ .bad) ∨ gWhile t body ρ2 = .bad := fun ρ2 => by
    by_cases h : ∃ n, whileN t body n ρ2 ≠ .bad
    · exact .inl h
    · exact .inr (by unfold gWhile; rw [dif_neg h])
  have nob : ∀ ρ2, gWhile t body ρ2 = .bad → ∀ n, whileN t body n ρ2 = .bad := fun ρ2 h n => Classical.byContradiction fun z => z (by rw [gWhile_of z] at h; exact absurd h z)
  have main : ∀ ρ2, (∀ n, whileN t body n ρ2 = .bad) → gWhile t body ρ2 = .bad := fun ρ2 h => by
    unfold gWhile; rw [dif_neg (fun ⟨n, z⟩ => z (h n))]
  cases q : t ρ with
  | err x ρ1 =>
    have : whileN t body 1 ρ = .err x ρ1 := by unfold whileN; rw [q]; rfl
    rw [gWhile_of (n := 1) (by rw [this]; exact fun z => nomatch z), this]; rfl
  | bad => exact main ρ fun n => by cases n with
    | zero => rfl
    | succ n => unfold whileN; rw [q]; rfl
  | ok k ρ1 =>
    dsimp only [bindF]
    cases k with
    | false =>
      have : whileN t body 1 ρ = .nx ρ1 := by unfold whileN; rw [q]; rfl
      rw [gWhile_of (n := 1) (by rw [this]; exact fun z => nomatch z), this]; rfl
    | true =>
      rw [if_pos rfl]
      have un : ∀ n, whileN t body (n + 1) ρ = (match body ρ1 with
        | .nx ρ2 => whileN t body n ρ2
        | .ct ρ2 => whileN t body n ρ2
        | .bk ρ2 => .nx ρ2
        | .rt v ρ2 => .rt v ρ2
        | .err x ρ2 => .err x ρ2
        | .bad => .bad) := fun n => by
          conv => lhs; unfold whileN
          rw [q]; rfl
      have rec_ : ∀ ρ2, (∀ n, whileN t body (n + 1) ρ = whileN t body n ρ2) → gWhile t body ρ = gWhile t body ρ2 := fun ρ2 h => by
        rcases key ρ2 with ⟨n, hn⟩ | hb
        · rw [gWhile_of hn, gWhile_of (n := n + 1) (by rw [h n]; exact hn), h n]
        · rw [hb]
          refine main ρ fun n => ?_
          cases n with
          | zero => rfl
          | succ n => rw [h n]; exact nob ρ2 hb n
      cases qb : body ρ1 with
      | nx ρ2 => exact rec_ ρ2 fun n => by rw [un n, qb]
      | ct ρ2 => exact rec_ ρ2 fun n => by rw [un n, qb]
      | bk ρ2 => have e := un 0; rw [qb] at e; rw [gWhile_of (n := 1) (by rw [e]; exact fun z => nomatch z), e]
      | rt v ρ2 => have e := un 0; rw [qb] at e; rw [gWhile_of (n := 1) (by rw [e]; exact fun z => nomatch z), e]
      | err x ρ2 => have e := un 0; rw [qb] at e; rw [gWhile_of (n := 1) (by rw [e]; exact fun z => nomatch z), e]
      | bad => exact main ρ fun n => by cases n with
        | zero => rfl
        | succ n => rw [un n, qb]
theorem ds_while {c : Expr} {body : List Stmt} {pos : Pos} {t : DEnv → Res Bool} {b : DSt} (hp : PassesOwn (model X.prog X.w) X.A X.env X.xe) (hc : DT X W c t) (hb : DSs X W body b) : DS X W (.While c body [] pos) (gWhile t b) := by
  refine ⟨ps_imp (ps_while hp hc.pt hb.pss) fun E σ H ⟨O, ρ, r, s⟩ => ?_⟩
  by_cases hx : ∃ n, whileN t b n ρ ≠ .bad
  · obtain ⟨n0, hn0⟩ := hx
    rw [gWhile_of hn0] at s
    refine ⟨fun n σi Hi => ∃ ρi, RelEnv X.K O σi Hi ρi ∧ SatS X.K X.mg O σi ρi Hi W E (whileN t b n ρi), ⟨n0, ρ, r, s⟩, ?_⟩
    rintro m σi Hi ⟨ρi, ri, si⟩
    cases m with
    | zero => exact si.elim
    | succ m =>
      unfold whileN at si
      refine ⟨O, ρi, ri, (SatS.bind si).imp fun u H1 ⟨v, ρ1, r1, e1, st, s1⟩ => ?_⟩
      cases e1
      cases u with
      | false =>
        rw [if_neg Bool.false_ne_true] at s1 ⊢
        exact s1 σi H1 .refl r1
      | true =>
        rw [if_pos rfl] at s1 ⊢
        refine ⟨fun σ' H' => ∃ ρ', RelEnv X.K O σ' H' ρ' ∧ SatS X.K X.mg O σ' ρ' H' W E (whileN t b m ρ'), fun σ' H' q => ⟨m, by omega, q⟩, O, ρ1, r1, ?_⟩
        cases qb : b ρ1 with
        | nx ρ3 => rw [qb] at s1; exact fun σ' H3 st3 r3 => ⟨ρ3, r3, SatS.shift s1 st3⟩
        | ct ρ3 => rw [qb] at s1; exact fun σ' H3 st3 r3 => ⟨ρ3, r3, SatS.shift s1 st3⟩
        | bk ρ3 => rw [qb] at s1; exact s1
        | rt v ρ3 => rw [qb] at s1; exact s1
        | err x ρ3 => rw [qb] at s1; exact s1
        | bad => rw [qb] at s1; exact s1
  · unfold gWhile at s
    rw [dif_neg hx] at s
    exact s.elim
end
end DL

namespace DL
open L2 PySem PySem.Spec PyProof.Rows

def wipeD (ρ : DEnv) : List Nat → DEnv
  | [] => ρ
  | v :: vs => (wipeD ρ vs).set v none
def backD (ρ ρ' : DEnv) : List Nat → DEnv
  | [] => ρ'
  | v :: vs => (backD ρ ρ' vs).set v (ρ[v]?.join)
def isOwn (o : Option (Option SV)) : Bool := match o with
  | some (some (.own _ _)) => true
  | _ => false
theorem wipeD_len (ρ : DEnv) : ∀ ow, (wipeD ρ ow).length = ρ.length
  | [] => rfl
  | v :: vs => by unfold wipeD; rw [List.length_set, wipeD_len ρ vs]
theorem backD_len (ρ ρ' : DEnv) : ∀ ow, (backD ρ ρ' ow).length = ρ'.length
  | [] => rfl
  | v :: vs => by unfold backD; rw [List.length_set, backD_len ρ ρ' vs]
theorem wipeD_in {ρ : DEnv} {k : Nat} : ∀ {ow : List Nat}, k ∈ ow → (wipeD ρ ow)[k]? = none ∨ (wipeD ρ ow)[k]? = some none
  | v :: vs, h => by
    unfold wipeD
    by_cases hv : v = k
    · subst hv
      rw [List.getElem?_set]
      simp only [if_true]
      split
      · exact .inr rfl
      · exact .inl rfl
    · rw [List.getElem?_set_ne hv]
      exact wipeD_in (by cases h with
        | head => exact absurd rfl hv
        | tail _ h => exact h)
theorem wipeD_out {ρ : DEnv} {k : Nat} : ∀ {ow : List Nat}, k ∉ ow → (wipeD ρ ow)[k]? = ρ[k]?
  | [], _ => rfl
  | v :: vs, h => by
    unfold wipeD
    rw [List.getElem?_set_ne (fun z => h (by simp [z]))]
    exact wipeD_out fun z => h (List.mem_cons_of_mem _ z)
theorem wipeS_out {σ : L2.St} {k : Nat} {ow : List Nat} (h : k ∉ ow) : (wipe σ ow)[k]? = σ[k]? := L2.wipe_out h
theorem back_in {ρ ρ' : DEnv} {k : Nat} (hl : ρ.length = ρ'.length) : ∀ {ow : List Nat}, k ∈ ow → (backD ρ ρ' ow)[k]? = ρ[k]?
  | v :: vs, h => by
    unfold backD
    by_cases hv : v = k
    · subst hv
      rw [List.getElem?_set]
      simp only [if_true]
      rw [backD_len, ← hl]
      by_cases hk : v < ρ.length
      · rw [if_pos hk, List.getElem?_eq_getElem hk]; rfl
      · rw [if_neg hk, List.getElem?_eq_none (by omega)]
    · rw [List.getElem?_set_ne hv]
      exact back_in hl (by cases h with
        | head => exact absurd rfl hv
        | tail _ h => exact h)
theorem back_out {ρ ρ' : DEnv} {k : Nat} : ∀ {ow : List Nat}, k ∉ ow → (backD ρ ρ' ow)[k]? = ρ'[k]?
  | [], _ => rfl
  | v :: vs, h => by
    unfold backD
    rw [List.getElem?_set_ne (fun z => h (by simp [z]))]
    exact back_out fun z => h (List.mem_cons_of_mem _ z)

section
variable {K : Frg} {O : Addr → Prop} {σ σ2 : L2.St} {ρ ρ4 : DEnv} {H H' : Hp} {ow : List Nat}
def NoOwn (ρ : DEnv) (ow : List Nat) : Prop := ∀ i ∈ ow, ∀ (b : Bool) (c : Cell), ρ[i]? ≠ some (some (.own b c))
theorem wipe_own {i : Nat} {b : Bool} {c : Cell} (h : (wipeD ρ ow)[i]? = some (some (.own b c))) : i ∉ ow ∧ ρ[i]? = some (some (.own b c)) := by
  by_cases hi : i ∈ ow
  · rcases wipeD_in (ρ := ρ) hi with z | z <;> rw [z] at h <;> cases h
  · exact ⟨hi, by rw [wipeD_out hi] at h; exact h⟩
theorem ow_wipe (no : NoOwn ρ ow) (b : Addr) : Ow (wipe σ ow) (wipeD ρ ow) b ↔ Ow σ ρ b := by
  constructor
  · rintro ⟨i, io, c, e1, e2⟩
    obtain ⟨hi, e⟩ := wipe_own e1
    exact ⟨i, io, c, e, by rw [wipeS_out hi] at e2; exact e2⟩
  · rintro ⟨i, io, c, e1, e2⟩
    have hi : i ∉ ow := fun z => no i z io c e1
    exact ⟨i, io, c, by rw [wipeD_out hi]; exact e1, by rw [wipeS_out hi]; exact e2⟩
theorem gv_wipe (no : NoOwn ρ ow) : ∀ a o, Gv O σ ρ H a = some o → Gv O (wipe σ ow) (wipeD ρ ow) H a = some o := fun a o h => by
  obtain ⟨h1, h2, h3⟩ := of_Gv h
  exact Gv_of h1 (fun q => h2 ((ow_wipe no a).mp q)) h3
theorem RelEnv.wiped (r : RelEnv K O σ H ρ) (no : NoOwn ρ ow) : RelEnv K O (wipe σ ow) H (wipeD ρ ow) ∧ SStp σ ρ H (wipe σ ow) (wipeD ρ ow) H := by
  refine ⟨⟨by rw [wipe_length, wipeD_len]; exact r.len, r.oa, fun i d h => ?_, fun i b c h => ?_, fun i j a b c b' c' h1 h2 h3 h4 => ?_, fun i a h => ?_⟩, ⟨fun _ _ h _ => h, fun _ h => h, fun b h => .inl ((ow_wipe no b).mp h), fun i c h => ?_⟩⟩
  · have hi : i ∉ ow := fun z => by rcases wipeD_in (ρ := ρ) z with q | q <;> rw [q] at h <;> cases h
    rw [wipeD_out hi] at h
    obtain ⟨v, h1, h2⟩ := r.val i d h
    exact ⟨v, by rw [wipeS_out hi]; exact h1, dp_mono (gv_wipe no) _ _ h2⟩
  · obtain ⟨hi, e⟩ := wipe_own h
    obtain ⟨a, h1, h2, h3⟩ := r.own i b c e
    exact ⟨a, by rw [wipeS_out hi]; exact h1, h2, h3.mono (gv_wipe no) fun _ q => q⟩
  · obtain ⟨hi, e1⟩ := wipe_own h1
    obtain ⟨hj, e2⟩ := wipe_own h2
    rw [wipeS_out hi] at h3
    rw [wipeS_out hj] at h4
    exact r.inj i j a _ _ _ _ e1 e2 h3 h4
  · have hi : i ∉ ow := fun z => by rcases wipeD_in (ρ := ρ) z with q | q <;> rw [q] at h <;> cases h
    rw [wipeD_out hi] at h
    rw [wipeS_out hi]
    exact r.raw i a h
  · have hi : i ∉ ow := fun z => no i z _ _ h
    exact ⟨wipeS_out hi, c, by rw [wipeD_out hi]; exact h⟩
/-- behind a block -/
theorem RelEnv.back (r : RelEnv K O σ H ρ) (no : NoOwn ρ ow) (st : SStp (wipe σ ow) (wipeD ρ ow) H σ2 ρ4 H') (r4 : RelEnv K O σ2 H' ρ4) (hl : σ2.length = σ.length) (hk : ∀ k, k ∉ ow → σ2[k]? = σ[k]?)
    (nf : ∀ b, Ow σ2 ρ4 b → Ow σ ρ b) (nw : NoOwn ρ4 ow) : RelEnv K O σ H' (backD ρ ρ4 ow) ∧ EStp σ ρ H (backD ρ ρ4 ow) H' ∧ (∀ a o, Gv O σ2 ρ4 H' a = some o → Gv O σ (backD ρ ρ4 ow) H' a = some o) := by
  have len : ρ.length = ρ4.length := by rw [← r.len, ← hl, r4.len]
  have own4 : ∀ {i : Nat} {b : Bool} {c : Cell}, (backD ρ ρ4 ow)[i]? = some (some (.own b c)) → i ∉ ow ∧ ρ4[i]? = some (some (.own b c)) := fun {i b c} h => by
    by_cases hi : i ∈ ow
    · rw [back_in len hi] at h
      exact absurd h (no i hi b c)
    · rw [back_out hi] at h
      exact ⟨hi, h⟩
  have owb : ∀ b, Ow σ (backD ρ ρ4 ow) b → Ow σ2 ρ4 b := fun b ⟨i, io, c, e1, e2⟩ => by
    obtain ⟨hi, e⟩ := own4 e1
    exact ⟨i, io, c, e, by rw [hk i hi]; exact e2⟩
  have st' : SStp σ ρ H σ2 ρ4 H' := ((r.wiped no).2).trans st
  have est : EStp σ ρ H (backD ρ ρ4 ow) H' := ⟨st'.ext, st'.al, fun b h => nf b (owb b h), fun i c h => by
    obtain ⟨_, c', h'⟩ := st'.io i c h
    have hi : i ∉ ow := fun z => no i z _ _ h
    exact ⟨c', by rw [back_out hi]; exact h'⟩⟩
  have gv4 : ∀ a o, Gv O σ2 ρ4 H' a = some o → Gv O σ (backD ρ ρ4 ow) H' a = some o := fun a o h => by
    obtain ⟨h1, h2, h3⟩ := of_Gv h
    exact Gv_of h1 (fun q => h2 (owb a q)) h3
  refine ⟨⟨by rw [backD_len, ← len]; exact r.len, r4.oa, fun i d h => ?_, fun i b c h => ?_, fun i j a b c b' c' h1 h2 h3 h4 => ?_, fun i a h => ?_⟩, est, gv4⟩
  · by_cases hi : i ∈ ow
    · rw [back_in len hi] at h
      obtain ⟨v, h1, h2⟩ := r.val i d h
      exact ⟨v, h1, dp_mono est.gv _ _ h2⟩
    · rw [back_out hi] at h
      obtain ⟨v, h1, h2⟩ := r4.val i d h
      exact ⟨v, by rw [← hk i hi]; exact h1, dp_mono gv4 _ _ h2⟩
  · obtain ⟨hi, e⟩ := own4 h
    obtain ⟨a, h1, h2, h3⟩ := r4.own i b c e
    exact ⟨a, by rw [← hk i hi]; exact h1, h2, h3.mono gv4 fun _ q => q⟩
  · obtain ⟨hi, e1⟩ := own4 h1
    obtain ⟨hj, e2⟩ := own4 h2
    exact r4.inj i j a _ _ _ _ e1 e2 (by rw [hk i hi]; exact h3) (by rw [hk j hj]; exact h4)
  · by_cases hi : i ∈ ow
    · rw [back_in len hi] at h
      exact r.raw i a h
    · rw [back_out hi] at h
      rw [← hk i hi]
      exact r4.raw i a h
end

abbrev W0 : WX := fun _ _ _ _ => False
structure DTs (X : Cx) (ifs : List Expr) (t : DEnv → Res Bool) : Prop where
  pts : PTs X ifs (tDT X.K X.mg W0 t)
def tTrue : DEnv → Res Bool := fun ρ => .ok true ρ
section
variable {X : Cx} {W : WX}
theorem pts_imp {X : Cx} {e : List Expr} {t t' : TT} (h : PTs X e t) (i : ∀ σ H Q, t' σ H Q → t σ H Q) : PTs X e t' := ⟨fun pins s σ H Q I q => h.run pins s σ H Q I (i _ _ _ q)⟩
theorem dts_nil : DTs X [] tTrue := ⟨pts_imp pts_nil fun σ H Q ⟨O, ρ, r, s⟩ => s true H .refl r rfl⟩
theorem dts_one {c : Expr} {t : DEnv → Res Bool} (h : DT X W0 c t) : DTs X [c] t := ⟨pts_one h.pt⟩

def compD (ow : List Nat) (bind : D → DEnv → Option DEnv) (test : DEnv → Res Bool) (elt : DX) : List D → DEnv → List D → Res Cell
  | [], ρ, acc => .ok (.lst acc) ρ
  | d :: ds, ρ, acc => optR (bind d (wipeD ρ ow)) fun ρ1 => match test ρ1 with
    | .ok true ρ2 => match elt ρ2 with
      | .ok v ρ3 => optR (keep v ρ3) fun p => if acc.length < sizeLine ∧ (ow.all fun i => !isOwn p.2[i]?) = true then compD ow bind test elt ds (backD ρ p.2 ow) (acc ++ [p.1]) else .bad
      | _ => .bad
    | .ok false ρ2 => if (ow.all fun i => !isOwn ρ2[i]?) = true then compD ow bind test elt ds (backD ρ ρ2 ow) acc else .bad
    | _ => .bad
def xComp (it : DEnv → Res (List D)) (ow : List Nat) (bind : D → DEnv → Option DEnv) (test : DEnv → Res Bool) (elt : DX) : DEnv → Res Cell := fun ρ => bindR (it ρ) fun ds ρ1 => if (ow.all fun i => !isOwn ρ1[i]?) = true then compD ow bind test elt ds ρ1 [] else .bad
theorem noOwn_of {ρ : DEnv} {ow : List Nat} (h : (ow.all fun i => !isOwn ρ[i]?) = true) : NoOwn ρ ow := fun i hi b c e => by
  have := List.all_eq_true.mp h i hi
  rw [e] at this
  cases this
theorem comp_core {it : DEnv → Res (List D)} {own : List (Str × Nat)} {sl : List Nat} {bind : D → DEnv → Option DEnv} {test : DEnv → Res Bool} {elt : DX} (hsl : ∀ k ∈ sl, k ∈ own.map (·.2)) {σ : L2.St} {H : Hp} {Q : VK}
    (h : tDL X.K X.mg W (xComp it (own.map (·.2)) bind test elt) σ H Q) : tLc (tDI X.K X.mg W it) (tDG X.K sl bind) (tDT X.K X.mg W0 test) (tDX X.K X.mg W0 elt) (own.map (·.2)) σ H Q := by
  obtain ⟨O, ρ, r, s⟩ := h
  generalize how : own.map (·.2) = ow at *
  refine ⟨O, ρ, r, ?_⟩
  unfold xComp at s
  cases q : it ρ with
  | err x ρ1 => rw [q] at s; exact s
  | bad => rw [q] at s; exact s
  | ok ds ρ1 =>
    rw [q] at s
    dsimp only [bindR] at s
    split at s
    case isFalse => exact s.elim
    rename_i hno
    have no1 := noOwn_of hno
    intro J H1 st1 r1 src D hD
    have hp : H D = none := st1.none D hD
    refine lc_it src (fun i Hi => ∃ ρi acc vs, RelEnv X.K (fun a => O a ∨ a = D) σ Hi ρi ∧ NoOwn ρi ow ∧ EStp σ ρ1 H1 ρi Hi ∧ Hi D = some (.lst vs) ∧ DpAll X.K (Gv (fun a => O a ∨ a = D) σ ρi Hi) vs acc ∧
      SatL X.K X.mg O σ ρ H W Q (compD ow bind test elt (ds.drop i) ρi acc)) ?_ ?_ ?_ ?_
    · exact ⟨ρ1, [], [], r1.hidden hD, no1, .same (same_upd hD), upd_same, .nil, by simpa using s⟩
    · rintro i Hi _ ⟨ρi, acc, vs, ri, noi, sti, hDi, hacc, si⟩ a o hg
      exact Gv_sub _ _ (sti.gv a o hg)
    · rintro i x Hi H2 hi ⟨ρi, acc, vs, ri, noi, sti, hDi, hacc, si⟩ ⟨d, hd, sm, hv⟩
      have e : ds.drop i = d :: ds.drop (i + 1) := by
        obtain ⟨h1, h2⟩ := List.getElem?_eq_some_iff.mp hd
        rw [List.drop_eq_getElem_cons h1, h2]
      rw [e] at si
      have r2 := ri.same sm
      have sti2 : EStp σ ρ1 H1 ρi H2 := sti.trans (.same sm)
      obtain ⟨rw', stw⟩ := r2.wiped noi
      have hx : Dp X.K (Gv (fun a => O a ∨ a = D) (wipe σ ow) (wipeD ρi ow) H2) x d := by
        have g1 : ∀ a o, Gv O σ ρ1 H1 a = some o → Gv (fun a => O a ∨ a = D) σ ρi Hi a = some o := fun a o hg => by
          obtain ⟨z1, z2, z3⟩ := of_Gv (sti.gv a o hg)
          refine Gv_of (fun z => z.elim z1 fun z => ?_) z2 z3
          rw [z] at hg
          have := Gv_sub _ _ hg
          rw [hD] at this; cases this
        exact dp_mono stw.gv _ _ (hv _ σ ρi ri g1)
      obtain ⟨ρ3, hb, s2⟩ := optR_satL si
      refine ⟨_, wipeD ρi ow, d, ρ3, rw', hx, hb, fun σ2 st2 r3 l2 k2 => ⟨?_, ?_⟩⟩
      · -- what is bound is the block's own
        refine List.ext_getElem? fun k => ?_
        by_cases hk : k ∈ ow
        · have wn : ∀ τ : L2.St, τ.length = σ.length → (wipe τ ow)[k]? = if k < σ.length then some none else none := fun τ hτ => by
            by_cases hkl : k < σ.length
            · rw [if_pos hkl]
              have hkl' : k < (wipe τ ow).length := by rw [wipe_length, hτ]; exact hkl
              cases z : (wipe τ ow)[k]? with
              | none => rw [List.getElem?_eq_none_iff] at z; omega
              | some o =>
                cases o with
                | none => rfl
                | some v => exact absurd hk (wipe_some z).2
            · rw [if_neg hkl, List.getElem?_eq_none (by rw [wipe_length, hτ]; omega)]
          rw [wn σ2 (by rw [l2, wipe_length]), wn σ rfl]
        · rw [wipeS_out hk, wipeS_out hk, k2 k (fun z => hk (hsl k z)), wipeS_out hk]
      refine ⟨_, ρ3, r3, ?_⟩
      have l2' : σ2.length = σ.length := by rw [l2, wipe_length]
      have k2' : ∀ k, k ∉ ow → σ2[k]? = σ[k]? := fun k hk => by rw [k2 k (fun z => hk (hsl k z)), wipeS_out hk]
      have nf2 : ∀ b, Ow σ2 ρ3 b → Ow σ ρi b ∨ H2 b = none := fun b hb => (st2.own b hb).elim (fun z => .inl ((ow_wipe noi b).mp z)) .inr
      try dsimp only at s2
      cases qt : test ρ3 with
      | err x ρ4 => rw [qt] at s2; exact s2.elim
      | bad => rw [qt] at s2; exact s2.elim
      | ok k ρ4 =>
        rw [qt] at s2
        rintro kb H3 st3 r4 rfl
        have D3 : ∀ {ρ' : DEnv} {H' : Hp}, EStp σ2 ρ3 H2 ρ' H' → H' D = some (.lst vs) := fun {ρ' H'} st => st.ext D _ (sm D _ hDi) fun z => r3.owO z (.inr rfl)
        -- what the block owns was ours
        have nfz : ∀ {ρ' : DEnv} {H' : Hp}, EStp σ2 ρ3 H2 ρ' H' → ∀ b, Ow σ2 ρ' b → Ow σ ρi b := fun {ρ' H'} st b hb => by
          have z := st.own b hb
          rcases nf2 b z with z' | z'
          · exact z'
          · obtain ⟨o, ho⟩ := r3.owSome z
            rw [z'] at ho; cases ho
        cases kb with
        | false =>
          refine iteF ?_
          try dsimp only at s2
          split at s2
          case isFalse => exact s2.elim
          rename_i hno4
          obtain ⟨rb, eb, gb⟩ := r2.back noi (st2.trans st3.s) r4 l2' k2' (nfz st3) (noOwn_of hno4)
          refine ⟨backD ρi ρ4 ow, acc, vs, rb, fun j hj b c z => ?_, sti2.trans eb, D3 st3, dpAll_mono eb.gv _ _ (dpAll_mono (same_gv sm) _ _ hacc), s2⟩
          rw [back_in (by rw [← r2.len, ← l2', r4.len]) hj] at z
          exact noi j hj b c z
        | true =>
          refine iteT ⟨_, ρ4, r4, ?_⟩
          try dsimp only at s2
          cases qe : elt ρ4 with
          | err x ρ5 => rw [qe] at s2; exact s2.elim
          | bad => rw [qe] at s2; exact s2.elim
          | ok v ρ5 =>
            rw [qe] at s2
            intro y H4 st4 r5 ey
            obtain ⟨⟨z, ρ6⟩, hkz, s3⟩ := optR_satL s2
            obtain ⟨r6, st5, hz⟩ := keep_ok r5 ey hkz
            try dsimp only at s3
            split at s3
            case isFalse => exact s3.elim
            rename_i hc
            have stA : EStp σ2 ρ3 H2 ρ6 H4 := (st3.trans st4).trans st5
            obtain ⟨rb, eb, gb⟩ := r2.back noi (st2.trans stA.s) r6 l2' k2' (nfz stA) (noOwn_of hc.2)
            have hD4 := D3 stA
            have hlen := DL.DpAll.length hacc
            refine ⟨vs, hD4, by omega, backD ρi ρ6 ow, acc ++ [z], vs ++ [y], ?_, fun j hj b c zz => ?_, ?_, upd_same, ?_, s3⟩
            · -- the list at D has grown; it is hidden
              have hid : ∀ a o, Gv (fun a => O a ∨ a = D) σ (backD ρi ρ6 ow) H4 a = some o → Gv (fun a => O a ∨ a = D) σ (backD ρi ρ6 ow) (upd H4 D (.lst (vs ++ [y]))) a = some o := fun a o hg => by
                obtain ⟨z1, z2, z3⟩ := of_Gv hg
                exact Gv_of z1 z2 (by rw [upd_ne (fun zz => z1 (.inr zz))]; exact z3)
              refine ⟨rb.len, fun a ha => ?_, fun j d' hj => ?_, fun j b c hj => ?_, rb.inj, rb.raw⟩
              · by_cases ea : a = D
                · rw [ea, upd_same]; exact fun z => nomatch z
                · rw [upd_ne ea]; exact rb.oa a ha
              · obtain ⟨w, w1, w2⟩ := rb.val j d' hj
                exact ⟨w, w1, dp_mono hid _ _ w2⟩
              · obtain ⟨a, w1, w2, w3⟩ := rb.own j b c hj
                exact ⟨a, w1, w2, w3.mono hid fun o ho => by rw [upd_ne (fun zz => w2 (.inr zz))]; exact ho⟩
            · rw [back_in (by rw [← r2.len, ← l2', r6.len]) hj] at zz
              exact noi j hj b c zz
            · have S := sti2.trans eb
              refine ⟨fun b o hb hn => by rw [upd_ne (ne_of_none hb hD)]; exact S.ext b o hb hn, fun b hb => ?_, S.own, S.io⟩
              by_cases ea : b = D
              · rw [ea, upd_same]; exact fun z => nomatch z
              · rw [upd_ne ea]; exact S.al b hb
            · have hid : ∀ a o, Gv (fun a => O a ∨ a = D) σ (backD ρi ρ6 ow) H4 a = some o → Gv (fun a => O a ∨ a = D) σ (backD ρi ρ6 ow) (upd H4 D (.lst (vs ++ [y]))) a = some o := fun a o hg => by
                obtain ⟨z1, z2, z3⟩ := of_Gv hg
                exact Gv_of z1 z2 (by rw [upd_ne (fun zz => z1 (.inr zz))]; exact z3)
              refine dpAll_mono hid _ _ (DL.DpAll.append (dpAll_mono eb.gv _ _ (dpAll_mono (same_gv sm) _ _ hacc)) (.cons (dp_mono gb _ _ hz) .nil))
    · rintro Hn ⟨ρn, acc, vs, rn, non, stn, hDn, hacc, sn⟩
      rw [List.drop_length] at sn
      refine sn D Hn (st1.trans stn) hp ⟨rn, fun z => ?_, fun z => rn.owO z (.inr rfl), vs, hDn, hacc⟩
      exact r1.oa D z hD

/-- a comprehension as a value -/
theorem dl_comp {elt tg iter : Expr} {ifs : List Expr} {scope : Scope} {own : List (Str × Nat)} {pos : Pos} {it : DEnv → Res (List D)} {sl : List Nat} {bind : D → DEnv → Option DEnv} {test : DEnv → Res Bool} {f : DX} (hc : X.calm = true) (hN : X.N.Nodup) (hi : DI X W tg iter it) (ok : BlkOk X.N X.env.scope scope own)
    (hg : ∀ (s : Shared) (H : Hp) (C : Addr) (cl : List (Str × Addr)) (fp : List Addr), DG (X.blk s H scope (compEnvC scope cl C X.env) fp) tg sl bind) (ht : ∀ (s : Shared) (H : Hp) (C : Addr) (cl : List (Str × Addr)) (fp : List Addr), DTs (X.blk s H scope (compEnvC scope cl C X.env) fp) ifs test)
    (he : ∀ (s : Shared) (H : Hp) (C : Addr) (cl : List (Str × Addr)) (fp : List Addr), DE (X.blk s H scope (compEnvC scope cl C X.env) fp) W0 elt f) (hsl : ∀ k ∈ sl, k ∈ own.map (·.2) := by decide) (hs : ∀ x, foldedSetIterable iter X.env x = pure x := by intro _; rfl) :
    DLs X W (.ListComp elt [⟨tg, iter, ifs, 0⟩] scope pos) (xComp it (own.map (·.2)) bind test f) :=
  ⟨pe_imp (pe_lc hc hN hi.pi ok (fun s H C cl fp => (hg s H C cl fp).pg) (fun s H C cl fp => (ht s H C cl fp).pts) (fun s H C cl fp => (he s H C cl fp).pe) hs) fun _ _ _ h => comp_core hsl h⟩
/-- name = a comprehension on one line, the name a local: as data, or owned -/
theorem ds_setC {i : Nat} {y : Str} {py spos : Pos} {elt tg iter : Expr} {ifs : List Expr} {scope : Scope} {own : List (Str × Nat)} {pos : Pos} {it : DEnv → Res (List D)} {sl : List Nat} {bind : D → DEnv → Option DEnv} {test : DEnv → Res Bool} {f : DX} (hc : X.calm = true) (hN : X.N.Nodup) (hi : DI X W tg iter it) (ok : BlkOk X.N X.env.scope scope own)
    (hg : ∀ (s : Shared) (H : Hp) (C : Addr) (cl : List (Str × Addr)) (fp : List Addr), DG (X.blk s H scope (compEnvC scope cl C X.env) fp) tg sl bind) (ht : ∀ (s : Shared) (H : Hp) (C : Addr) (cl : List (Str × Addr)) (fp : List Addr), DTs (X.blk s H scope (compEnvC scope cl C X.env) fp) ifs test)
    (he : ∀ (s : Shared) (H : Hp) (C : Addr) (cl : List (Str × Addr)) (fp : List Addr), DE (X.blk s H scope (compEnvC scope cl C X.env) fp) W0 elt f) (hsw : swapsWith (.ListComp elt [⟨tg, iter, ifs, 0⟩] scope pos) (some (.Name y py)) spos.line X.env = pure true)
    (hy : X.N[i]? = some y := by rfl) (hyl : X.env.scope.names.lookup y = some .local := by rfl) (hsl : ∀ k ∈ sl, k ∈ own.map (·.2) := by decide) (hs : ∀ x, foldedSetIterable iter X.env x = pure x := by intro _; rfl) :
    DS X W (.Assign [.Name y py] (.ListComp elt [⟨tg, iter, ifs, 0⟩] scope pos) spos) (gSetL i (xComp it (own.map (·.2)) bind test f)) := by
  refine ⟨ps_imp (ps_setLc (te := tDX X.K X.mg W0 f) (tt := tDT X.K X.mg W0 test) (g := tDG X.K sl bind) (wi := tDI X.K X.mg W it) hc hN hy hyl hsw hi.pi ok (fun s H C cl fp => (hg s H C cl fp).pg) (fun s H C cl fp => (ht s H C cl fp).pts) (fun s H C cl fp => (he s H C cl fp).pe) hs) fun E σ H h => ?_⟩
  have h2 : tDL X.K X.mg W (xComp it (own.map (·.2)) bind test f) σ H (fun x H1 => gName i x σ H1 E.nx) := set_coreL h
  exact comp_core hsl h2
end
end DL

namespace DL
open L2 PySem PySem.Spec PyProof.Rows

/-! ### what a def is worth: data in, data (or a new thing) out -/
inductive RF where
  | ok (v : RV)
  | err (x : Exn)
  | bad
abbrev Fn := List D → RF
noncomputable abbrev Vis0 (O : Addr → Prop) (H : Hp) : Hp := Gv O [] [] H
theorem vis0 {O : Addr → Prop} {H : Hp} {a : Addr} {o : HO} : Vis0 O H a = some o ↔ ¬ O a ∧ H a = some o :=
  ⟨fun h => ⟨(of_Gv h).1, (of_Gv h).2.2⟩, fun h => Gv_of h.1 (fun ⟨i, b, c, e, _⟩ => by simp at e) h.2⟩
def SatF (K : Frg) (mg : Mg) (O : Addr → Prop) (H : Hp) (Q : VK) (E : XK) : RF → Prop
  | .ok (.val d) => ∀ u H', Same H H' → Dp K (Vis0 O H') u d → Q u H'
  | .ok (.own c) => ∀ p H', Same H H' → H p = none → CellOk K (Vis0 (fun a => O a ∨ a = p) H') H' p c → Q (.ref p) H'
  | .err x => ∀ cls d H', Same H H' → ExnAt mg x cls d H' → E cls d H'
  | .bad => False
def spP (K : Frg) (mg : Mg) (n : Nat) (F : Fn) : Sp := fun vs H Q E => vs.length = n ∧ ∃ (O : Addr → Prop) (ds : List D), (∀ a, O a → H a ≠ none) ∧ DpAll K (Vis0 O H) vs ds ∧ SatF K mg O H Q E (F ds)
/-- a def of the module that keeps its promise -/
def FOk (P : Program) (w : World) (K : Frg) (mg : Mg) (base : Heap) (x : Str) (k : Nat) (ps : List Str) (sp : Sp) : Prop :=
  ∃ f fd, FnOk P w K mg base (L2N.CX P w) k f fd ps sp ∧ mg x = some (.ref f) ∧ PySem.W.keepIn K (.ref f) = true ∧ Binds K fd ps []
theorem passN {X : Cx} : ∀ σ : L2.St, PassesAt (L2N.CX X.prog X.w) X σ (WE W0 σ) := fun _ _ _ _ _ _ _ h => by
  obtain ⟨_, _, _, _, _, _, _, _, _, _, _, _, z⟩ := h
  exact z.elim

def xCall (F : Fn) (g : DEnv → Res (List EV)) : DX := fun ρ => bindR (g ρ) fun vs ρ1 => optR (derefs ρ1 vs) fun ds => match F ds with
  | .ok (.val d) => if (flat d).isSome = true then .ok (.val d) ρ1 else optR (keeps vs ρ1) fun p => .ok (.val d) p.2
  | .ok (.own (.lst l)) => optR (keeps vs ρ1) fun p => .ok (.val (.list l)) p.2
  | .ok (.own _) => .bad
  | .err x => .err x ρ1
  | .bad => .bad
def xCallL (F : Fn) (g : DEnv → Res (List EV)) : DEnv → Res Cell := fun ρ => bindR (g ρ) fun vs ρ1 => optR (derefs ρ1 vs) fun ds => match F ds with
  | .ok (.own c) => optR (keeps vs ρ1) fun p => .ok c p.2
  | .ok (.val _) => .bad
  | .err x => .err x ρ1
  | .bad => .bad

section
variable {K : Frg} {mg : Mg} {O : Addr → Prop} {σ : L2.St} {ρ : DEnv} {H : Hp}
/-- what is handed on of what we own -/
def Bor (σ : L2.St) (ρ : DEnv) (vs : List EV) (a : Addr) : Prop := ∃ (i : Nat) (b : Bool) (c : Cell), EV.bor i ∈ vs ∧ ρ[i]? = some (some (.own b c)) ∧ σ[i]? = some (some (.ref a))
/-- what a callee must not see: what is hidden, and what we own but do not hand on -/
def Hid (O : Addr → Prop) (σ : L2.St) (ρ : DEnv) (vs : List EV) : Addr → Prop := fun a => O a ∨ (Ow σ ρ a ∧ ¬ Bor σ ρ vs a)
theorem args_dp (r : RelEnv K O σ H ρ) : ∀ {us : List V} {all vs : List EV} {ds : List D}, (∀ u ∈ vs, u ∈ all) → RelEs K O σ ρ H us vs → derefs ρ vs = some ds → DpAll K (Vis0 (Hid O σ ρ all) H) us ds
  | [], _, [], _, _, _, e => by cases e; exact .nil
  | u :: us, all, v :: vs, ds, hs, h, e => by
    unfold derefs at e
    split at e
    · rename_i d hd
      split at e
      · rename_i ds' hds
        cases e
        refine .cons ?_ (args_dp r (fun w hw => hs w (List.mem_cons_of_mem _ hw)) h.2 hds)
        have gv : ∀ a o, Gv O σ ρ H a = some o → Vis0 (Hid O σ ρ all) H a = some o := fun a o q => by
          obtain ⟨q1, q2, q3⟩ := of_Gv q
          exact vis0.mpr ⟨fun z => z.elim q1 fun z => q2 z.1, q3⟩
        cases v with
        | val d' => cases hd; exact dp_mono gv _ _ h.1
        | bor i =>
          have h1 : σ[i]? = some (some u) := h.1
          unfold deref at hd
          dsimp only at hd
          split at hd
          · rename_i b l q
            cases hd
            obtain ⟨a, h2, h3, ws, h4, h5⟩ := r.own i b _ q
            rw [h1] at h2; cases h2
            exact .lst (SqL.of (vis0.mpr ⟨fun z => z.elim h3 fun z => z.2 ⟨i, b, _, hs _ List.mem_cons_self, q, h1⟩, h4⟩)) (dpAll_mono gv _ _ h5)
          · rename_i d' q
            cases hd
            obtain ⟨w, h2, h3⟩ := r.val i _ q
            rw [h1] at h2; cases h2
            exact dp_mono gv _ _ h3
          · cases hd
      · cases e
    · cases e
  | [], _, _ :: _, _, _, h, _ => h.elim
  | _ :: _, _, [], _, _, h, _ => h.elim
theorem keep_slot {v : EV} {d : D} {ρ' : DEnv} (e : keep v ρ = some (d, ρ')) : (∀ (j : Nat) (b : Bool) (c : Cell), ρ'[j]? = some (some (.own b c)) → ρ[j]? = some (some (.own b c))) ∧ ∀ i, v = .bor i → ∀ (b : Bool) (c : Cell), ρ'[i]? ≠ some (some (.own b c)) := by
  cases v with
  | val d' => cases e; exact ⟨fun _ _ _ h => h, fun i h => nomatch h⟩
  | bor i =>
    unfold keep frzAt at e
    dsimp only at e
    split at e
    · rename_i ds q
      cases e
      have hi : i < ρ.length := (List.getElem?_eq_some_iff.mp q).1
      refine ⟨fun j b c h => ?_, fun k hk b c h => ?_⟩
      · by_cases hj : i = j
        · subst hj; rw [List.getElem?_set_self hi] at h; cases h
        · rw [List.getElem?_set_ne hj] at h; exact h
      · cases hk; rw [List.getElem?_set_self hi] at h; cases h
    · rename_i d' q
      cases e
      exact ⟨fun _ _ _ h => h, fun k hk b c h => by cases hk; rw [q] at h; cases h⟩
    · cases e
theorem keeps_slot : ∀ {vs : List EV} {ds : List D} {ρ ρ' : DEnv}, keeps vs ρ = some (ds, ρ') → (∀ (j : Nat) (b : Bool) (c : Cell), ρ'[j]? = some (some (.own b c)) → ρ[j]? = some (some (.own b c))) ∧ ∀ i, EV.bor i ∈ vs → ∀ (b : Bool) (c : Cell), ρ'[i]? ≠ some (some (.own b c))
  | [], _, _, _, e => by cases e; exact ⟨fun _ _ _ h => h, fun i h => nomatch h⟩
  | v :: vs, ds, ρ, ρ', e => by
    unfold keeps at e
    split at e
    · rename_i d ρ1 q
      split at e
      · rename_i ds' ρ2 q2
        cases e
        obtain ⟨a1, b1⟩ := keep_slot q
        obtain ⟨a2, b2⟩ := keeps_slot q2
        refine ⟨fun j b c h => a1 j b c (a2 j b c h), fun i hi b c h => ?_⟩
        cases hi with
        | head => exact b1 i rfl b c (a2 i b c h)
        | tail _ hi => exact b2 i hi b c h
      · cases e
    · cases e
theorem keeps_out {vs : List EV} {ds : List D} {ρ' : DEnv} (r : RelEnv K O σ H ρ) (e : keeps vs ρ = some (ds, ρ')) {a : Addr} (h : Ow σ ρ' a) : Ow σ ρ a ∧ ¬ Bor σ ρ vs a := by
  obtain ⟨s1, s2⟩ := keeps_slot e
  obtain ⟨j, b, c, e1, e2⟩ := h
  refine ⟨⟨j, b, c, s1 j b c e1, e2⟩, fun ⟨i, b', c', m, e3, e4⟩ => ?_⟩
  have ij := r.inj i j a _ _ _ _ e3 (s1 j b c e1) e4 e2
  subst ij
  exact s2 i m b c e1

/-- a call's end, seen by the caller -/
theorem call_core {k : Nat} {n : Nat} {F : Fn} {W : WX} {us : List V} {vs : List EV} {ds : List D} {Q : VK} (r : RelEnv K O σ H ρ) (e : RelEs K O σ ρ H us vs) (hd : derefs ρ vs = some ds) (hn : us.length = n)
    (h : Sat K mg O σ ρ H W (fun ρ' H' u a => RelE K O σ ρ' H' u a) Q (match F ds with
      | .ok (.val d) => if (flat d).isSome = true then .ok (.val d) ρ else optR (keeps vs ρ) fun p => .ok (.val d) p.2
      | .ok (.own (.lst l)) => optR (keeps vs ρ) fun p => .ok (.val (.list l)) p.2
      | .ok (.own _) => .bad
      | .err x => .err x ρ
      | .bad => .bad)) : spP K mg n F us H Q (WE W σ) := by
  have ha := args_dp r (fun u hu => hu) e hd
  refine ⟨hn, Hid O σ ρ vs, ds, fun a q => q.elim (r.oa a) fun q => ?_, ha, ?_⟩
  · obtain ⟨o, ho⟩ := r.owSome q.1
    rw [ho]; exact fun z => nomatch z
  have sub : ∀ {ρ' : DEnv} {H' : Hp}, (∀ a, Ow σ ρ' a → Ow σ ρ a ∧ ¬ Bor σ ρ vs a) → ∀ a o, Vis0 (Hid O σ ρ vs) H' a = some o → Gv O σ ρ' H' a = some o := fun {ρ' H'} hh a o q => by
    obtain ⟨q1, q2⟩ := vis0.mp q
    exact Gv_of (fun z => q1 (.inl z)) (fun z => q1 (.inr (hh a z))) q2
  cases hF : F ds with
  | bad => rw [hF] at h; exact h.elim
  | err x =>
    rw [hF] at h
    exact fun cls d H' sm ex => h cls d H' (.same sm) (r.same sm) ex
  | ok v =>
    rw [hF] at h
    cases v with
    | val d =>
      dsimp only at h
      split at h
      · rename_i hfl
        obtain ⟨w, hw⟩ := Option.isSome_iff_exists.mp hfl
        exact fun u H' sm hu => h u H' (.same sm) (r.same sm) (dp_any hu hw)
      · obtain ⟨⟨ds', ρ2⟩, hk, s2⟩ := optR_sat h
        obtain ⟨r2, st2, _⟩ := keeps_ok r e hk
        exact fun u H' sm hu => s2 u H' (st2.trans (.same sm)) (r2.same sm) (dp_mono (sub fun a z => keeps_out r hk z) _ _ hu)
    | own c =>
      cases c with
      | lst l =>
        obtain ⟨⟨ds', ρ2⟩, hk, s2⟩ := optR_sat h
        obtain ⟨r2, st2, _⟩ := keeps_ok r e hk
        refine fun p H' sm hp hc => s2 _ H' (st2.trans (.same sm)) (r2.same sm) ?_
        obtain ⟨ws, h1, h2⟩ := hc
        have hs : ∀ a o, Vis0 (fun a => Hid O σ ρ vs a ∨ a = p) H' a = some o → Gv O σ ρ2 H' a = some o := fun a o q => by
          obtain ⟨q1, q2⟩ := vis0.mp q
          exact Gv_of (fun z => q1 (.inl (.inl z))) (fun z => q1 (.inl (.inr (keeps_out r hk z)))) q2
        exact L2.Dp.lst (SqL.of (Gv_of (r2.fresh hp).1 (r2.fresh hp).2 h1)) (dpAll_mono hs _ _ h2)
      | dK _ => exact h.elim
      | dT _ => exact h.elim
theorem call_coreL {n : Nat} {F : Fn} {W : WX} {us : List V} {vs : List EV} {ds : List D} {Q : VK} (r : RelEnv K O σ H ρ) (e : RelEs K O σ ρ H us vs) (hd : derefs ρ vs = some ds) (hn : us.length = n)
    (h : SatL K mg O σ ρ H W Q (match F ds with
      | .ok (.own c) => optR (keeps vs ρ) fun p => .ok c p.2
      | .ok (.val _) => .bad
      | .err x => .err x ρ
      | .bad => .bad)) : spP K mg n F us H Q (WE W σ) := by
  have ha := args_dp r (fun u hu => hu) e hd
  refine ⟨hn, Hid O σ ρ vs, ds, fun a q => q.elim (r.oa a) fun q => ?_, ha, ?_⟩
  · obtain ⟨o, ho⟩ := r.owSome q.1
    rw [ho]; exact fun z => nomatch z
  cases hF : F ds with
  | bad => rw [hF] at h; exact h.elim
  | err x =>
    rw [hF] at h
    exact fun cls d H' sm ex => h cls d H' (.same sm) (r.same sm) ex
  | ok v =>
    rw [hF] at h
    cases v with
    | val d => exact h.elim
    | own c =>
      obtain ⟨⟨ds', ρ2⟩, hk, s2⟩ := optR_satL h
      obtain ⟨r2, st2, _⟩ := keeps_ok r e hk
      intro p H' sm hp hc
      have st3 : EStp σ ρ H ρ2 H' := st2.trans (.same sm)
      have r3 : RelEnv K O σ H' ρ2 := r2.same sm
      refine s2 p H' st3 hp ⟨?_, (r2.fresh hp).1, (r2.fresh hp).2, hc.mono (fun a o q => ?_) fun _ q => q⟩
      · -- p is hidden: it was free ahead of the call
        have gh : ∀ a o, Gv O σ ρ2 H a = some o → Gv (fun a => O a ∨ a = p) σ ρ2 H' a = some o := fun a o q => by
          obtain ⟨q1, q2, q3⟩ := of_Gv q
          exact Gv_of (fun z => z.elim q1 (ne_of_none q3 hp)) q2 (sm _ _ q3)
        refine ⟨r2.len, fun a q => ?_, fun i d q => ?_, fun i b c' q => ?_, r2.inj, r2.raw⟩
        · rcases q with q | q
          · exact r3.oa a q
          · obtain ⟨o, ho⟩ := hc.some
            rw [q, ho]; exact fun z => nomatch z
        · obtain ⟨v, h1, h2⟩ := r2.val i d q
          exact ⟨v, h1, dp_mono gh _ _ h2⟩
        · obtain ⟨a, h1, h2, h3⟩ := r2.own i b c' q
          obtain ⟨o, ho⟩ := h3.some
          exact ⟨a, h1, fun z => z.elim h2 (ne_of_none ho hp), h3.mono gh fun o q => sm _ _ q⟩
      · obtain ⟨q1, q2⟩ := vis0.mp q
        exact Gv_of (fun z => z.elim (fun z => q1 (.inl (.inl z))) fun z => q1 (.inr z)) (fun z => q1 (.inl (.inr (keeps_out r hk z)))) q2
end
section
variable {X : Cx} {W : WX} {x : Str} {p pos : Pos} {e : Expr} {es : List Expr} {k n : Nat} {ps : List Str} {F : Fn} {g : DEnv → Res (List EV)}
theorem de_call (C : FOk X.prog X.w X.K X.mg X.base x k ps (spP X.K X.mg n F)) (hr : Room k X.A) (hx : ∀ σ, PassesAt (L2N.CX X.prog X.w) X σ (WE W σ)) (ha : DA X W (e :: es) g) (hl : (e :: es).length = n := by rfl) (hg : Gl X x := by rfl) (hdb : (x == ("__debug__" : Str)) = false := by decide)
    (he : starEach (e :: es) X.env = (false, eval e X.env) :: starEach es X.env := by rfl) (hpl : (backTo pos (starEach es X.env)).any (·.1) = false := by rfl) (hlen : ∀ ρ vs ρ', g ρ = .ok vs ρ' → vs.length = n) :
    DE X W (.Call (.Name x p) (e :: es) [] pos) (xCall F g) := by
  obtain ⟨f, fd, Fo, hm, hk, hb⟩ := C
  refine ⟨pe_imp (pe_callS (E := WE W) Fo hr hg hm hk hb hx ha.pa hdb he hpl) fun σ H Q ⟨O, ρ, r, s⟩ => ⟨O, ρ, r, ?_⟩⟩
  unfold xCall at s
  cases q : g ρ with
  | ok vs ρ1 =>
    rw [q] at s
    intro us H1 st r1 e1
    obtain ⟨ds, hd, s2⟩ := optR_sat (Sat.shift s st)
    have hlv : us.length = vs.length := by
      have : ∀ (us : List V) (vs : List EV), RelEs X.K O σ ρ1 H1 us vs → us.length = vs.length := by
        intro us
        induction us with
        | nil => intro vs h; cases vs with
          | nil => rfl
          | cons _ _ => exact h.elim
        | cons u us ih => intro vs h; cases vs with
          | nil => exact h.elim
          | cons v vs => simp [ih vs h.2]
      exact this us vs e1
    exact call_core (k := k) r1 e1 hd (hlv.trans (hlen _ _ _ q)) s2
  | err x ρ1 => rw [q] at s; exact s
  | bad => rw [q] at s; exact s
theorem dl_call (C : FOk X.prog X.w X.K X.mg X.base x k ps (spP X.K X.mg n F)) (hr : Room k X.A) (hx : ∀ σ, PassesAt (L2N.CX X.prog X.w) X σ (WE W σ)) (ha : DA X W (e :: es) g) (hl : (e :: es).length = n := by rfl) (hg : Gl X x := by rfl) (hdb : (x == ("__debug__" : Str)) = false := by decide)
    (he : starEach (e :: es) X.env = (false, eval e X.env) :: starEach es X.env := by rfl) (hpl : (backTo pos (starEach es X.env)).any (·.1) = false := by rfl) (hlen : ∀ ρ vs ρ', g ρ = .ok vs ρ' → vs.length = n) :
    DLs X W (.Call (.Name x p) (e :: es) [] pos) (xCallL F g) := by
  obtain ⟨f, fd, Fo, hm, hk, hb⟩ := C
  refine ⟨pe_imp (pe_callS (E := WE W) Fo hr hg hm hk hb hx ha.pa hdb he hpl) fun σ H Q ⟨O, ρ, r, s⟩ => ⟨O, ρ, r, ?_⟩⟩
  unfold xCallL at s
  cases q : g ρ with
  | ok vs ρ1 =>
    rw [q] at s
    intro us H1 st r1 e1
    obtain ⟨ds, hd, s2⟩ := optR_satL (SatL.shift s st st.none)
    have hlv : us.length = vs.length := by
      have : ∀ (us : List V) (vs : List EV), RelEs X.K O σ ρ1 H1 us vs → us.length = vs.length := by
        intro us
        induction us with
        | nil => intro vs h; cases vs with
          | nil => rfl
          | cons _ _ => exact h.elim
        | cons u us ih => intro vs h; cases vs with
          | nil => exact h.elim
          | cons v vs => simp [ih vs h.2]
      exact this us vs e1
    exact call_coreL r1 e1 hd (hlv.trans (hlen _ _ _ q)) s2
  | err x ρ1 => rw [q] at s; exact s
  | bad => rw [q] at s; exact s
/-- how many arguments there are -/
theorem aNil_len : ∀ ρ vs ρ', aNil ρ = .ok vs ρ' → vs.length = 0 := fun ρ vs ρ' h => by cases h; rfl
theorem aCons_len {f : DX} {g : DEnv → Res (List EV)} {n : Nat} (h : ∀ ρ vs ρ', g ρ = .ok vs ρ' → vs.length = n) : ∀ ρ vs ρ', aCons f g ρ = .ok vs ρ' → vs.length = n + 1 := fun ρ vs ρ' e => by
  unfold aCons at e
  cases q : f ρ with
  | ok v ρ1 =>
    rw [q] at e
    dsimp only [bindR] at e
    cases q2 : g ρ1 with
    | ok ws ρ2 =>
      rw [q2] at e
      cases e
      simp [h _ _ _ q2]
    | err x ρ2 => rw [q2] at e; cases e
    | bad => rw [q2] at e; cases e
  | err x ρ1 => rw [q] at e; cases e
  | bad => rw [q] at e; cases e
end

/-! ### a def's body -/
def runF (m : Nat) (body : DSt) : Fn := fun ds => match body (ds.map (fun d => some (.val d)) ++ List.replicate (m - ds.length) none) with
  | .nx _ => .ok (.val .none)
  | .rt v _ => .ok v
  | .err x _ => .err x
  | _ => .bad
section
variable {P : Program} {w : World} {K : Frg} {mg : Mg} {base : Heap}
theorem start_get {N : List Str} {vs : List V} {i : Nat} : (L2.start N vs)[i]? = if i < vs.length then (vs[i]?).map some else if i < vs.length + (N.length - vs.length) then some none else none := by
  unfold L2.start
  by_cases h : i < vs.length
  · rw [if_pos h, List.getElem?_append_left (by simpa using h), List.getElem?_map]
  · rw [if_neg h, List.getElem?_append_right (by simpa using h), List.getElem?_replicate, List.length_map]
    by_cases h2 : i < vs.length + (N.length - vs.length)
    · rw [if_pos h2, if_pos (by omega)]
    · rw [if_neg h2, if_neg (by omega)]
def startD (m : Nat) (ds : List D) : DEnv := ds.map (fun d => some (.val d)) ++ List.replicate (m - ds.length) none
theorem startD_own {m : Nat} {ds : List D} {i : Nat} {b : Bool} {c : Cell} : (startD m ds)[i]? ≠ some (some (.own b c)) := by
  unfold startD
  by_cases h : i < ds.length
  · rw [List.getElem?_append_left (by simpa using h), List.getElem?_map]
    cases ds[i]? with
    | none => exact fun z => nomatch z
    | some d => exact fun z => nomatch z
  · rw [List.getElem?_append_right (by simpa using h), List.getElem?_replicate]
    split
    · exact fun z => nomatch z
    · exact fun z => nomatch z
theorem start_rel {O : Addr → Prop} {N : List Str} {vs : List V} {ds : List D} {H : Hp} (ho : ∀ a, O a → H a ≠ none) (h : DpAll K (Vis0 O H) vs ds) : RelEnv K O (L2.start N vs) H (startD N.length ds) := by
  have hl := DL.DpAll.length h
  have now : ∀ a, ¬ Ow (L2.start N vs) (startD N.length ds) a := fun a ⟨i, b, c, e, _⟩ => startD_own e
  refine ⟨?_, ho, fun i d e => ?_, fun i b c e => absurd e startD_own, fun i j a b c b' c' e => absurd e startD_own, fun i a e => ?_⟩
  · unfold L2.start startD
    simp [hl]
  · unfold startD at e
    by_cases hi : i < ds.length
    · rw [List.getElem?_append_left (by simpa using hi), List.getElem?_map] at e
      cases q : ds[i]? with
      | none => rw [q] at e; cases e
      | some d' =>
        rw [q] at e
        cases e
        obtain ⟨v, h1, h2⟩ := DL.DpAll.at h q
        refine ⟨v, ?_, dp_mono (fun a o z => Gv_of (vis0.mp z).1 (now a) (vis0.mp z).2) _ _ h2⟩
        rw [start_get, if_pos (by omega), h1]; rfl
    · rw [List.getElem?_append_right (by simpa using hi), List.getElem?_replicate] at e
      split at e <;> cases e
  · unfold startD at e
    by_cases hi : i < ds.length
    · rw [List.getElem?_append_left (by simpa using hi), List.getElem?_map] at e
      cases q : ds[i]? with
      | none => rw [q] at e; cases e
      | some d' => rw [q] at e; cases e
    · rw [List.getElem?_append_right (by simpa using hi), List.getElem?_replicate] at e
      split at e <;> cases e
abbrev cxN (P : Program) (w : World) (K : Frg) (mg : Mg) (base : Heap) (N : List Str) (qual : Str) (st : Stmt) (f : Addr) (cdv : Value) (A : Around) (outer : List Env) (s : Shared) (H : Hp) (E : XK) : Cx :=
  cxOf (L2N.CX P w) P w K mg base N qual (defScope st) f cdv A outer s H E
/-- THE RULE for a def of data -/
theorem fn_data {x qual : Str} {st : Stmt} {f : Addr} {fd : FuncData} {N ps : List Str} {k : Nat} {body : DSt} (F : Fun K x qual st f fd) (S : FnScope N ps (defScope st))
    (hbody : ∀ (cdv : Value) (A : Around) (outer : List Env) (s : Shared) (H : Hp) (E : XK), Room k (A.deeper (envOfC qual (defScope st) s.heap.objs.size f cdv)) →
      L2N.Takes (cxN P w K mg base N qual st f cdv A outer s H E) (fun cls d _ H => E cls d H) → PassesOwn (model P w) (cxN P w K mg base N qual st f cdv A outer s H E).A (cxN P w K mg base N qual st f cdv A outer s H E).env (cxN P w K mg base N qual st f cdv A outer s H E).xe →
      DSs (cxN P w K mg base N qual st f cdv A outer s H E) (fun cls d _ H => E cls d H) (defBody st) body) :
    FnOk P w K mg base (L2N.CX P w) (k + 1) f fd ps (spP K mg ps.length (runF N.length body)) := by
  obtain ⟨oc, od, kV, doc, pm, an, cdv, ct, osl, rfl, lk, hcd⟩ := F.ex
  refine fn_of lk hcd S (fun vs H Q E h => h.1) fun A outer s H vs Q E hr h => ?_
  obtain ⟨hn, O, ds, ho, ha, h⟩ := h
  refine ⟨_, (hbody cdv A outer s H E hr (L2N.takes_of rfl rfl rfl rfl) (passes_of rfl)).pss, O, startD N.length ds, start_rel ho ha, ?_⟩
  have now : ∀ a, ¬ Ow (L2.start N vs) (startD N.length ds) a := fun a ⟨i, b, c, e, _⟩ => startD_own e
  unfold runF at h
  have same : ∀ {σ' : L2.St} {ρ' : DEnv} {H' : Hp}, SStp (L2.start N vs) (startD N.length ds) H σ' ρ' H' → Same H H' := fun {σ' ρ' H'} st b o e => st.ext b o e (now b)
  have gvs : ∀ {σ' : L2.St} {ρ' : DEnv} {H' : Hp}, ∀ a o, Gv O σ' ρ' H' a = some o → Vis0 O H' a = some o := fun {σ' ρ' H'} a o q => vis0.mpr ⟨(of_Gv q).1, (of_Gv q).2.2⟩
  show SatS K mg O (L2.start N vs) (startD N.length ds) H _ _ (body (startD N.length ds))
  change SatF K mg O H Q E (match body (startD N.length ds) with
    | .nx _ => .ok (.val .none)
    | .rt v _ => .ok v
    | .err x _ => .err x
    | _ => .bad) at h
  cases q : body (startD N.length ds) with
  | nx ρ' => rw [q] at h; exact fun σ' H' st r => h .non H' (same st) .non
  | rt v ρ' =>
    rw [q] at h
    intro u σ' H' st r
    cases v with
    | val d => exact h u H' (same st) (dp_mono gvs _ _ r.2)
    | own c =>
      obtain ⟨p, rfl, ⟨r1, r2, r3, r4⟩, r5⟩ := r
      refine h p H' (same st) (r5.elim (fun z => absurd z (now p)) fun z => z) (r4.mono (fun a o z => vis0.mpr ⟨(of_Gv z).1, (of_Gv z).2.2⟩) fun _ z => z)
  | bk ρ' => rw [q] at h; exact h.elim
  | ct ρ' => rw [q] at h; exact h.elim
  | err x ρ' => rw [q] at h; exact fun cls d σ' H' st r ex => h cls d H' (same st) ex
  | bad => rw [q] at h; exact h.elim
end
end DL

namespace DL
open L2 PySem PySem.Spec PyProof.Rows

section
variable {K : Frg} {O : Addr → Prop} {σ : L2.St} {ρ : DEnv} {H : Hp} {u : V} {a : EV}
theorem RelE.int {i : Int} (h : RelE K O σ ρ H u a) (r : RelEnv K O σ H ρ) (e : deref ρ a = some (.int i)) : u = .int i := by
  have := h.dp r e; cases this; rfl
theorem RelE.str {x : Str} (h : RelE K O σ ρ H u a) (r : RelEnv K O σ H ρ) (e : deref ρ a = some (.str x)) : u = .str x := by
  have := h.dp r e; cases this; rfl
theorem RelE.bl {b : Bool} (h : RelE K O σ ρ H u a) (r : RelEnv K O σ H ρ) (e : deref ρ a = some (.bool b)) : u = .bl b := by
  have := h.dp r e; cases this; rfl
theorem RelE.non (h : RelE K O σ ρ H u a) (r : RelEnv K O σ H ρ) (e : deref ρ a = some .none) : u = .non := by
  have := h.dp r e; cases this; rfl
theorem dp_new {vs : List V} {ds : List D} {p : Addr} (r : RelEnv K O σ H ρ) (hp : H p = none) (a : DpAll K (Gv O σ ρ H) vs ds) : Same H (upd H p (.tup vs)) ∧ Dp K (Gv O σ ρ (upd H p (.tup vs))) (.ref p) (.tuple ds) :=
  ⟨same_upd hp, L2.Dp.tup (SqT.of (Gv_of (r.fresh hp).1 (r.fresh hp).2 upd_same)) (dpAll_mono (same_gv (same_upd hp)) _ _ a)⟩
end

/-! ### + -/
def kAdd : D → D → Option D
  | .int i, .int j => some (.int (i + j))
  | .str x, .str y => if x.length + y.length ≤ sizeLine then some (.str (x ++ y)) else none
  | .tuple xs, .tuple ys => if xs.length + ys.length ≤ sizeLine then some (.tuple (xs ++ ys)) else none
  | _, _ => none
section
variable {X : Cx}
theorem o_add : OpR X (binaryOp .Add) (rD2 X.K kAdd) := by
  intro pins s σ H x y v u Q I rx ry ⟨O, σ', ρ, a, b, d, e, z, r, ea, eb, hd, he, hk, q⟩
  unfold kAdd at hk
  split at hk
  · rename_i i j
    cases hk
    cases RelE.int ea r hd
    cases RelE.int eb r he
    exact op_add pins s σ H _ _ v u Q I rx ry ⟨i, j, rfl, rfl, q _ H (Same.refl _) (.int _)⟩
  · rename_i i j
    split at hk
    · rename_i hz
      cases hk
      cases RelE.str ea r hd
      cases RelE.str eb r he
      exact op_add_str pins s σ H _ _ v u Q I rx ry ⟨i, j, rfl, rfl, hz, q _ H (Same.refl _) (.str _)⟩
    · cases hk
  · rename_i xs ys
    split at hk
    · rename_i hz
      cases hk
      obtain ⟨p1, vs, rfl, s1, a1⟩ := RelE.tup ea r hd
      obtain ⟨p2, ws, rfl, s2, a2⟩ := RelE.tup eb r he
      have l1 := DL.DpAll.length a1
      have l2 := DL.DpAll.length a2
      refine op_catA pins s σ H _ _ v u Q I rx ry ⟨p1, p2, vs, ws, rfl, rfl, SqT.mono Gv_sub s1, SqT.mono Gv_sub s2, by omega, fun hv => ?_, fun hv hw => ?_, fun hv hw p hp => ?_⟩
      · subst hv
        have : xs = [] := List.eq_nil_of_length_eq_zero l1.symm
        subst this
        exact q _ H (Same.refl _) (.tup s2 a2)
      · subst hw
        have : ys = [] := List.eq_nil_of_length_eq_zero l2.symm
        subst this
        exact q _ H (Same.refl _) (.tup s1 (by simpa using a1))
      · obtain ⟨m1, m2⟩ := dp_new r hp (DL.DpAll.append a1 a2)
        exact q _ _ m1 m2
    · cases hk
  · cases hk
def kSub : D → D → Option D
  | .int i, .int j => some (.int (i - j))
  | _, _ => none
theorem o_sub : OpR X (binaryOp .Sub) (rD2 X.K kSub) := by
  intro pins s σ H x y v u Q I rx ry ⟨O, σ', ρ, a, b, d, e, z, r, ea, eb, hd, he, hk, q⟩
  unfold kSub at hk
  split at hk
  · rename_i i j
    cases hk
    cases RelE.int ea r hd
    cases RelE.int eb r he
    exact op_sub pins s σ H _ _ v u Q I rx ry ⟨i, j, rfl, rfl, q _ H (Same.refl _) (.int _)⟩
  · cases hk
/-- the sizes that a product may have -/
def mulOk (i j : Int) : Bool := decide (i.natAbs.log2 + j.natAbs.log2 < 1000000)
def kMul : D → D → Option D
  | .int i, .int j => if mulOk i j = true then some (.int (i * j)) else none
  | .tuple xs, .int k => if (!xs.isEmpty) = true ∧ 2 ≤ k ∧ k ≤ 1000 ∧ xs.length ≤ 1000 then some (.tuple (List.replicate k.toNat xs).flatten) else none
  | _, _ => none
theorem DpAll.rep {K : Frg} {G : Hp} {vs : List V} {ds : List D} (a : DpAll K G vs ds) : ∀ n, DpAll K G (List.replicate n vs).flatten (List.replicate n ds).flatten
  | 0 => .nil
  | n + 1 => by
    rw [List.replicate_succ, List.replicate_succ, List.flatten_cons, List.flatten_cons]
    exact DL.DpAll.append a (DpAll.rep a n)
theorem o_mul : OpR X (binaryOp .Mult) (rD2 X.K kMul) := by
  intro pins s σ H x y v u Q I rx ry ⟨O, σ', ρ, a, b, d, e, z, r, ea, eb, hd, he, hk, q⟩
  unfold kMul at hk
  split at hk
  · rename_i i j
    split at hk
    · rename_i hz
      cases hk
      cases RelE.int ea r hd
      cases RelE.int eb r he
      exact op_mulW pins s σ H _ _ v u Q I rx ry ⟨i, j, rfl, rfl, (of_decide_eq_true (p := i.natAbs.log2 + j.natAbs.log2 < 1000000) hz : _), q _ H (Same.refl _) (.int _)⟩
    · cases hk
  · rename_i xs k
    split at hk
    · rename_i hz
      cases hk
      obtain ⟨p1, vs, rfl, s1, a1⟩ := RelE.tup ea r hd
      cases RelE.int eb r he
      have l1 := DL.DpAll.length a1
      refine op_repT pins s σ H _ _ v u Q I rx ry ⟨p1, k, vs, rfl, rfl, SqT.mono Gv_sub s1, fun hv => ?_, hz.2.1, hz.2.2.1, by omega, fun p hp => ?_⟩
      · subst hv
        have : xs = [] := List.eq_nil_of_length_eq_zero l1.symm
        subst this
        exact absurd hz.1 (by decide)
      · obtain ⟨m1, m2⟩ := dp_new r hp (DpAll.rep a1 k.toNat)
        exact q _ _ m1 m2
    · cases hk
  · cases hk
def divOk (j : Int) : Bool := decide (j ≠ 0 ∧ j.natAbs.log2 < 9000)
def kDiv : D → D → Option D
  | .int i, .int j => if divOk j = true then some (.int (i.fdiv j)) else none
  | _, _ => none
theorem o_div : OpR X (binaryOp .FloorDiv) (rD2 X.K kDiv) := by
  intro pins s σ H x y v u Q I rx ry ⟨O, σ', ρ, a, b, d, e, z, r, ea, eb, hd, he, hk, q⟩
  unfold kDiv at hk
  split at hk
  · rename_i i j
    split at hk
    · rename_i hz
      cases hk
      cases RelE.int ea r hd
      cases RelE.int eb r he
      obtain ⟨h1, h2⟩ := of_decide_eq_true hz
      obtain ⟨t, rfl⟩ := rx
      obtain ⟨t2, rfl⟩ := ry
      exact floordiv_int h1 ⟨.int _, H, I.tok _, ⟨_, rfl⟩, q _ H (Same.refl _) (.int _)⟩ (.inl (PyProof.noPylong_of_log2 h2))
    · cases hk
  · cases hk
def kMod : D → D → Option D
  | .int i, .int j => if j ≠ 0 then some (.int (i.fmod j)) else none
  | _, _ => none
theorem o_mod : OpR X (binaryOp .Mod) (rD2 X.K kMod) := by
  intro pins s σ H x y v u Q I rx ry ⟨O, σ', ρ, a, b, d, e, z, r, ea, eb, hd, he, hk, q⟩
  unfold kMod at hk
  split at hk
  · rename_i i j
    split at hk
    · rename_i hz
      cases hk
      cases RelE.int ea r hd
      cases RelE.int eb r he
      exact op_modN pins s σ H _ _ v u Q I rx ry ⟨i, j, rfl, rfl, hz, q _ H (Same.refl _) (.int _)⟩
    · cases hk
  · cases hk
def kPow : D → D → Option D
  | .int i, .int j => if 0 ≤ j ∧ j ≤ 1000000 ∧ i.natAbs < 2 ^ 64 then some (.int (i ^ j.toNat)) else none
  | _, _ => none
theorem o_pow : OpR X (binaryOp .Pow) (rD2 X.K kPow) := by
  intro pins s σ H x y v u Q I rx ry ⟨O, σ', ρ, a, b, d, e, z, r, ea, eb, hd, he, hk, q⟩
  unfold kPow at hk
  split at hk
  · rename_i i j
    split at hk
    · rename_i hz
      cases hk
      cases RelE.int ea r hd
      cases RelE.int eb r he
      exact op_pow pins s σ H _ _ v u Q I rx ry ⟨i, j, rfl, rfl, hz, q _ H (Same.refl _) (.int _)⟩
    · cases hk
  · cases hk
def kNeg : D → Option D
  | .int i => some (.int (-i))
  | _ => none
theorem o_neg : UnR X (unaryOp .USub) (rD1 X.K kNeg) := by
  intro pins s σ H x v Q I rx ⟨O, σ', ρ, a, d, z, r, ea, hd, hk, q⟩
  unfold kNeg at hk
  split at hk
  · rename_i i
    cases hk
    cases RelE.int ea r hd
    exact un_neg pins s σ H _ v Q I rx ⟨i, rfl, q _ H (Same.refl _) (.int _)⟩
  · cases hk

/-! ### lists: + and * -/
def kAddL : D → D → Option (List D)
  | .list xs, .list ys => if xs.length + ys.length ≤ sizeLine then some (xs ++ ys) else none
  | _, _ => none
theorem o_addL : OpR X (binaryOp .Add) (rD2L X.K kAddL) := by
  intro pins s σ H x y v u Q I rx ry ⟨O, σ', ρ, a, b, d, e, z, r, ea, eb, hd, he, hk, q⟩
  unfold kAddL at hk
  split at hk
  · rename_i xs ys
    split at hk
    · rename_i hz
      cases hk
      obtain ⟨p1, vs, rfl, s1, a1⟩ := RelE.lst ea r hd
      obtain ⟨p2, ws, rfl, s2, a2⟩ := RelE.lst eb r he
      have l1 := DL.DpAll.length a1
      have l2 := DL.DpAll.length a2
      cases rx
      cases ry
      obtain ⟨its, r1, ⟨⟨c1, dd1, da1, sl1⟩, n1, o1, k1, k2, k3⟩, z1⟩ := I.list s1
      obtain ⟨jts, r2, ⟨⟨c2, dd2, da2, sl2⟩, n2, o2, j1, j2, j3⟩, z2⟩ := I.list s2
      dsimp only at k1 k2 k3 j1 j2 j3
      subst k1 k2 k3 j1 j2 j3
      have hx1 := r1.length
      have hx2 := r2.length
      refine concat_meets ⟨_, o1, rfl⟩ ⟨_, o2, rfl⟩ noFill_list_add seq_list_add PySem.F.slot_list_add PySem.F.entry_list_add (PySem.F.args_list_add_2 _ _)
        (list_addW p1 p2 its.toArray jts.toArray n1 n2 _ _ _ _ (by rw [List.size_toArray, List.size_toArray]; omega)) ⟨o1, o2, ?_⟩
      have ea : its.toArray ++ jts.toArray = (its ++ jts).toArray := by simp
      rw [ea]
      exact ⟨.ref _, _, I.lnew (t' := s.toks) (r1.append r2) (by rw [List.length_append]; omega), rfl, q _ _ I.fresh (DL.DpAll.append a1 a2)⟩
    · cases hk
  · cases hk

/-! ### comparisons -/
def kEq : D → D → Option Bool
  | .str x, .str y => some (decide (x = y))
  | d, e => if SeqAt.shaped d = true ∧ SeqAt.shaped e = true then some (PyData.eqv d e) else none
def kNe : D → D → Option Bool
  | .str x, .str y => some (!decide (x = y))
  | d, e => if SeqAt.shaped d = true ∧ SeqAt.shaped e = true then some (!PyData.eqv d e) else none
theorem kB_some {k : D → D → Option Bool} {d e z : D} (h : kB k d e = some z) : ∃ b, k d e = some b ∧ z = .bool b := by
  unfold kB at h
  cases q : k d e with
  | none => rw [q] at h; cases h
  | some b => rw [q] at h; cases h; exact ⟨b, rfl, rfl⟩
theorem o_eq (hu : X.A.units + 200 < cLine) : OpR X (compareOp .Eq) (rD2 X.K (kB kEq)) := by
  intro pins s σ H x y v u Q I rx ry ⟨O, σ', ρ, a, b, d, e, z, r, ea, eb, hd, he, hk, q⟩
  obtain ⟨c, hk2, rfl⟩ := kB_some hk
  clear hk
  unfold kEq at hk2
  split at hk2
  · rename_i x1 y1
    cases hk2
    cases RelE.str ea r hd
    cases RelE.str eb r he
    refine op_eq pins s σ H _ _ v u Q I rx ry ⟨rfl, q _ H (Same.refl _) ?_⟩
    have e : decide (x1 = y1) = decide (V.str x1 = V.str y1) := by simp
    rw [e]
    exact .bl _
  split at hk2
  · rename_i hz
    cases hk2
    exact op_eqD (by omega) pins s σ H _ _ v u Q I rx ry ⟨d, e, ea.dp r hd, eb.dp r he, hz.1, hz.2, q _ H (Same.refl _) (.bl _)⟩
  · cases hk2
theorem o_ne (hu : X.A.units + 200 < cLine) : OpR X (compareOp .NotEq) (rD2 X.K (kB kNe)) := by
  intro pins s σ H x y v u Q I rx ry ⟨O, σ', ρ, a, b, d, e, z, r, ea, eb, hd, he, hk, q⟩
  obtain ⟨c, hk2, rfl⟩ := kB_some hk
  clear hk
  unfold kNe at hk2
  split at hk2
  · rename_i x1 y1
    cases hk2
    cases RelE.str ea r hd
    cases RelE.str eb r he
    refine op_ne pins s σ H _ _ v u Q I rx ry ⟨rfl, q _ H (Same.refl _) ?_⟩
    have e : decide (x1 = y1) = decide (V.str x1 = V.str y1) := by simp
    rw [e]
    exact .bl _
  split at hk2
  · rename_i hz
    cases hk2
    exact op_neD (by omega) pins s σ H _ _ v u Q I rx ry ⟨d, e, ea.dp r hd, eb.dp r he, hz.1, hz.2, q _ H (Same.refl _) (.bl _)⟩
  · cases hk2
/-- order: ints by themselves, other data alike -/
def notNone : D → Bool
  | .none => false
  | _ => true
def kLt : D → D → Option Bool
  | .int i, .int j => some (decide (i < j))
  | d, e => if PySem.W.alike d e = true ∧ notNone d = true ∧ d.depth ≤ 64 then some (PySem.W.dataLt d e) else none
def kGt : D → D → Option Bool
  | .int i, .int j => some (decide (j < i))
  | d, e => if PySem.W.alike d e = true ∧ notNone d = true ∧ d.depth ≤ 64 then some (PySem.W.dataLt e d) else none
def kLe : D → D → Option Bool
  | .int i, .int j => some (decide (i ≤ j))
  | d, e => if PySem.W.alike d e = true ∧ notNone d = true ∧ d.depth ≤ 64 then some (!PySem.W.dataLt e d) else none
def kGe : D → D → Option Bool
  | .int i, .int j => some (decide (j ≤ i))
  | d, e => if PySem.W.alike d e = true ∧ notNone d = true ∧ d.depth ≤ 64 then some (!PySem.W.dataLt d e) else none
theorem notNone_ne {d : D} (h : notNone d = true) : d ≠ .none := fun z => by rw [z] at h; cases h
theorem ordC {op : CmpOp} {k : D → D → Option Bool} {f : Int → Int → Bool} {g : D → D → Bool} (hk : ∀ d e c, k d e = some c → (∃ i j, d = .int i ∧ e = .int j ∧ c = f i j) ∨ (PySem.W.alike d e = true ∧ notNone d = true ∧ d.depth ≤ 64 ∧ c = g d e))
    (h1 : OpR X (compareOp op) (rI0 fun i j => .bl (f i j)))
    (h2 : ∀ (s : Shared) (v u : Value) (d e : D) (as bs : List Addr) (Q : Value → Shared → Prop), Reads s.heap v d as → Reads s.heap u e bs → PySem.W.alike d e = true → d ≠ .none → X.A.units + min d.depth e.depth < cLine → Q (.bool (g d e)) s → wpAny (model X.prog X.w) X.A (compareOp op v u) Q X.xe s)
    (hu : X.A.units + 200 < cLine) : OpR X (compareOp op) (rD2 X.K (kB k)) := by
  intro pins s σ H x y v u Q I rx ry ⟨O, σ', ρ, a, b, d, e, z, r, ea, eb, hd, he, hz, q⟩
  obtain ⟨c, hk2, rfl⟩ := kB_some hz
  rcases hk d e c hk2 with ⟨i, j, rfl, rfl, rfl⟩ | ⟨z1, z2, z3, rfl⟩
  · cases RelE.int ea r hd
    cases RelE.int eb r he
    exact h1 pins s σ H _ _ v u Q I rx ry ⟨i, j, rfl, rfl, q _ H (Same.refl _) (.bl _)⟩
  · obtain ⟨as, ra⟩ := Dp.reads I d x v (ea.dp r hd) rx
    obtain ⟨bs, rb⟩ := Dp.reads I e y u (eb.dp r he) ry
    have hm : min d.depth e.depth ≤ d.depth := Nat.min_le_left _ _
    exact h2 s v u d e as bs _ ra rb z1 (notNone_ne z2) (by omega) ⟨.bl _, H, I, rfl, q _ H (Same.refl _) (.bl _)⟩
theorem o_lt (hu : X.A.units + 200 < cLine) : OpR X (compareOp .Lt) (rD2 X.K (kB kLt)) := by
  refine ordC (f := fun i j => decide (i < j)) (g := fun d e => PySem.W.dataLt d e) (fun d e c h => ?_) op_lt (fun s v u d e as bs Q ra rb z1 z2 z3 hq => PySem.W.lt_data ra rb z1 z2 z3 hq) hu
  unfold kLt at h
  split at h
  · cases h; exact .inl ⟨_, _, rfl, rfl, rfl⟩
  · split at h
    · rename_i hz
      cases h
      exact .inr ⟨hz.1, hz.2.1, hz.2.2, rfl⟩
    · cases h
theorem o_gt (hu : X.A.units + 200 < cLine) : OpR X (compareOp .Gt) (rD2 X.K (kB kGt)) := by
  refine ordC (f := fun i j => decide (j < i)) (g := fun d e => PySem.W.dataLt e d) (fun d e c h => ?_) op_gt (fun s v u d e as bs Q ra rb z1 z2 z3 hq => PySem.W.gt_data ra rb z1 z2 z3 hq) hu
  unfold kGt at h
  split at h
  · cases h; exact .inl ⟨_, _, rfl, rfl, rfl⟩
  · split at h
    · rename_i hz
      cases h
      exact .inr ⟨hz.1, hz.2.1, hz.2.2, rfl⟩
    · cases h
theorem o_le (hu : X.A.units + 200 < cLine) : OpR X (compareOp .LtE) (rD2 X.K (kB kLe)) := by
  refine ordC (f := fun i j => decide (i ≤ j)) (g := fun d e => !PySem.W.dataLt e d) (fun d e c h => ?_) op_le (fun s v u d e as bs Q ra rb z1 z2 z3 hq => PySem.W.le_data ra rb z1 z2 z3 hq) hu
  unfold kLe at h
  split at h
  · cases h; exact .inl ⟨_, _, rfl, rfl, rfl⟩
  · split at h
    · rename_i hz
      cases h
      exact .inr ⟨hz.1, hz.2.1, hz.2.2, rfl⟩
    · cases h
theorem o_ge (hu : X.A.units + 200 < cLine) : OpR X (compareOp .GtE) (rD2 X.K (kB kGe)) := by
  refine ordC (f := fun i j => decide (j ≤ i)) (g := fun d e => !PySem.W.dataLt d e) (fun d e c h => ?_) op_ge (fun s v u d e as bs Q ra rb z1 z2 z3 hq => PySem.W.ge_data ra rb z1 z2 z3 hq) hu
  unfold kGe at h
  split at h
  · cases h; exact .inl ⟨_, _, rfl, rfl, rfl⟩
  · split at h
    · rename_i hz
      cases h
      exact .inr ⟨hz.1, hz.2.1, hz.2.2, rfl⟩
    · cases h
end
end DL

namespace DL
open L2 PySem PySem.Spec PyProof.Rows
section
variable {X : Cx}
/-! ### is, in -/
def kIs : D → D → Option Bool
  | .none, .none => some true
  | .bool a, .bool b => some (a == b)
  | _, .none => some false
  | _, .bool _ => some false
  | _, _ => none
def kIsNot (d e : D) : Option Bool := (kIs d e).map (!·)
theorem is_core {P : Program} {w : World} {A : Around} {E : Value → Shared → Prop} {s : Shared} {K : Frg} {H : Hp} {x y : V} {v u : Value} {d e : D} {c : Bool} (hk : kIs d e = some c) (hx : Dp K H x d) (hy : Dp K H y e) (rx : RelV x v) (ry : RelV y u) : plainIs v u = true ∧ (v == u) = c := by
  unfold kIs at hk
  split at hk
  · cases hk; cases hx; cases hy; cases rx; cases ry; exact ⟨rfl, rfl⟩
  · rename_i a b
    cases hk; cases hx; cases hy; cases rx; cases ry
    refine ⟨rfl, ?_⟩
    cases a <;> cases b <;> rfl
  · cases hk
    cases hy; cases ry
    cases hx with
    | non => rename_i h; exact absurd rfl h
    | bl b => cases rx; exact ⟨rfl, rfl⟩
    | int i => obtain ⟨t, rfl⟩ := rx; exact ⟨rfl, rfl⟩
    | str z => obtain ⟨t, rfl⟩ := rx; exact ⟨rfl, rfl⟩
    | lst _ _ => cases rx; exact ⟨rfl, rfl⟩
    | tup _ _ => cases rx; exact ⟨rfl, rfl⟩
  · cases hk
    cases hy; cases ry
    cases hx with
    | non => cases rx; exact ⟨rfl, rfl⟩
    | bl b => rename_i h; exact (h b rfl).elim
    | int i => obtain ⟨t, rfl⟩ := rx; exact ⟨rfl, rfl⟩
    | str z => obtain ⟨t, rfl⟩ := rx; exact ⟨rfl, rfl⟩
    | lst _ _ => cases rx; exact ⟨rfl, rfl⟩
    | tup _ _ => cases rx; exact ⟨rfl, rfl⟩
  · cases hk
theorem o_is : OpR X (compareOp .Is) (rD2 X.K (kB kIs)) := by
  intro pins s σ H x y v u Q I rx ry ⟨O, σ', ρ, a, b, d, e, z, r, ea, eb, hd, he, hz, q⟩
  obtain ⟨c, hk, rfl⟩ := kB_some hz
  obtain ⟨h1, h2⟩ := is_core (P := X.prog) (w := X.w) (A := X.A) (E := X.xe) (s := s) hk (ea.dp r hd) (eb.dp r he) rx ry
  exact wpAny_is_plain h1 ⟨.bl (v == u), H, I, rfl, by rw [h2]; exact q _ H (Same.refl _) (.bl _)⟩
theorem o_isnot : OpR X (compareOp .IsNot) (rD2 X.K (kB kIsNot)) := by
  intro pins s σ H x y v u Q I rx ry ⟨O, σ', ρ, a, b, d, e, z, r, ea, eb, hd, he, hz, q⟩
  obtain ⟨c, hk, rfl⟩ := kB_some hz
  unfold kIsNot at hk
  cases hk2 : kIs d e with
  | none => rw [hk2] at hk; cases hk
  | some c2 =>
    rw [hk2] at hk
    cases hk
    obtain ⟨h1, h2⟩ := is_core (P := X.prog) (w := X.w) (A := X.A) (E := X.xe) (s := s) hk2 (ea.dp r hd) (eb.dp r he) rx ry
    exact wpAny_isNot_plain h1 ⟨.bl (!(v == u)), H, I, rfl, by rw [h2]; exact q _ H (Same.refl _) (.bl _)⟩
def kIn : D → D → Option Bool
  | d, .list ds => if SeqAt.shaped d = true ∧ SeqAt.shaped (.list ds) = true then some (ds.any fun z => PyData.eqv z d) else none
  | _, _ => none
def kNotIn : D → D → Option Bool
  | d, .list ds => if SeqAt.shaped d = true ∧ SeqAt.shaped (.list ds) = true then some (!ds.any fun z => PyData.eqv z d) else none
  | _, _ => none
theorem o_in (hu : X.A.units + 200 < cLine) : OpR X (compareOp .In) (rD2 X.K (kB kIn)) := by
  intro pins s σ H x y v u Q I rx ry ⟨O, σ', ρ, a, b, d, e, z, r, ea, eb, hd, he, hz, q⟩
  obtain ⟨c, hk, rfl⟩ := kB_some hz
  unfold kIn at hk
  split at hk
  · rename_i ds
    split at hk
    · rename_i hs
      cases hk
      exact op_inD (by omega) pins s σ H _ _ v u Q I rx ry ⟨d, ds, ea.dp r hd, eb.dp r he, hs.1, hs.2, q _ H (Same.refl _) (.bl _)⟩
    · cases hk
  · cases hk
theorem o_notin (hu : X.A.units + 200 < cLine) : OpR X (compareOp .NotIn) (rD2 X.K (kB kNotIn)) := by
  intro pins s σ H x y v u Q I rx ry ⟨O, σ', ρ, a, b, d, e, z, r, ea, eb, hd, he, hz, q⟩
  obtain ⟨c, hk, rfl⟩ := kB_some hz
  unfold kNotIn at hk
  split at hk
  · rename_i ds
    split at hk
    · rename_i hs
      cases hk
      exact op_notInD (by omega) pins s σ H _ _ v u Q I rx ry ⟨d, ds, ea.dp r hd, eb.dp r he, hs.1, hs.2, q _ H (Same.refl _) (.bl _)⟩
    · cases hk
  · cases hk

/-! ### subscripts -/
def kIx : D → D → Option D
  | .list ds, .int i => atI ds i
  | .tuple ds, .int i => atI ds i
  | .str z, .int i => if z.length ≤ sizeLine then (atI z.cps.toList i).map fun c => .str ⟨#[c]⟩ else none
  | _, _ => none
theorem atI_dp {K : Frg} {G : Hp} {vs : List V} {ds : List D} {i : Int} {d : D} (a : DpAll K G vs ds) (h : atI ds i = some d) : ∃ v, atI vs i = some v ∧ Dp K G v d := by
  unfold atI at h ⊢
  rw [DL.DpAll.length a]
  cases q : ixN ds.length i with
  | none => rw [q] at h; cases h
  | some j =>
    rw [q] at h
    exact DL.DpAll.at a h
theorem i_ix : IxR X (rD2 X.K kIx) := by
  intro value slice pins s σ H x y v u Q I rx ry ⟨O, σ', ρ, a, b, d, e, z, r, ea, eb, hd, he, hk, q⟩ hs
  unfold kIx at hk
  split at hk
  · rename_i ds i
    obtain ⟨p, vs, rfl, s1, a1⟩ := RelE.lst ea r hd
    cases RelE.int eb r he
    obtain ⟨w, h1, h2⟩ := atI_dp a1 hk
    exact ix_list value slice pins s σ H _ _ v u Q I rx ry ⟨p, vs, i, w, rfl, rfl, s1, h1, q _ H (Same.refl _) h2⟩ hs
  · rename_i ds i
    obtain ⟨p, vs, rfl, s1, a1⟩ := RelE.tup ea r hd
    cases RelE.int eb r he
    obtain ⟨w, h1, h2⟩ := atI_dp a1 hk
    exact ix_tup value slice pins s σ H _ _ v u Q I rx ry ⟨p, vs, i, w, rfl, rfl, SqT.mono Gv_sub s1, h1, q _ H (Same.refl _) h2⟩ hs
  · rename_i z' i
    split at hk
    · rename_i hz
      cases RelE.str ea r hd
      cases RelE.int eb r he
      cases hc : atI z'.cps.toList i with
      | none => rw [hc] at hk; cases hk
      | some c =>
        rw [hc] at hk
        cases hk
        exact ix_str value slice pins s σ H _ _ v u Q I rx ry ⟨z', i, c, rfl, rfl, hz, hc, q _ H (Same.refl _) (.str _)⟩ hs
    · cases hk
  · cases hk

/-! ### slices -/
def cutD (xs : List D) (lo hi : Option Int) : List D := (xs.drop (HT.sIx xs.length 0 lo)).take (HT.sIx xs.length xs.length hi - HT.sIx xs.length 0 lo)
theorem cut_dp {K : Frg} {G : Hp} {vs : List V} {ds : List D} (a : DpAll K G vs ds) (lo hi : Option Int) : DpAll K G (cutV vs lo hi) (cutD ds lo hi) := by
  unfold cutV cutD
  rw [DL.DpAll.length a]
  exact DL.DpAll.take _ (DL.DpAll.drop _ a)
end
section
variable {X : Cx} {W : WX}
/-- a slice's part -/
def tDP (K : Frg) (mg : Mg) (W : WX) (f : DEnv → Res (Option Int)) : TO := fun σ H Q => ∃ O ρ, RelEnv K O σ H ρ ∧ Sat K mg O σ ρ H W (fun _ _ u a => u = a) Q (f ρ)
structure DP (X : Cx) (W : WX) (e : Option Expr) (f : DEnv → Res (Option Int)) : Prop where
  po : PO X e (tDP X.K X.mg W f)
theorem po_imp {X : Cx} {e : Option Expr} {t t' : TO} (h : PO X e t) (i : ∀ σ H Q, t' σ H Q → t σ H Q) : PO X e t' := ⟨fun pins s σ H Q I q => h.run pins s σ H Q I (i _ _ _ q)⟩
def pNo : DEnv → Res (Option Int) := fun ρ => .ok none ρ
def pSome (f : DX) : DEnv → Res (Option Int) := fun ρ => bindR (f ρ) fun v ρ1 => match deref ρ1 v with
  | some (.int i) => .ok (some i) ρ1
  | _ => .bad
theorem dp_no : DP X W none pNo := ⟨po_imp po_none fun σ H Q ⟨O, ρ, r, s⟩ => s none H .refl r rfl⟩
theorem dp_some {e : Expr} {f : DX} (h : DE X W e f) : DP X W (some e) (pSome f) := by
  refine ⟨po_imp (po_some h.pe) fun σ H Q ⟨O, ρ, r, s⟩ => ⟨O, ρ, r, (Sat.bind s).imp fun u H1 ⟨v, ρ1, r1, e1, s1⟩ => ?_⟩⟩
  try dsimp only at s1
  split at s1
  · rename_i i hd
    exact ⟨i, RelE.int e1 r1 hd, s1 _ H1 .refl r1 rfl⟩
  · exact s1.elim
/-- x[lo:hi] as data: of a tuple or a text -/
def kCut (d : D) (lo hi : Option Int) : Option D := match d with
  | .tuple ds => some (.tuple (cutD ds lo hi))
  | .str z => if z.length ≤ sizeLine then some (.str (cutS z lo hi)) else none
  | _ => none
def xCut (fa : DX) (fl fh : DEnv → Res (Option Int)) : DX := fun ρ => bindR (fa ρ) fun a ρ1 => bindR (fl ρ1) fun lo ρ2 => bindR (fh ρ2) fun hi ρ3 => optR (deref ρ3 a) fun d => optR (kCut d lo hi) fun z => .ok (.val z) ρ3
def xCutL (fa : DX) (fl fh : DEnv → Res (Option Int)) : DEnv → Res Cell := fun ρ => bindR (fa ρ) fun a ρ1 => bindR (fl ρ1) fun lo ρ2 => bindR (fh ρ2) fun hi ρ3 => match deref ρ3 a with
  | some (.list ds) => .ok (.lst (cutD ds lo hi)) ρ3
  | _ => .bad
def rCutD (K : Frg) : V → Option Int → Option Int → Hp → VK → Prop := fun x lo hi H Q => ∃ O σ ρ a d z, RelEnv K O σ H ρ ∧ RelE K O σ ρ H x a ∧ deref ρ a = some d ∧ kCut d lo hi = some z ∧ ∀ u H', Same H H' → Dp K (Gv O σ ρ H') u z → Q u H'
theorem sl_data : SlR X (rCutD X.K) := by
  intro pins s σ H x v vl vu lo hi sl Q I rx hs pl pu ⟨O, σ', ρ, a, d, z, r, ea, hd, hk, q⟩
  unfold kCut at hk
  split at hk
  · rename_i ds
    cases hk
    obtain ⟨p, vs, rfl, s1, a1⟩ := RelE.tup ea r hd
    refine sl_tupA pins s σ H _ v vl vu lo hi sl Q I rx hs pl pu ⟨p, vs, rfl, SqT.mono Gv_sub s1, ?_, ?_⟩
    · intro hw
      have e : cutD ds lo hi = ds := by
        have hl := DL.DpAll.length a1
        unfold cutD
        rw [← hl, hw.1, hw.2, List.drop_zero, hl, Nat.sub_zero, List.take_length]
      exact q _ H (Same.refl _) (by rw [e]; exact .tup s1 a1)
    · intro hw p2 hp
      obtain ⟨m1, m2⟩ := dp_new r hp (cut_dp a1 lo hi)
      exact q _ _ m1 m2
  · rename_i z'
    split at hk
    · rename_i hz
      cases hk
      cases RelE.str ea r hd
      exact sl_str pins s σ H _ v vl vu lo hi sl Q I rx hs pl pu ⟨z', rfl, hz, q _ H (Same.refl _) (.str _)⟩
    · cases hk
  · cases hk
theorem de_cut {e : Expr} {lo hi : Option Expr} {p2 pos : Pos} {fa : DX} {fl fh : DEnv → Res (Option Int)} (ha : DE X W e fa) (hl : DP X W lo fl) (hh : DP X W hi fh) : DE X W (.Subscript e (.Slice lo hi none p2) pos) (xCut fa fl fh) := by
  refine ⟨pe_imp (pe_slice sl_data ha.pe hl.po hh.po) fun σ H Q ⟨O, ρ, r, s⟩ => ⟨O, ρ, r, (Sat.bind s).imp fun u H1 ⟨v, ρ1, r1, e1, s1⟩ => ⟨O, ρ1, r1, ?_⟩⟩⟩
  try dsimp only at s1
  cases q : fl ρ1 with
  | err x ρ2 => rw [q] at s1; exact s1
  | bad => rw [q] at s1; exact s1
  | ok lo ρ2 =>
    rw [q] at s1
    rintro _ H2 st2 r2 rfl
    have s2 := Sat.shift s1 st2
    refine ⟨O, ρ2, r2, ?_⟩
    dsimp only [bindR] at s2
    cases q3 : fh ρ2 with
    | err x ρ3 => rw [q3] at s2; exact s2
    | bad => rw [q3] at s2; exact s2
    | ok hi ρ3 =>
      rw [q3] at s2
      rintro _ H3 st3 r3 rfl
      have s3 := Sat.shift s2 st3
      obtain ⟨d, hd, s4⟩ := optR_sat s3
      obtain ⟨z, hz, s5⟩ := optR_sat s4
      exact ⟨O, σ, ρ3, v, d, z, r3, (RelE.mono e1 st2).mono st3, hd, hz, fun u' H' sm q' => s5 u' H' (.same sm) (r3.same sm) q'⟩
theorem dl_cut {e : Expr} {lo hi : Option Expr} {p2 pos : Pos} {fa : DX} {fl fh : DEnv → Res (Option Int)} (ha : DE X W e fa) (hl : DP X W lo fl) (hh : DP X W hi fh) : DLs X W (.Subscript e (.Slice lo hi none p2) pos) (xCutL fa fl fh) := by
  refine ⟨pe_imp (pe_slice sl_list ha.pe hl.po hh.po) fun σ H Q ⟨O, ρ, r, s⟩ => ⟨O, ρ, r, (SatL.bind s).imp fun u H1 ⟨v, ρ1, r1, e1, st1, s1⟩ => ⟨O, ρ1, r1, ?_⟩⟩⟩
  try dsimp only at s1
  cases q : fl ρ1 with
  | err x ρ2 => rw [q] at s1; exact s1
  | bad => rw [q] at s1; exact s1
  | ok lo ρ2 =>
    rw [q] at s1
    rintro _ H2 st2 r2 rfl
    have s2 := SatL.shift s1 st2 st2.none
    refine ⟨O, ρ2, r2, ?_⟩
    dsimp only [bindR] at s2
    cases q3 : fh ρ2 with
    | err x ρ3 => rw [q3] at s2; exact s2
    | bad => rw [q3] at s2; exact s2
    | ok hi ρ3 =>
      rw [q3] at s2
      rintro _ H3 st3 r3 rfl
      have s3 := SatL.shift s2 st3 st3.none
      dsimp only at s3
      split at s3
      · rename_i ds hd
        obtain ⟨p, vs, rfl, sq, a1⟩ := RelE.lst ((RelE.mono e1 st2).mono st3) r3 hd
        exact ⟨p, vs, rfl, sq, fun p2 hp => s3 p2 _ (.same (same_upd hp)) hp (.mk' r3 hp (cut_dp a1 _ _))⟩
      · exact s3.elim
end
end DL

namespace DL
open L2 PySem PySem.Spec PyProof.Rows
open PySem.W (AlikeAll minD maxD minD_ints maxD_ints min_list_data min_tuple_data max_list_data max_tuple_data)

def intsOf : List D → Option (List Int)
  | [] => some []
  | .int i :: ds => (intsOf ds).map (i :: ·)
  | _ :: _ => none
theorem intsOf_eq : ∀ {ds : List D} {ns : List Int}, intsOf ds = some ns → ds = ns.map PyData.int
  | [], _, h => by cases h; rfl
  | .int i :: ds, ns, h => by
    rw [intsOf] at h
    cases q : intsOf ds with
    | none => rw [q] at h; cases h
    | some ms => rw [q] at h; cases h; rw [intsOf_eq q]; rfl
  | .none :: ds, ns, h => by cases h
  | .bool _ :: ds, ns, h => by cases h
  | .str _ :: ds, ns, h => by cases h
  | .list _ :: ds, ns, h => by cases h
  | .tuple _ :: ds, ns, h => by cases h
  | .dict _ :: ds, ns, h => by cases h
@[simp] theorem intsOf_map (ns : List Int) : intsOf (ns.map PyData.int) = some ns := by
  induction ns with
  | nil => rfl
  | cons n ns ih => show (intsOf (ns.map PyData.int)).map (n :: ·) = _; rw [ih]; rfl
section
variable {X : Cx}
/-- one argument -/
theorem one_arg {K : Frg} {O : Addr → Prop} {σ : L2.St} {ρ : DEnv} {H : Hp} {xs : List V} {vs : List EV} {d : D} (r : RelEnv K O σ H ρ) (e : RelEs K O σ ρ H xs vs) (hd : derefs ρ vs = some [d]) : ∃ u a, xs = [u] ∧ RelE K O σ ρ H u a ∧ deref ρ a = some d := by
  match xs, vs, e with
  | [], [], _ => cases hd
  | [u], [a], e =>
    refine ⟨u, a, rfl, e.1, ?_⟩
    unfold derefs at hd
    split at hd
    · rename_i d' q
      cases hd
      exact q
    · cases hd
  | u :: v :: us, a :: b :: as, e =>
    unfold derefs at hd
    split at hd
    · split at hd
      · rename_i ds q
        cases hd
        unfold derefs at q
        split at q
        · split at q
          · cases q
          · cases q
        · cases q
      · cases hd
    · cases hd
def kLen : List D → Option D
  | [.list ds] => some (.int ds.length)
  | [.tuple ds] => some (.int ds.length)
  | [.str z] => if z.length ≤ sizeLine then some (.int z.length) else none
  | _ => none
theorem c_len : CallR X (.builtin "len") (rDn X.K kLen) := by
  intro pins s σ H xs us Q I rs ⟨O, σ', ρ, vs, ds, z, r, e, hd, hk, q⟩
  unfold kLen at hk
  split at hk
  · cases hk
    obtain ⟨u, a, rfl, ea, hda⟩ := one_arg r e hd
    obtain ⟨p, ws, rfl, s1, a1⟩ := RelE.lst ea r hda
    exact call_len pins s σ H _ us Q I rs ⟨_, ws.length, rfl, .inl ⟨ws, s1, rfl⟩, q _ H (Same.refl _) (by rw [DL.DpAll.length a1]; exact .int _)⟩
  · cases hk
    obtain ⟨u, a, rfl, ea, hda⟩ := one_arg r e hd
    obtain ⟨p, ws, rfl, s1, a1⟩ := RelE.tup ea r hda
    exact call_len pins s σ H _ us Q I rs ⟨_, ws.length, rfl, .inr ⟨ws, SqT.mono Gv_sub s1, rfl⟩, q _ H (Same.refl _) (by rw [DL.DpAll.length a1]; exact .int _)⟩
  · split at hk
    · rename_i hz
      cases hk
      obtain ⟨u, a, rfl, ea, hda⟩ := one_arg r e hd
      cases RelE.str ea r hda
      exact call_len pins s σ H _ us Q I rs ⟨_, _, rfl, ⟨hz, rfl⟩, q _ H (Same.refl _) (.int _)⟩
    · cases hk
  · cases hk
def kInt : List D → Option D
  | [.int i] => some (.int i)
  | [.bool b] => some (.int (if b then 1 else 0))
  | _ => none
theorem c_int : CallR X (.type "int") (rDn X.K kInt) := by
  intro pins s σ H xs us Q I rs ⟨O, σ', ρ, vs, ds, z, r, e, hd, hk, q⟩
  unfold kInt at hk
  split at hk
  · cases hk
    obtain ⟨u, a, rfl, ea, hda⟩ := one_arg r e hd
    cases RelE.int ea r hda
    exact call_int1 pins s σ H _ us Q I rs (.inl ⟨_, rfl, q _ H (Same.refl _) (.int _)⟩)
  · cases hk
    obtain ⟨u, a, rfl, ea, hda⟩ := one_arg r e hd
    cases RelE.bl ea r hda
    exact call_int1 pins s σ H _ us Q I rs (.inr ⟨_, rfl, q _ H (Same.refl _) (.int _)⟩)
  · cases hk
def kAbs : List D → Option D
  | [.int i] => some (.int (if i < 0 then -i else i))
  | _ => none
theorem c_abs : CallR X (.builtin "abs") (rDn X.K kAbs) := by
  intro pins s σ H xs us Q I rs ⟨O, σ', ρ, vs, ds, z, r, e, hd, hk, q⟩
  unfold kAbs at hk
  split at hk
  · cases hk
    obtain ⟨u, a, rfl, ea, hda⟩ := one_arg r e hd
    cases RelE.int ea r hda
    exact call_abs pins s σ H _ us Q I rs ⟨_, rfl, q _ H (Same.refl _) (.int _)⟩
  · cases hk

/-- a sequence as it stands in the heap -/
theorem seq_at {pins : List (Addr × Obj)} {s : Shared} {σ : L2.St} {H : Hp} {O : Addr → Prop} {σ' : L2.St} {ρ : DEnv} {u : V} {v : Value} {a : EV} {d : D} {ds : List D} (I : Inv X pins σ H s) (r : RelEnv X.K O σ' H ρ) (ea : RelE X.K O σ' ρ H u a) (hd : deref ρ a = some d) (hi : itemsD d = some ds) (rv : RelV u v) :
    ∃ (p : Addr) (ws : List V) (its : List Value) (bs : List Addr), u = .ref p ∧ v = .ref p ∧ Vals ws its ∧ DpAll X.K (Gv O σ' ρ H) ws ds ∧ ReadsAll s.heap its ds bs ∧ ws.length ≤ sizeLine ∧ ((d = .list ds ∧ s.heap.IsList p its.toArray ∧ SqL X.K H p ws) ∨ (d = .tuple ds ∧ s.heap.IsTuple p its.toArray ∧ SqT X.K H p ws)) := by
  cases d with
  | list xs =>
    cases hi
    obtain ⟨p, ws, rfl, s1, a1⟩ := RelE.lst ea r hd
    cases rv
    obtain ⟨its, r1, ⟨o, n, h1, h2, h3, h4⟩, z1⟩ := I.list s1
    obtain ⟨bs, hb⟩ := Dp.readsAll I ds ws its (dpAll_mono Gv_sub _ _ a1) r1
    exact ⟨p, ws, its, bs, rfl, rfl, r1, a1, hb, z1, .inl ⟨rfl, ⟨o, h1, h2, n, h4⟩, s1⟩⟩
  | tuple xs =>
    cases hi
    obtain ⟨p, ws, rfl, s1, a1⟩ := RelE.tup ea r hd
    cases rv
    obtain ⟨its, r1, ⟨o, h1, h2, n, h4⟩, z1⟩ := I.tuple (SqT.mono Gv_sub s1)
    obtain ⟨bs, hb⟩ := Dp.readsAll I ds ws its (dpAll_mono Gv_sub _ _ a1) r1
    exact ⟨p, ws, its, bs, rfl, rfl, r1, a1, hb, z1, .inr ⟨rfl, ⟨o, h1, h2, n, h4⟩, SqT.mono Gv_sub s1⟩⟩
  | none => cases hi
  | bool _ => cases hi
  | int _ => cases hi
  | str _ => cases hi
  | dict _ => cases hi
theorem depthInts : ∀ (ns : List Int), PyData.depthAll (ns.map PyData.int) = 0 := by
  intro ns
  induction ns with
  | nil => rfl
  | cons n ns ih => simp [PyData.depthAll, PyData.depth, ih]
theorem alikeInts (ns : List Int) : AlikeAll (ns.map PyData.int) := by
  refine ⟨fun x hx y hy => ?_, fun x hx => ?_⟩
  · obtain ⟨i, _, rfl⟩ := List.mem_map.mp hx
    obtain ⟨j, _, rfl⟩ := List.mem_map.mp hy
    rfl
  · obtain ⟨i, _, rfl⟩ := List.mem_map.mp hx
    exact fun z => nomatch z
def kMin : List D → Option D
  | [d] => match itemsD d with
    | some ds => match intsOf ds with
      | some (n :: ns) => some (.int (ns.foldl min n))
      | _ => none
    | none => none
  | _ => none
def kMax : List D → Option D
  | [d] => match itemsD d with
    | some ds => match intsOf ds with
      | some (n :: ns) => some (.int (ns.foldl max n))
      | _ => none
    | none => none
  | _ => none
theorem c_min (hc : X.calm = true) (hu : X.A.units + 200 < cLine) : CallR X (.builtin "min") (rDn X.K kMin) := by
  intro pins s σ H xs us Q I rs ⟨O, σ', ρ, vs, ds, z, r, e, hd, hk, q⟩
  unfold kMin at hk
  split at hk
  case h_2 => cases hk
  rename_i d
  split at hk
  case h_2 => cases hk
  rename_i l hi
  split at hk
  case h_2 => cases hk
  rename_i n ns hn
  cases hk
  obtain ⟨u, a, rfl, ea, hda⟩ := one_arg r e hd
  obtain ⟨v, rfl, rv⟩ := vals1 rs
  obtain ⟨p, ws, its, bs, rfl, rfl, rw', a1, hb, z1, h⟩ := seq_at I r ea hda hi rv
  have hl := intsOf_eq hn
  subst hl
  have hh := I.ok.hd hc
  have fin : ∀ (i : Nat) (v : Value) (h' : Heap) (tk : Nat) (bs : List Addr), its.toArray[i]? = some v → Reads h' v (minD (.int n) (ns.map .int)) bs → (∀ b o, s.heap.get? b = some o → h'.get? b = some o) → EP X pins σ Q v { s with heap := h', toks := tk } := fun i v h' tk bs hv rd hk => by
    rw [minD_ints] at rd
    cases rd
    exact ⟨.int _, H, I.kept (t' := tk) hk, ⟨_, rfl⟩, q _ H (Same.refl _) (.int _)⟩
  have hdp : X.A.units + 1 + PyData.depthAll (PyData.int n :: ns.map PyData.int) < cLine := by
    have := depthInts (n :: ns)
    rw [List.map_cons] at this
    omega
  rcases h with ⟨rfl, h, _⟩ | ⟨rfl, h, _⟩
  · exact min_list_data hh h hb (alikeInts (n :: ns)) hdp fin
  · exact min_tuple_data hh h hb (alikeInts (n :: ns)) hdp fin
theorem c_max (hc : X.calm = true) (hu : X.A.units + 200 < cLine) : CallR X (.builtin "max") (rDn X.K kMax) := by
  intro pins s σ H xs us Q I rs ⟨O, σ', ρ, vs, ds, z, r, e, hd, hk, q⟩
  unfold kMax at hk
  split at hk
  case h_2 => cases hk
  rename_i d
  split at hk
  case h_2 => cases hk
  rename_i l hi
  split at hk
  case h_2 => cases hk
  rename_i n ns hn
  cases hk
  obtain ⟨u, a, rfl, ea, hda⟩ := one_arg r e hd
  obtain ⟨v, rfl, rv⟩ := vals1 rs
  obtain ⟨p, ws, its, bs, rfl, rfl, rw', a1, hb, z1, h⟩ := seq_at I r ea hda hi rv
  have hl := intsOf_eq hn
  subst hl
  have hh := I.ok.hd hc
  have fin : ∀ (i : Nat) (v : Value) (h' : Heap) (tk : Nat) (bs : List Addr), its.toArray[i]? = some v → Reads h' v (maxD (.int n) (ns.map .int)) bs → (∀ b o, s.heap.get? b = some o → h'.get? b = some o) → EP X pins σ Q v { s with heap := h', toks := tk } := fun i v h' tk bs hv rd hk => by
    rw [maxD_ints] at rd
    cases rd
    exact ⟨.int _, H, I.kept (t' := tk) hk, ⟨_, rfl⟩, q _ H (Same.refl _) (.int _)⟩
  have hdp : X.A.units + 1 + PyData.depthAll (PyData.int n :: ns.map PyData.int) < cLine := by
    have := depthInts (n :: ns)
    rw [List.map_cons] at this
    omega
  rcases h with ⟨rfl, h, _⟩ | ⟨rfl, h, _⟩
  · exact max_list_data hh h hb (alikeInts (n :: ns)) hdp fin
  · exact max_tuple_data hh h hb (alikeInts (n :: ns)) hdp fin
end
end DL

namespace DL
open L2 PySem PySem.Spec PyProof.Rows
section
variable {X : Cx}
def kSum : List D → Option D
  | [d] => match itemsD d with
    | some ds => match intsOf ds with
      | some ns => some (.int ns.sum)
      | none => none
    | none => none
  | _ => none
theorem sum_tup {prog : Program} {w : World} {A : Around} {E : Value → Shared → Prop} {s : Shared} {t : Addr} {its : List Value} {ns : List Int} {Q : Value → Shared → Prop} (hh : A.handled = none) (ht : s.heap.IsTuple t its.toArray) (hi : IntsAre its ns)
    (h : ∀ h' tk t', (∀ b o, s.heap.get? b = some o → h'.get? b = some o) → Q (.int ns.sum t') { s with heap := h', toks := tk }) : wpAny (model prog w) A (call (.builtin "sum") [.ref t]) Q E s := by
  obtain ⟨xs, hx⟩ := hi.allInts.items
  have hn : numsOf (intItems xs).toList = ns := by rw [← hx]; simpa using hi.numsOf
  rw [nums_intItems] at hn
  rw [hx] at ht
  refine PySem.W.ktm_sumG hh ht fun h' tk t' hk => ?_
  have z := h h' tk t' hk
  rw [preSum_eq, List.take_of_length_le (by simp), hn]
  exact z
theorem c_sum (hc : X.calm = true) : CallR X (.builtin "sum") (rDn X.K kSum) := by
  intro pins s σ H xs us Q I rs ⟨O, σ', ρ, vs, ds, z, r, e, hd, hk, q⟩
  unfold kSum at hk
  split at hk
  case h_2 => cases hk
  rename_i d
  split at hk
  case h_2 => cases hk
  rename_i l hi
  split at hk
  case h_2 => cases hk
  rename_i ns hn
  cases hk
  obtain ⟨u, a, rfl, ea, hda⟩ := one_arg r e hd
  obtain ⟨v, rfl, rv⟩ := vals1 rs
  obtain ⟨p, ws, its, bs, rfl, rfl, rw', a1, hb, z1, h⟩ := seq_at I r ea hda hi rv
  have hl := intsOf_eq hn
  subst hl
  have hw := DL.DpAll.ints a1
  subst hw
  have hh := I.ok.hd hc
  rcases h with ⟨rfl, h, _⟩ | ⟨rfl, h, _⟩
  · exact sum_raw hh h rw'.ints fun h' tk t' hk => ⟨.int _, H, I.kept (t' := tk) hk, ⟨_, rfl⟩, q _ H (Same.refl _) (.int _)⟩
  · exact sum_tup hh h rw'.ints fun h' tk t' hk => ⟨.int _, H, I.kept (t' := tk) hk, ⟨_, rfl⟩, q _ H (Same.refl _) (.int _)⟩
/-- the truth of flat items -/
def truF : D → Option Bool
  | .none => some false
  | .bool b => some b
  | .int i => some (i != 0)
  | _ => none
def trusF : List D → Option (List Bool)
  | [] => some []
  | d :: ds => match truF d with
    | some b => (trusF ds).map (b :: ·)
    | none => none
theorem trusF_ok : ∀ {ds : List D} {bs : List Bool}, trusF ds = some bs → PyData.plainAll ds = true ∧ (∀ x ∈ ds, x.fits63) ∧ ds.map PyData.truthy = bs
  | [], bs, h => by cases h; exact ⟨rfl, (fun _ h => nomatch h), rfl⟩
  | d :: ds, bs, h => by
    rw [trusF] at h
    cases hb : truF d with
    | none => rw [hb] at h; cases h
    | some b =>
      rw [hb] at h
      dsimp only at h
      cases hs : trusF ds with
      | none => rw [hs] at h; cases h
      | some cs =>
        rw [hs] at h
        cases h
        obtain ⟨h1, h2, h3⟩ := trusF_ok hs
        cases d with
        | none => cases hb; exact ⟨by simpa [PyData.plainAll, PyData.plain] using h1, fun x hx => (List.mem_cons.mp hx).elim (fun z => by subst z; trivial) (h2 x), by simp [PyData.truthy, h3]⟩
        | bool c => cases hb; exact ⟨by simpa [PyData.plainAll, PyData.plain] using h1, fun x hx => (List.mem_cons.mp hx).elim (fun z => by subst z; trivial) (h2 x), by simp [PyData.truthy, h3]⟩
        | int i => cases hb; exact ⟨by simpa [PyData.plainAll, PyData.plain] using h1, fun x hx => (List.mem_cons.mp hx).elim (fun z => by subst z; trivial) (h2 x), by simp [PyData.truthy, h3]⟩
        | str _ => cases hb
        | list _ => cases hb
        | tuple _ => cases hb
        | dict _ => cases hb
def kAny : List D → Option D
  | [d] => match itemsD d with
    | some ds => (trusF ds).map fun bs => .bool (bs.any id)
    | none => none
  | _ => none
def kAll : List D → Option D
  | [d] => match itemsD d with
    | some ds => (trusF ds).map fun bs => .bool (bs.all id)
    | none => none
  | _ => none
theorem c_any (hc : X.calm = true) : CallR X (.builtin "any") (rDn X.K kAny) := by
  intro pins s σ H xs us Q I rs ⟨O, σ', ρ, vs, ds, z, r, e, hd, hk, q⟩
  unfold kAny at hk
  split at hk
  case h_2 => cases hk
  rename_i d
  split at hk
  case h_2 => cases hk
  rename_i l hi
  cases hn : trusF l with
  | none => rw [hn] at hk; cases hk
  | some bs =>
    rw [hn] at hk
    cases hk
    obtain ⟨u, a, rfl, ea, hda⟩ := one_arg r e hd
    obtain ⟨v, rfl, rv⟩ := vals1 rs
    obtain ⟨p, ws, its, as, rfl, rfl, rw', a1, hb, z1, h⟩ := seq_at I r ea hda hi rv
    obtain ⟨h1, h2, rfl⟩ := trusF_ok hn
    have hh := I.ok.hd hc
    have fin : ∀ (h' : Heap) (tk : Nat), (∀ b o, s.heap.get? b = some o → h'.get? b = some o) → EP X pins σ Q (.bool (l.any PyData.truthy)) { s with heap := h', toks := tk } := fun h' tk hk =>
      ⟨.bl _, H, I.kept (t' := tk) hk, rfl, q _ H (Same.refl _) (by show Dp _ _ _ (.bool ((l.map _).any id)); rw [List.any_map]; exact .bl _)⟩
    rcases h with ⟨rfl, h, _⟩ | ⟨rfl, h, _⟩
    · exact PySem.W.any_list_data hh h hb h1 h2 fin
    · exact PySem.W.any_tuple_data hh h hb h1 h2 fin
theorem c_all (hc : X.calm = true) : CallR X (.builtin "all") (rDn X.K kAll) := by
  intro pins s σ H xs us Q I rs ⟨O, σ', ρ, vs, ds, z, r, e, hd, hk, q⟩
  unfold kAll at hk
  split at hk
  case h_2 => cases hk
  rename_i d
  split at hk
  case h_2 => cases hk
  rename_i l hi
  cases hn : trusF l with
  | none => rw [hn] at hk; cases hk
  | some bs =>
    rw [hn] at hk
    cases hk
    obtain ⟨u, a, rfl, ea, hda⟩ := one_arg r e hd
    obtain ⟨v, rfl, rv⟩ := vals1 rs
    obtain ⟨p, ws, its, as, rfl, rfl, rw', a1, hb, z1, h⟩ := seq_at I r ea hda hi rv
    obtain ⟨h1, h2, rfl⟩ := trusF_ok hn
    have hh := I.ok.hd hc
    have fin : ∀ (h' : Heap) (tk : Nat), (∀ b o, s.heap.get? b = some o → h'.get? b = some o) → EP X pins σ Q (.bool (l.all PyData.truthy)) { s with heap := h', toks := tk } := fun h' tk hk =>
      ⟨.bl _, H, I.kept (t' := tk) hk, rfl, q _ H (Same.refl _) (by show Dp _ _ _ (.bool ((l.map _).all id)); rw [List.all_map]; exact .bl _)⟩
    rcases h with ⟨rfl, h, _⟩ | ⟨rfl, h, _⟩
    · exact PySem.W.all_list_data hh h hb h1 h2 fin
    · exact PySem.W.all_tuple_data hh h hb h1 h2 fin

/-! ### tuple(x), list(x) -/
def kTuple : List D → Option D
  | [.list ds] => some (.tuple ds)
  | [.tuple ds] => some (.tuple ds)
  | _ => none
theorem c_tuple : CallR X (.type "tuple") (rDn X.K kTuple) := by
  intro pins s σ H xs us Q I rs ⟨O, σ', ρ, vs, ds, z, r, e, hd, hk, q⟩
  unfold kTuple at hk
  split at hk
  · cases hk
    obtain ⟨u, a, rfl, ea, hda⟩ := one_arg r e hd
    obtain ⟨p, ws, rfl, s1, a1⟩ := RelE.lst ea r hda
    refine call_tuple_of pins s σ H _ us Q I rs ⟨p, ws, rfl, .inl ⟨s1, fun l hl => ?_⟩⟩
    obtain ⟨m1, m2⟩ := dp_new r hl a1
    exact q _ _ m1 m2
  · cases hk
    obtain ⟨u, a, rfl, ea, hda⟩ := one_arg r e hd
    obtain ⟨p, ws, rfl, s1, a1⟩ := RelE.tup ea r hda
    exact call_tuple_of pins s σ H _ us Q I rs ⟨p, ws, rfl, .inr ⟨SqT.mono Gv_sub s1, q _ H (Same.refl _) (.tup s1 a1)⟩⟩
  · cases hk
def kList : List D → Option (List D)
  | [.list ds] => some ds
  | [.tuple ds] => some ds
  | _ => none
theorem c_list : CallR X (.type "list") (rDnL X.K kList) := by
  intro pins s σ H xs us Q I rs ⟨O, σ', ρ, vs, ds, z, r, e, hd, hk, q⟩
  unfold kList at hk
  split at hk
  · cases hk
    obtain ⟨u, a, rfl, ea, hda⟩ := one_arg r e hd
    obtain ⟨p, ws, rfl, s1, a1⟩ := RelE.lst ea r hda
    exact call_list_of pins s σ H _ us Q I rs ⟨p, ws, rfl, .inl s1, fun l hl => q l ws hl a1⟩
  · cases hk
    obtain ⟨u, a, rfl, ea, hda⟩ := one_arg r e hd
    obtain ⟨p, ws, rfl, s1, a1⟩ := RelE.tup ea r hda
    exact call_list_of pins s σ H _ us Q I rs ⟨p, ws, rfl, .inr (SqT.mono Gv_sub s1), fun l hl => q l ws hl a1⟩
  · cases hk
def kGcd : List D → Option D
  | [.int i, .int j] => some (.int (Nat.gcd i.natAbs j.natAbs : Nat))
  | _ => none
theorem two_args {K : Frg} {O : Addr → Prop} {σ : L2.St} {ρ : DEnv} {H : Hp} {xs : List V} {vs : List EV} {d d2 : D} (r : RelEnv K O σ H ρ) (e : RelEs K O σ ρ H xs vs) (hd : derefs ρ vs = some [d, d2]) : ∃ u a u2 a2, xs = [u, u2] ∧ RelE K O σ ρ H u a ∧ deref ρ a = some d ∧ RelE K O σ ρ H u2 a2 ∧ deref ρ a2 = some d2 := by
  match xs, vs, e with
  | [], [], _ => cases hd
  | u :: us, a :: as, e =>
    unfold derefs at hd
    split at hd
    · rename_i d' q
      split at hd
      · rename_i ds' q2
        cases hd
        obtain ⟨u2, a2, rfl, h1, h2⟩ := one_arg r e.2 q2
        exact ⟨u, a, u2, a2, rfl, e.1, q, h1, h2⟩
      · cases hd
    · cases hd
theorem c_gcd : CallR X (.builtin "math.gcd") (rDn X.K kGcd) := by
  intro pins s σ H xs us Q I rs ⟨O, σ', ρ, vs, ds, z, r, e, hd, hk, q⟩
  unfold kGcd at hk
  split at hk
  · cases hk
    obtain ⟨u, a, u2, a2, rfl, ea, hda, ea2, hda2⟩ := two_args r e hd
    cases RelE.int ea r hda
    cases RelE.int ea2 r hda2
    exact cr_gcd pins s σ H _ us Q I rs ⟨_, _, rfl, q _ H (Same.refl _) (.int _)⟩
  · cases hk

/-! ### repr -/
def kRepr : List D → Option D
  | [d] => if d.showable = true ∧ d.hasDict = false ∧ d.depth ≤ 64 ∧ d.shown.length ≤ sizeLine then some (.str d.shown) else none
  | _ => none
theorem c_repr (hg : X.A.guards = some []) (hu : X.A.units + 200 < cLine) : CallR X (.builtin "repr") (rDn X.K kRepr) := by
  intro pins s σ H xs us Q I rs ⟨O, σ', ρ, vs, ds, z, r, e, hd, hk, q⟩
  unfold kRepr at hk
  split at hk
  case h_2 => cases hk
  rename_i d
  split at hk
  case isFalse => cases hk
  rename_i hz
  cases hk
  obtain ⟨u, a, rfl, ea, hda⟩ := one_arg r e hd
  obtain ⟨v, rfl, rv⟩ := vals1 rs
  have dp := ea.dp r hda
  obtain ⟨as, rd⟩ := Dp.reads I d u v dp rv
  cases d with
  | none => cases dp; cases rv; exact PySem.P.repr_of_none ⟨.str _, H, I.tok _, ⟨_, rfl⟩, q _ H (Same.refl _) (.str _)⟩
  | bool b => cases dp; cases rv; exact PySem.P.repr_of_bool ⟨.str _, H, I.tok _, ⟨_, rfl⟩, q _ H (Same.refl _) (.str _)⟩
  | int i =>
    cases dp
    obtain ⟨t, rfl⟩ := rv
    exact PySem.P.repr_of_int (of_decide_eq_true hz.1) ⟨.str _, H, I.tok _, ⟨_, rfl⟩, q _ H (Same.refl _) (.str _)⟩
  | str x =>
    cases dp
    obtain ⟨t, rfl⟩ := rv
    exact PySem.P.repr_of_str ⟨.str _, H, I.tok _, ⟨_, rfl⟩, q _ H (Same.refl _) (.str _)⟩ hz.2.2.2
  | list l =>
    cases dp with
    | lst s1 a1 =>
      cases rv
      exact repr_of_reads' rd hz.1 (fun h => by rw [hz.2.1] at h; cases h) hg (by have := hz.2.2.1; omega) (fun _ _ e => e) (fun h' u' tk hk => ⟨.str _, H, I.kept (t' := tk) hk, ⟨_, rfl⟩, q _ H (Same.refl _) (.str _)⟩) hz.2.2.2
  | tuple l =>
    cases dp with
    | tup s1 a1 =>
      cases rv
      exact repr_of_reads' rd hz.1 (fun h => by rw [hz.2.1] at h; cases h) hg (by have := hz.2.2.1; omega) (fun _ _ e => e) (fun h' u' tk hk => ⟨.str _, H, I.kept (t' := tk) hk, ⟨_, rfl⟩, q _ H (Same.refl _) (.str _)⟩) hz.2.2.2
  | dict _ => cases dp
variable {W : WX}
/-- f(e, ..), f a module's name of a built-in -/
theorem de_cbg {x : Str} {p pos : Pos} {e : Expr} {es : List Expr} {g : DEnv → Res (List EV)} {id : String} {k : List D → Option D} (hc : CallR X (.builtin id) (rDn X.K k)) (hm : X.mg x = some (.builtin id)) (ha : DA X W (e :: es) g) (hg : Gl X x := by rfl) (hdb : (x == ("__debug__" : Str)) = false := by decide)
    (he : starEach (e :: es) X.env = (false, eval e X.env) :: starEach es X.env := by rfl) (hpl : (backTo pos (starEach es X.env)).any (·.1) = false := by rfl) : DE X W (.Call (.Name x p) (e :: es) [] pos) (xCB k g) :=
  ⟨pe_imp (pe_callBfun hc hg hm ha.pa hdb he hpl) fun _ _ _ h => cb_core h⟩
end
end DL

namespace DL
open L2 PySem PySem.Spec PyProof.Rows

section
variable {K : Frg} {O : Addr → Prop} {σ : L2.St} {ρ : DEnv} {H : Hp}
theorem ow_put {i : Nat} {b : Bool} {c c' : Cell} (e : ρ[i]? = some (some (.own b c))) (x : Addr) : Ow σ (ρ.set i (some (.own b c'))) x ↔ Ow σ ρ x := by
  have hi : i < ρ.length := (List.getElem?_eq_some_iff.mp e).1
  constructor
  · rintro ⟨j, b2, c2, e1, e2⟩
    by_cases hj : i = j
    · subst hj; exact ⟨i, b, c, e, e2⟩
    · rw [List.getElem?_set_ne hj] at e1; exact ⟨j, b2, c2, e1, e2⟩
  · rintro ⟨j, b2, c2, e1, e2⟩
    by_cases hj : i = j
    · subst hj; exact ⟨i, b, c', List.getElem?_set_self hi, e2⟩
    · exact ⟨j, b2, c2, by rw [List.getElem?_set_ne hj]; exact e1, e2⟩
/-- what a name owns is changed in its place; nothing else that stood there is -/
theorem put_gen {i : Nat} {b : Bool} {c c' : Cell} {a : Addr} {H' : Hp} (r : RelEnv K O σ H ρ) (e : ρ[i]? = some (some (.own b c))) (hs : σ[i]? = some (some (.ref a))) (ext : ∀ x o, H x = some o → x ≠ a → H' x = some o) (al : ∀ x, H x ≠ none → H' x ≠ none)
    (hc : CellOk K (Gv O σ (ρ.set i (some (.own b c'))) H') H' a c') :
    RelEnv K O σ H' (ρ.set i (some (.own b c'))) ∧ EStp σ ρ H (ρ.set i (some (.own b c'))) H' := by
  have hi : i < ρ.length := (List.getElem?_eq_some_iff.mp e).1
  have st : EStp σ ρ H (ρ.set i (some (.own b c'))) H' := by
    refine ⟨fun x u h n => ext x u h fun z => n ⟨i, b, c, e, by rw [z]; exact hs⟩, al, fun x h => (ow_put e x).mp h, fun j c2 h => ?_⟩
    by_cases hj : i = j
    · subst hj
      rw [e] at h
      cases h
      exact ⟨c', List.getElem?_set_self hi⟩
    · exact ⟨c2, by rw [List.getElem?_set_ne hj]; exact h⟩
  have gv := st.gv (O := O)
  refine ⟨⟨by rw [List.length_set]; exact r.len, fun x hx => al x (r.oa x hx), fun j d h => ?_, fun j b2 c2 h => ?_, fun j k x b2 c2 b3 c3 h1 h2 h3 h4 => ?_, fun j x h => ?_⟩, st⟩
  · have hj : i ≠ j := by rintro rfl; rw [List.getElem?_set_self hi] at h; cases h
    rw [List.getElem?_set_ne hj] at h
    obtain ⟨v, h1, h2⟩ := r.val j d h
    exact ⟨v, h1, dp_mono gv _ _ h2⟩
  · by_cases hj : i = j
    · subst hj
      rw [List.getElem?_set_self hi] at h
      cases h
      obtain ⟨a', h1, h2, h3⟩ := r.own i b c e
      rw [hs] at h1
      cases h1
      exact ⟨a, hs, h2, hc⟩
    · rw [List.getElem?_set_ne hj] at h
      obtain ⟨a', h1, h2, h3⟩ := r.own j b2 c2 h
      have n : a' ≠ a := fun z => hj (r.inj i j a _ _ _ _ e h hs (by rw [← z]; exact h1))
      exact ⟨a', h1, h2, h3.mono gv fun u q => ext _ _ q n⟩
  · have key : ∀ {m : Nat} {b0 : Bool} {c0 : Cell}, (ρ.set i (some (.own b c')))[m]? = some (some (.own b0 c0)) → ∃ b1 c1, ρ[m]? = some (some (.own b1 c1)) := by
      intro m b0 c0 q
      by_cases hm : i = m
      · subst hm; exact ⟨b, c, e⟩
      · rw [List.getElem?_set_ne hm] at q; exact ⟨b0, c0, q⟩
    obtain ⟨_, _, k1⟩ := key h1
    obtain ⟨_, _, k2⟩ := key h2
    exact r.inj j k x _ _ _ _ k1 k2 h3 h4
  · have hj : i ≠ j := by rintro rfl; rw [List.getElem?_set_self hi] at h; cases h
    rw [List.getElem?_set_ne hj] at h
    exact r.raw j x h
theorem gv_put {i : Nat} {b : Bool} {c c' : Cell} {a : Addr} {o : HO} (e : ρ[i]? = some (some (.own b c))) (hs : σ[i]? = some (some (.ref a))) : ∀ x u, Gv O σ ρ H x = some u → Gv O σ (ρ.set i (some (.own b c'))) (upd H a o) x = some u := fun x u h => by
  obtain ⟨h1, h2, h3⟩ := of_Gv h
  have n : x ≠ a := fun z => h2 ⟨i, b, c, e, by rw [z]; exact hs⟩
  exact Gv_of h1 (fun q => h2 ((ow_put e x).mp q)) (by rw [upd_ne n]; exact h3)
theorem put_own {i : Nat} {b : Bool} {c c' : Cell} {a : Addr} {o : HO} (r : RelEnv K O σ H ρ) (e : ρ[i]? = some (some (.own b c))) (hs : σ[i]? = some (some (.ref a))) (hc : CellOk K (Gv O σ ρ H) (upd H a o) a c') :
    RelEnv K O σ (upd H a o) (ρ.set i (some (.own b c'))) ∧ EStp σ ρ H (ρ.set i (some (.own b c'))) (upd H a o) :=
  put_gen r e hs (fun x u h n => by rw [upd_ne n]; exact h) (fun x hx => by
    by_cases z : x = a
    · rw [z, upd_same]; exact fun z => nomatch z
    · rw [upd_ne z]; exact hx) (hc.mono (gv_put e hs) fun _ q => q)
end

/-! ### methods of a name's own list -/
/-- x.m(e, ..): upd_ tells the new list and the value from the old list and the arguments -/
def xM (i : Nat) (m : List D → List D → Option (D × List D)) (g : DEnv → Res (List EV)) : DX := fun ρ => match ρ[i]? with
  | some (some (.own _ (.lst _))) => bindR (g ρ) fun vs ρ1 => optR (keeps vs ρ1) fun p => match p.2[i]? with
    | some (some (.own b (.lst ds))) => optR (m ds p.1) fun q => .ok (.val q.1) (p.2.set i (some (.own b (.lst q.2))))
    | _ => .bad
  | _ => .bad
/-- what a method of a list is worth -/
def MOk (X : Cx) (id : String) (m : List D → List D → Option (D × List D)) : Prop :=
  ∃ r, MtR X id r ∧ ∀ (G H : Hp) (l : Addr) (xs args : List V) (ds as : List D) (z : D) (ds' : List D) (Q : VK), H l = some (.lst xs) → DpAll X.K G xs ds → DpAll X.K G args as → m ds as = some (z, ds') →
    (∀ u xs', Dp X.K G u z → DpAll X.K G xs' ds' → Q u (upd H l (.lst xs'))) → r (.ref l) args H Q
section
variable {X : Cx} {W : WX} {i : Nat} {e : Expr} {es : List Expr} {o : Expr} {apos cpos : Pos} {name : Str} {id : String} {m : List D → List D → Option (D × List D)}
theorem meth_core {r : V → List V → Hp → VK → Prop} {g : DEnv → Res (List EV)} {σ : L2.St} {H : Hp} {Q : VK} (hm : ∀ (G H : Hp) (l : Addr) (xs args : List V) (ds as : List D) (z : D) (ds' : List D) (Q : VK), H l = some (.lst xs) → DpAll X.K G xs ds → DpAll X.K G args as → m ds as = some (z, ds') →
    (∀ u xs', Dp X.K G u z → DpAll X.K G xs' ds' → Q u (upd H l (.lst xs'))) → r (.ref l) args H Q) (h : tDX X.K X.mg W (xM i m g) σ H Q) : tBM X.K "list" r (tVar i) (tDA X.K X.mg W g) σ H Q := by
  obtain ⟨O, ρ, rr, s⟩ := h
  unfold xM at s
  split at s
  case h_2 => exact s.elim
  rename_i b ds0 e0
  obtain ⟨a, h1, h2, vs0, h3, h4⟩ := rr.own i _ _ e0
  refine ⟨_, h1, .inl ⟨rfl, vs0, SqL.of h3⟩, O, ρ, rr, (Sat.bind s).imp fun us H1 ⟨vs, ρ1, r1, e1, s1⟩ => ?_⟩
  obtain ⟨⟨as, ρ2⟩, hk, s2⟩ := optR_sat s1
  obtain ⟨r2, st2, ha⟩ := keeps_ok r1 e1 hk
  dsimp only at s2
  split at s2
  case h_2 => exact s2.elim
  rename_i b2 ds e2
  obtain ⟨⟨z, ds'⟩, hz, s3⟩ := optR_sat s2
  obtain ⟨a2, k1, k2, xs, k3, k4⟩ := r2.own i _ _ e2
  rw [h1] at k1
  cases k1
  refine hm (Gv O σ ρ2 H1) H1 a xs us ds as z ds' Q k3 k4 ha hz fun u xs' hu hx => ?_
  obtain ⟨r3, st3⟩ := put_own (c' := .lst ds') (o := .lst xs') r2 e2 h1 ⟨xs', upd_same, hx⟩
  exact s3 u _ (st2.trans st3) r3 (dp_mono (gv_put e2 h1) _ _ hu)
theorem de_m (ho : PE X o (tVar i)) (slot : Slot "list" name id) (hty : typeOf (.builtin id) = pure (.type "method_descriptor")) (hm : MOk X id m) {g : DEnv → Res (List EV)} (ha : DA X W (e :: es) g)
    (hbase : attributeBase o name X.env (eval o X.env) = eval o X.env := by rfl)
    (hfew : ((backTo cpos (starEach (e :: es) X.env)).all (fun x => !x.1) && (backToKw cpos (keywordEach [] X.env)).all (fun x => x.1.isSome)
      && decide ((e :: es).length + ([] : List Keyword).length + (if ([] : List Keyword).isEmpty then 0 else 1) < 30)) = true := by rfl)
    (hline : (apos.endLine == cpos.line) = true := by rfl) (hs : starEach (e :: es) X.env = (false, eval e X.env) :: starEach es X.env := by rfl) (hplain : (backTo cpos (starEach es X.env)).any (·.1) = false := by rfl) :
    DE X W (.Call (.Attribute o name apos) (e :: es) [] cpos) (xM i m g) := by
  obtain ⟨r, h1, h2⟩ := hm
  exact ⟨pe_imp (pe_bm PySem.F.plainAttrs_list slot hty h1 ho ha.pa hbase hfew hline hs hplain) fun _ _ _ h => meth_core h2 h⟩
theorem de_m0 (ho : PE X o (tVar i)) (slot : Slot "list" name id) (hty : typeOf (.builtin id) = pure (.type "method_descriptor")) (hm : MOk X id m)
    (hbase : attributeBase o name X.env (eval o X.env) = eval o X.env := by rfl) (hline : (apos.endLine == cpos.line) = true := by rfl) : DE X W (.Call (.Attribute o name apos) [] [] cpos) (xM i m aNil) := by
  obtain ⟨r, h1, h2⟩ := hm
  refine ⟨pe_imp (pe_bm0 PySem.F.plainAttrs_list slot hty h1 ho hbase hline) fun σ H Q h => ?_⟩
  obtain ⟨v, k1, k2, O, ρ, r1, s⟩ := meth_core h2 h
  exact ⟨v, k1, k2, s [] H .refl r1 trivial⟩

/-! ### the methods -/
def mAppend : List D → List D → Option (D × List D) := fun ds as => match as with
  | [d] => if ds.length < sizeLine then some (.none, ds ++ [d]) else none
  | _ => none
theorem m_append : MOk X "list.append" mAppend := by
  refine ⟨rAppend, mt_append, fun G H l xs args ds as z ds' Q hl hx ha hz q => ?_⟩
  unfold mAppend at hz
  split at hz
  · rename_i d
    split at hz
    · rename_i hlen
      cases hz
      cases ha with
      | cons h1 h2 =>
        cases h2
        exact ⟨l, xs, _, rfl, rfl, hl, by rw [DL.DpAll.length hx]; exact hlen, q _ _ .non (DL.DpAll.append hx (.cons h1 .nil))⟩
    · cases hz
  · cases hz
def mPop : List D → List D → Option (D × List D) := fun ds as => match as with
  | [] => match ds.getLast? with
    | some d => some (d, ds.dropLast)
    | none => none
  | _ => none
theorem DpAll.dropLast {K : Frg} {G : Hp} {vs : List V} {ds : List D} (a : DpAll K G vs ds) : DpAll K G vs.dropLast ds.dropLast := by
  rw [List.dropLast_eq_take, List.dropLast_eq_take, DL.DpAll.length a]
  exact DL.DpAll.take _ a
theorem m_pop : MOk X "list.pop" mPop := by
  refine ⟨rPop, mt_pop, fun G H l xs args ds as z ds' Q hl hx ha hz q => ?_⟩
  unfold mPop at hz
  split at hz
  · split at hz
    · rename_i d hd
      cases hz
      cases ha
      rw [List.getLast?_eq_getElem?] at hd
      obtain ⟨v, h1, h2⟩ := DL.DpAll.at hx hd
      exact ⟨l, xs, v, rfl, rfl, hl, by rw [DL.DpAll.length hx]; exact h1, q _ _ h2 (DpAll.dropLast hx)⟩
    · cases hz
  · cases hz
def mReverse : List D → List D → Option (D × List D) := fun ds as => match as with
  | [] => some (.none, ds.reverse)
  | _ => none
theorem m_reverse : MOk X "list.reverse" mReverse := by
  refine ⟨rReverse, mt_reverse, fun G H l xs args ds as z ds' Q hl hx ha hz q => ?_⟩
  unfold mReverse at hz
  split at hz
  · cases hz
    cases ha
    exact ⟨l, xs, rfl, rfl, hl, q _ _ .non (DL.DpAll.reverse hx)⟩
  · cases hz
end

/-! ### x.extend(a new list), x[i] = e -/
def gExtend (i : Nat) (f : DEnv → Res Cell) : DSt := fun ρ => match ρ[i]? with
  | some (some (.own _ (.lst _))) => bindF (f ρ) fun c ρ1 => match c, ρ1[i]? with
    | .lst es, some (some (.own b (.lst ds))) => if ds.length + es.length ≤ sizeLine then .nx (ρ1.set i (some (.own b (.lst (ds ++ es))))) else .bad
    | _, _ => .bad
  | _ => .bad
section
variable {X : Cx} {W : WX} {i : Nat} {e : Expr} {o : Expr} {apos cpos pos : Pos}
theorem ds_extend {f : DEnv → Res Cell} (ho : PE X o (tVar i)) (he : DLs X W e f) (hs0 : swapsWith (.Call (.Attribute o "extend" apos) [e] [] cpos) none pos.line X.env = pure false := by rfl)
    (hbase : attributeBase o "extend" X.env (eval o X.env) = eval o X.env := by rfl)
    (hfew : ((backTo cpos (starEach [e] X.env)).all (fun x => !x.1) && (backToKw cpos (keywordEach [] X.env)).all (fun x => x.1.isSome)
      && decide ([e].length + ([] : List Keyword).length + (if ([] : List Keyword).isEmpty then 0 else 1) < 30)) = true := by rfl)
    (hline : (apos.endLine == cpos.line) = true := by rfl) (hs : starEach [e] X.env = (false, eval e X.env) :: starEach [] X.env := by rfl) (hplain : (backTo cpos (starEach [] X.env)).any (·.1) = false := by rfl) :
    DS X W (.Expr (.Call (.Attribute o "extend" apos) [e] [] cpos) pos) (gExtend i f) := by
  have hp := pe_bm (X := X) PySem.F.plainAttrs_list PySem.F.slot_list_extend PySem.F.type_list_extend mt_extend ho (pa_cons he.pe pa_nil hs) hbase hfew hline hs hplain
  refine ⟨ps_imp (ps_expr hp hs0) fun E σ H ⟨O, ρ, rr, s⟩ => ?_⟩
  unfold gExtend at s
  split at s
  case h_2 => exact s.elim
  rename_i b ds0 e0
  obtain ⟨a, h1, h2, vs0, h3, h4⟩ := rr.own i _ _ e0
  refine ⟨_, h1, .inl ⟨rfl, vs0, SqL.of h3⟩, O, ρ, rr, (SatS.bindL s).imp fun u H1 ⟨c, ρ1, p, hu, n, hp0, st, s1⟩ => ?_⟩
  subst hu
  try dsimp only at s1
  split at s1
  case h_2 => exact s1.elim
  rename_i es b2 ds e2
  split at s1
  case isFalse => exact s1.elim
  rename_i hlen
  obtain ⟨nr, n1, n2, ws, n3, n4⟩ := n
  obtain ⟨a2, k1, k2, xs, k3, k4⟩ := nr.own i _ _ e2
  rw [h1] at k1
  cases k1
  have l1 := DL.DpAll.length k4
  have l2 := DL.DpAll.length n4
  refine ⟨a, p, xs, ws, rfl, rfl, k3, n3, by omega, ?_⟩
  have r1 : RelEnv X.K O σ H1 ρ1 := nr.unhide
  obtain ⟨r3, st3⟩ := put_own (c' := .lst (ds ++ es)) (o := .lst (xs ++ ws)) r1 e2 h1 ⟨_, upd_same, DL.DpAll.append (dpAll_mono gv_hide _ _ k4) (dpAll_mono gv_hide _ _ n4)⟩
  exact s1 σ _ st3.s r3
end
end DL

namespace DL
open L2 PySem PySem.Spec PyProof.Rows

/-! ### defs whose first parameter is a list that they change -/
/-- the list, the other arguments; what comes back and the list behind it -/
abbrev IFn := List D → List D → Option (RV × List D)
def SatIF (K : Frg) (O : Addr → Prop) (a : Addr) (H : Hp) (Q : VK) : Option (RV × List D) → Prop
  | some (.val d, ds') => ∀ u H', (∀ b o, H b = some o → b ≠ a → H' b = some o) → (∀ b, H b ≠ none → H' b ≠ none) → CellOk K (Vis0 (fun b => O b ∨ b = a) H') H' a (.lst ds') → Dp K (Vis0 (fun b => O b ∨ b = a) H') u d → Q u H'
  | some (.own c, ds') => ∀ p H', (∀ b o, H b = some o → b ≠ a → H' b = some o) → (∀ b, H b ≠ none → H' b ≠ none) → H p = none → CellOk K (Vis0 (fun b => (O b ∨ b = a) ∨ b = p) H') H' a (.lst ds') →
      CellOk K (Vis0 (fun b => (O b ∨ b = a) ∨ b = p) H') H' p c → Q (.ref p) H'
  | none => False
def spI (K : Frg) (n : Nat) (F : IFn) : Sp := fun vs H Q _ => vs.length = n ∧ ∃ (O : Addr → Prop) (a : Addr) (us : List V) (ds es : List D), vs = .ref a :: us ∧ ¬ O a ∧ (∀ b, O b → H b ≠ none) ∧ CellOk K (Vis0 (fun b => O b ∨ b = a) H) H a (.lst ds) ∧
  DpAll K (Vis0 (fun b => O b ∨ b = a) H) us es ∧ SatIF K O a H Q (F ds es)

def valsOf : List EV → Option (List D)
  | [] => some []
  | .val d :: vs => match valsOf vs with
    | some ds => some (d :: ds)
    | none => none
  | .bor _ :: _ => none
theorem valsOf_rel {K : Frg} {O : Addr → Prop} {σ : L2.St} {ρ : DEnv} {H : Hp} : ∀ {us : List V} {vs : List EV} {ds : List D}, RelEs K O σ ρ H us vs → valsOf vs = some ds → DpAll K (Gv O σ ρ H) us ds
  | [], [], _, _, e => by cases e; exact .nil
  | u :: us, .val d :: vs, ds, h, e => by
    unfold valsOf at e
    split at e
    · rename_i ds' q
      cases e
      exact .cons h.1 (valsOf_rel h.2 q)
    · cases e
  | u :: us, .bor _ :: vs, ds, h, e => by cases e
  | [], _ :: _, _, h, _ => h.elim
  | _ :: _, [], _, h, _ => h.elim
theorem RelEs.len {K : Frg} {O : Addr → Prop} {σ : L2.St} {ρ : DEnv} {H : Hp} : ∀ {us : List V} {vs : List EV}, RelEs K O σ ρ H us vs → us.length = vs.length
  | [], [], _ => rfl
  | u :: us, v :: vs, h => by simp [RelEs.len h.2]
  | [], _ :: _, h => h.elim
  | _ :: _, [], h => h.elim

def xCallI (F : IFn) (g : DEnv → Res (List EV)) : DX := fun ρ => bindR (g ρ) fun vs ρ1 => match vs with
  | .bor i :: ws => optR (valsOf ws) fun es => match ρ1[i]? with
    | some (some (.own b (.lst ds))) => match F ds es with
      | some (.val d, ds') => .ok (.val d) (ρ1.set i (some (.own b (.lst ds'))))
      | some (.own (.lst l), ds') => .ok (.val (.list l)) (ρ1.set i (some (.own b (.lst ds'))))
      | _ => .bad
    | _ => .bad
  | _ => .bad
def xCallIL (F : IFn) (g : DEnv → Res (List EV)) : DEnv → Res Cell := fun ρ => bindR (g ρ) fun vs ρ1 => match vs with
  | .bor i :: ws => optR (valsOf ws) fun es => match ρ1[i]? with
    | some (some (.own b (.lst ds))) => match F ds es with
      | some (.own c, ds') => .ok c (ρ1.set i (some (.own b (.lst ds'))))
      | _ => .bad
    | _ => .bad
  | _ => .bad
section
variable {K : Frg} {mg : Mg} {O : Addr → Prop} {σ : L2.St} {ρ : DEnv} {H : Hp} {W : WX}
theorem hid_gv {i : Nat} {b : Bool} {c : Cell} {a : Addr} (e : ρ[i]? = some (some (.own b c))) (hs : σ[i]? = some (some (.ref a))) : ∀ x o, Gv O σ ρ H x = some o → Vis0 (fun x => (O x ∨ (Ow σ ρ x ∧ x ≠ a)) ∨ x = a) H x = some o := fun x o h => by
  obtain ⟨h1, h2, h3⟩ := of_Gv h
  exact vis0.mpr ⟨fun z => z.elim (fun z => z.elim h1 fun z => h2 z.1) fun z => h2 ⟨i, b, c, e, by rw [z]; exact hs⟩, h3⟩
theorem gv_hid {i : Nat} {b : Bool} {c c' : Cell} {a : Addr} {H' : Hp} (e : ρ[i]? = some (some (.own b c))) : ∀ x o, Vis0 (fun x => (O x ∨ (Ow σ ρ x ∧ x ≠ a)) ∨ x = a) H' x = some o → Gv O σ (ρ.set i (some (.own b c'))) H' x = some o := fun x o h => by
  obtain ⟨h1, h2⟩ := vis0.mp h
  exact Gv_of (fun z => h1 (.inl (.inl z))) (fun z => h1 (by
    by_cases q : x = a
    · exact .inr q
    · exact .inl (.inr ⟨(ow_put e x).mp z, q⟩))) h2
theorem io_pre {i : Nat} {b : Bool} {ds es : List D} {us : List V} {a : Addr} (r : RelEnv K O σ H ρ) (e : ρ[i]? = some (some (.own b (.lst ds)))) (hs : σ[i]? = some (some (.ref a))) (h2 : DpAll K (Gv O σ ρ H) us es) {F : IFn} {Q : VK} {n : Nat} {E : XK} (hn : us.length + 1 = n)
    (h : SatIF K (fun x => O x ∨ (Ow σ ρ x ∧ x ≠ a)) a H Q (F ds es)) : spI K n F (.ref a :: us) H Q E := by
  obtain ⟨a', k1, k2, k3⟩ := r.own i b _ e
  rw [hs] at k1
  cases k1
  refine ⟨by simpa using hn, _, a, us, ds, es, rfl, fun z => z.elim k2 fun z => z.2 rfl, fun x z => z.elim (r.oa x) fun z => ?_, k3.mono (hid_gv e hs) fun _ q => q, dpAll_mono (hid_gv e hs) _ _ h2, h⟩
  obtain ⟨o, ho⟩ := r.owSome z.1
  rw [ho]; exact fun z => nomatch z
theorem callI_core {n : Nat} {F : IFn} {u0 : V} {us : List V} {i : Nat} {b : Bool} {ws : List EV} {ds es : List D} {Q : VK} {E : XK} (r : RelEnv K O σ H ρ) (hu : σ[i]? = some (some u0)) (e : RelEs K O σ ρ H us ws) (hd : valsOf ws = some es) (hn : us.length + 1 = n) (hi : ρ[i]? = some (some (.own b (.lst ds))))
    (h : Sat K mg O σ ρ H W (fun ρ' H' u a => RelE K O σ ρ' H' u a) Q (match F ds es with
      | some (.val d, ds') => .ok (.val d) (ρ.set i (some (.own b (.lst ds'))))
      | some (.own (.lst l), ds') => .ok (.val (.list l)) (ρ.set i (some (.own b (.lst ds'))))
      | _ => .bad)) : spI K n F (u0 :: us) H Q E := by
  obtain ⟨a, k1, k2, k3⟩ := r.own i b _ hi
  rw [hu] at k1
  cases k1
  refine io_pre r hi hu (valsOf_rel e hd) hn ?_
  cases hF : F ds es with
  | none => rw [hF] at h; exact h.elim
  | some z =>
    obtain ⟨v, ds'⟩ := z
    rw [hF] at h
    cases v with
    | val d =>
      intro u H' ext al hc hdp
      obtain ⟨r', st⟩ := put_gen (c' := .lst ds') r hi hu ext al (hc.mono (gv_hid hi) fun _ q => q)
      exact h u H' st r' (dp_mono (gv_hid hi) _ _ hdp)
    | own c =>
      cases c with
      | dK _ => exact h.elim
      | dT _ => exact h.elim
      | lst l =>
        intro p H' ext al hp hc hc2
        have g2 : ∀ x o, Vis0 (fun b => ((O b ∨ (Ow σ ρ b ∧ b ≠ a)) ∨ b = a) ∨ b = p) H' x = some o → Gv O σ (ρ.set i (some (.own b (.lst ds')))) H' x = some o := fun x o q => gv_hid hi x o (vis0.mpr ⟨fun z => (vis0.mp q).1 (.inl z), (vis0.mp q).2⟩)
        obtain ⟨r', st⟩ := put_gen (c' := .lst ds') r hi hu ext al (hc.mono g2 fun _ q => q)
        obtain ⟨xs, h1, h2⟩ := hc2
        refine h _ H' st r' (L2.Dp.lst (SqL.of (Gv_of (r.fresh hp).1 (fun z => (r.fresh hp).2 ((ow_put hi p).mp z)) h1)) (dpAll_mono g2 _ _ h2))
theorem callI_coreL {n : Nat} {F : IFn} {u0 : V} {us : List V} {i : Nat} {b : Bool} {ws : List EV} {ds es : List D} {Q : VK} {E : XK} (r : RelEnv K O σ H ρ) (hu : σ[i]? = some (some u0)) (e : RelEs K O σ ρ H us ws) (hd : valsOf ws = some es) (hn : us.length + 1 = n) (hi : ρ[i]? = some (some (.own b (.lst ds))))
    (h : SatL K mg O σ ρ H W Q (match F ds es with
      | some (.own c, ds') => .ok c (ρ.set i (some (.own b (.lst ds'))))
      | _ => .bad)) : spI K n F (u0 :: us) H Q E := by
  obtain ⟨a, k1, k2, k3⟩ := r.own i b _ hi
  rw [hu] at k1
  cases k1
  refine io_pre r hi hu (valsOf_rel e hd) hn ?_
  cases hF : F ds es with
  | none => rw [hF] at h; exact h.elim
  | some z =>
    obtain ⟨v, ds'⟩ := z
    rw [hF] at h
    cases v with
    | val d => exact h.elim
    | own c =>
      intro p H' ext al hp hc hc2
      have g2 : ∀ x o, Vis0 (fun b => ((O b ∨ (Ow σ ρ b ∧ b ≠ a)) ∨ b = a) ∨ b = p) H' x = some o → Gv O σ (ρ.set i (some (.own b (.lst ds')))) H' x = some o := fun x o q => gv_hid hi x o (vis0.mpr ⟨fun z => (vis0.mp q).1 (.inl z), (vis0.mp q).2⟩)
      have g3 : ∀ x o, Vis0 (fun b => ((O b ∨ (Ow σ ρ b ∧ b ≠ a)) ∨ b = a) ∨ b = p) H' x = some o → Gv (fun b => O b ∨ b = p) σ (ρ.set i (some (.own b (.lst ds')))) H' x = some o := fun x o q => by
        obtain ⟨q1, q2, q3⟩ := of_Gv (g2 x o q)
        exact Gv_of (fun z => z.elim q1 fun z => (vis0.mp q).1 (.inr z)) q2 q3
      -- the list's new cell, and p hidden
      have rp : RelEnv K (fun b => O b ∨ b = p) σ (upd H p (.lst [])) ρ := r.hidden hp
      have n1 : ∀ x o, upd H p (.lst []) x = some o → x ≠ a → H' x = some o ∨ x = p := fun x o q hx => by
        by_cases z : x = p
        · exact .inr z
        · rw [upd_ne z] at q; exact .inl (ext x o q hx)
      obtain ⟨r', st⟩ := put_gen (c' := .lst ds') r hi hu ext al (hc.mono g2 fun _ q => q)
      refine h p H' st hp ⟨?_, (r.fresh hp).1, fun z => (r.fresh hp).2 ((ow_put hi p).mp z), hc2.mono g3 fun _ q => q⟩
      have gh : ∀ x o, Gv O σ ρ H x = some o → Gv (fun b => O b ∨ b = p) σ (ρ.set i (some (.own b (.lst ds')))) H' x = some o := fun x o q => by
        obtain ⟨q1, q2, q3⟩ := of_Gv (st.gv x o q)
        exact Gv_of (fun z => z.elim q1 (ne_of_none (of_Gv q).2.2 hp)) q2 q3
      have hil : i < ρ.length := (List.getElem?_eq_some_iff.mp hi).1
      refine ⟨r'.len, fun x q => ?_, fun j d q => ?_, fun j b2 c2 q => ?_, r'.inj, r'.raw⟩
      · rcases q with q | q
        · exact r'.oa x q
        · obtain ⟨o, ho⟩ := hc2.some
          rw [q, ho]; exact fun z => nomatch z
      · have hj : i ≠ j := by rintro rfl; rw [List.getElem?_set_self hil] at q; cases q
        rw [List.getElem?_set_ne hj] at q
        obtain ⟨v, h1, h2⟩ := r.val j d q
        exact ⟨v, h1, dp_mono gh _ _ h2⟩
      · by_cases hj : i = j
        · subst hj
          rw [List.getElem?_set_self hil] at q
          cases q
          exact ⟨a, hu, fun z => z.elim k2 (ne_of_none k3.some.choose_spec hp), hc.mono g3 fun _ q => q⟩
        · rw [List.getElem?_set_ne hj] at q
          obtain ⟨a2, h1, h2, h3⟩ := r.own j b2 c2 q
          obtain ⟨o, ho⟩ := h3.some
          have na : a2 ≠ a := fun z => hj (r.inj i j a _ _ _ _ hi q hu (by rw [← z]; exact h1))
          exact ⟨a2, h1, fun z => z.elim h2 (ne_of_none ho hp), h3.mono gh fun u q => ext _ _ q na⟩
end
section
variable {X : Cx} {W : WX} {x : Str} {p pos : Pos} {e : Expr} {es : List Expr} {k n : Nat} {ps : List Str} {F : IFn} {g : DEnv → Res (List EV)}
theorem de_callI (C : FOk X.prog X.w X.K X.mg X.base x k ps (spI X.K n F)) (hr : Room k X.A) (hx : ∀ σ, PassesAt (L2N.CX X.prog X.w) X σ (WE W σ)) (ha : DA X W (e :: es) g) (hl : (e :: es).length = n := by rfl) (hg : Gl X x := by rfl) (hdb : (x == ("__debug__" : Str)) = false := by decide)
    (he : starEach (e :: es) X.env = (false, eval e X.env) :: starEach es X.env := by rfl) (hpl : (backTo pos (starEach es X.env)).any (·.1) = false := by rfl) (hlen : ∀ ρ vs ρ', g ρ = .ok vs ρ' → vs.length = n) :
    DE X W (.Call (.Name x p) (e :: es) [] pos) (xCallI F g) := by
  obtain ⟨f, fd, Fo, hm, hk, hb⟩ := C
  refine ⟨pe_imp (pe_callS (E := WE W) Fo hr hg hm hk hb hx ha.pa hdb he hpl) fun σ H Q ⟨O, ρ, r, s⟩ => ⟨O, ρ, r, ?_⟩⟩
  unfold xCallI at s
  cases q : g ρ with
  | err x ρ1 => rw [q] at s; exact s
  | bad => rw [q] at s; exact s
  | ok vs ρ1 =>
    rw [q, bindR_ok] at s
    intro us H1 st r1 e1
    have s1 := Sat.shift s st
    have hln := hlen _ _ _ q
    have hul := RelEs.len e1
    try dsimp only at s1
    split at s1
    case h_2 => exact s1.elim
    rename_i i ws
    obtain ⟨es', hd, s2⟩ := optR_sat s1
    split at s2
    case h_2 => exact s2.elim
    rename_i b ds hi
    cases us with
    | nil => exact e1.elim
    | cons u0 us => exact callI_core r1 e1.1 e1.2 hd (by simp at hul hln; omega) hi s2
theorem dl_callI (C : FOk X.prog X.w X.K X.mg X.base x k ps (spI X.K n F)) (hr : Room k X.A) (hx : ∀ σ, PassesAt (L2N.CX X.prog X.w) X σ (WE W σ)) (ha : DA X W (e :: es) g) (hl : (e :: es).length = n := by rfl) (hg : Gl X x := by rfl) (hdb : (x == ("__debug__" : Str)) = false := by decide)
    (he : starEach (e :: es) X.env = (false, eval e X.env) :: starEach es X.env := by rfl) (hpl : (backTo pos (starEach es X.env)).any (·.1) = false := by rfl) (hlen : ∀ ρ vs ρ', g ρ = .ok vs ρ' → vs.length = n) :
    DLs X W (.Call (.Name x p) (e :: es) [] pos) (xCallIL F g) := by
  obtain ⟨f, fd, Fo, hm, hk, hb⟩ := C
  refine ⟨pe_imp (pe_callS (E := WE W) Fo hr hg hm hk hb hx ha.pa hdb he hpl) fun σ H Q ⟨O, ρ, r, s⟩ => ⟨O, ρ, r, ?_⟩⟩
  unfold xCallIL at s
  cases q : g ρ with
  | err x ρ1 => rw [q] at s; exact s
  | bad => rw [q] at s; exact s
  | ok vs ρ1 =>
    rw [q, bindR_ok] at s
    intro us H1 st r1 e1
    have s1 := SatL.shift s st st.none
    have hln := hlen _ _ _ q
    have hul := RelEs.len e1
    try dsimp only at s1
    split at s1
    case h_2 => exact s1.elim
    rename_i i ws
    obtain ⟨es', hd, s2⟩ := optR_satL s1
    split at s2
    case h_2 => exact s2.elim
    rename_i b ds hi
    cases us with
    | nil => exact e1.elim
    | cons u0 us => exact callI_coreL r1 e1.1 e1.2 hd (by simp at hul hln; omega) hi s2
end

/-! ### such a def's body -/
def cellAt0 (ρ : DEnv) : Option (List D) := match ρ[(0 : Nat)]? with
  | some (some (SV.own _ (Cell.lst ds))) => some ds
  | _ => none
def startI (m : Nat) (ds es : List D) : DEnv := some (.own true (.lst ds)) :: startD (m - 1) es
def runI (m : Nat) (body : DSt) : IFn := fun ds es => match body (startI m ds es) with
  | .nx ρ => (cellAt0 ρ).map fun l => (.val .none, l)
  | .rt v ρ => (cellAt0 ρ).map fun l => (v, l)
  | _ => none
section
variable {P : Program} {w : World} {K : Frg} {mg : Mg} {base : Heap}
theorem start_cons {N : List Str} {u : V} {us : List V} (h : 0 < N.length) : L2.start N (u :: us) = some u :: L2.start (N.drop 1) us := by
  unfold L2.start
  cases N with
  | nil => simp at h
  | cons y N => simp
theorem startI_rel {O : Addr → Prop} {N : List Str} {a : Addr} {us : List V} {ds es : List D} {H : Hp} (hN : 0 < N.length) (ha : ¬ O a) (ho : ∀ b, O b → H b ≠ none) (hc : CellOk K (Vis0 (fun b => O b ∨ b = a) H) H a (.lst ds)) (h : DpAll K (Vis0 (fun b => O b ∨ b = a) H) us es) :
    RelEnv K O (L2.start N (.ref a :: us)) H (startI N.length ds es) := by
  rw [start_cons hN]
  have r0 : RelEnv K (fun b => O b ∨ b = a) (L2.start (N.drop 1) us) H (startD (N.drop 1).length es) := start_rel (fun b q => q.elim (ho b) fun q => by obtain ⟨o, e⟩ := hc.some; rw [q, e]; exact fun z => nomatch z) h
  have hl : (N.drop 1).length = N.length - 1 := by simp
  rw [hl] at r0
  have only : ∀ (i : Nat) (b : Bool) (c : Cell), (startI N.length ds es)[i]? = some (some (.own b c)) → i = 0 ∧ b = true ∧ c = .lst ds := fun i b c e => by
    cases i with
    | zero => cases e; exact ⟨rfl, rfl, rfl⟩
    | succ i => exact absurd (show (startD (N.length - 1) es)[i]? = some (some (.own b c)) from e) startD_own
  have gv : ∀ x o, Vis0 (fun b => O b ∨ b = a) H x = some o → Gv O (some (.ref a) :: L2.start (N.drop 1) us) (startI N.length ds es) H x = some o := fun x o q => by
    obtain ⟨q1, q2⟩ := vis0.mp q
    refine Gv_of (fun z => q1 (.inl z)) (fun ⟨i, b, c, e1, e2⟩ => ?_) q2
    obtain ⟨rfl, _, _⟩ := only i b c e1
    cases e2
    exact q1 (.inr rfl)
  have gv0 : ∀ x o, Gv (fun b => O b ∨ b = a) (L2.start (N.drop 1) us) (startD (N.length - 1) es) H x = some o → Vis0 (fun b => O b ∨ b = a) H x = some o := fun x o q => vis0.mpr ⟨(of_Gv q).1, (of_Gv q).2.2⟩
  refine ⟨?_, ho, fun i d e => ?_, fun i b c e => ?_, fun i j x b c b' c' e1 e2 _ _ => ?_, fun i x e => ?_⟩
  · have := r0.len
    simp only [startI, List.length_cons, this]
  · cases i with
    | zero => cases e
    | succ i =>
      obtain ⟨v, h1, h2⟩ := r0.val i d e
      exact ⟨v, h1, dp_mono (fun x o q => gv x o (gv0 x o q)) _ _ h2⟩
  · obtain ⟨rfl, rfl, rfl⟩ := only i b c e
    exact ⟨a, rfl, ha, hc.mono gv fun _ q => q⟩
  · rw [(only i b c e1).1, (only j b' c' e2).1]
  · cases i with
    | zero => cases e
    | succ i => exact r0.raw i x e
/-- THE RULE for a def whose first parameter is a list that it changes -/
theorem fn_io {x qual : Str} {st : Stmt} {f : Addr} {fd : FuncData} {N ps : List Str} {k : Nat} {body : DSt} (F : Fun K x qual st f fd) (S : FnScope N ps (defScope st)) (hN : 0 < N.length)
    (hbody : ∀ (cdv : Value) (A : Around) (outer : List Env) (s : Shared) (H : Hp) (E : XK), Room k (A.deeper (envOfC qual (defScope st) s.heap.objs.size f cdv)) →
      L2N.Takes (cxN P w K mg base N qual st f cdv A outer s H E) (fun cls d _ H => E cls d H) → PassesOwn (model P w) (cxN P w K mg base N qual st f cdv A outer s H E).A (cxN P w K mg base N qual st f cdv A outer s H E).env (cxN P w K mg base N qual st f cdv A outer s H E).xe →
      DSs (cxN P w K mg base N qual st f cdv A outer s H E) (fun cls d _ H => E cls d H) (defBody st) body) :
    FnOk P w K mg base (L2N.CX P w) (k + 1) f fd ps (spI K ps.length (runI N.length body)) := by
  obtain ⟨oc, od, kV, doc, pm, an, cdv, ct, osl, rfl, lk, hcd⟩ := F.ex
  refine fn_of lk hcd S (fun vs H Q E h => h.1) fun A outer s H vs Q E hr h => ?_
  obtain ⟨hn, O, a, us, ds, es, rfl, ha, ho, hc, hd, h⟩ := h
  refine ⟨_, (hbody cdv A outer s H E hr (L2N.takes_of rfl rfl rfl rfl) (passes_of rfl)).pss, O, startI N.length ds es, startI_rel hN ha ho hc hd, ?_⟩
  have h0 : (startI N.length ds es)[0]? = some (some (.own true (.lst ds))) := rfl
  have s0 : (L2.start N (.ref a :: us))[0]? = some (some (V.ref a)) := by rw [start_cons hN]; rfl
  have only : ∀ b, Ow (L2.start N (.ref a :: us)) (startI N.length ds es) b → b = a := fun b ⟨i, io, c, e1, e2⟩ => by
    cases i with
    | zero => rw [s0] at e2; cases e2; rfl
    | succ i => exact absurd (show (startD (N.length - 1) es)[i]? = some (some (.own io c)) from e1) startD_own
  have ext : ∀ {σ' : L2.St} {ρ' : DEnv} {H' : Hp}, SStp (L2.start N (.ref a :: us)) (startI N.length ds es) H σ' ρ' H' → ∀ b o, H b = some o → b ≠ a → H' b = some o := fun st b o e n => st.ext b o e fun z => n (only b z)
  have at0 : ∀ {σ' : L2.St} {ρ' : DEnv} {H' : Hp}, SStp (L2.start N (.ref a :: us)) (startI N.length ds es) H σ' ρ' H' → σ'[0]? = some (some (V.ref a)) ∧ ∃ c', ρ'[0]? = some (some (.own true c')) := fun st => by
    obtain ⟨e1, c', e2⟩ := st.io 0 _ h0
    exact ⟨e1.trans s0, c', e2⟩
  have gvs : ∀ {O' : Addr → Prop} {σ' : L2.St} {ρ' : DEnv} {H' : Hp} {c' : Cell}, σ'[0]? = some (some (V.ref a)) → ρ'[0]? = some (some (.own true c')) → ∀ b o, Gv O' σ' ρ' H' b = some o → b ≠ a := fun e1 e2 b o q z => by
    obtain ⟨_, q2, _⟩ := of_Gv q
    exact q2 ⟨0, true, _, e2, by rw [z]; exact e1⟩
  show SatS K mg O (L2.start N (.ref a :: us)) (startI N.length ds es) H _ _ (body (startI N.length ds es))
  change SatIF K O a H Q (match body (startI N.length ds es) with
    | .nx ρ => (cellAt0 ρ).map fun l => (.val .none, l)
    | .rt v ρ => (cellAt0 ρ).map fun l => (v, l)
    | _ => none) at h
  have cell : ∀ {ρ' : DEnv} {c' : Cell} {l : List D}, ρ'[0]? = some (some (.own true c')) → cellAt0 ρ' = some l → c' = .lst l := fun e2 q => by
    unfold cellAt0 at q
    rw [e2] at q
    split at q
    · rename_i z; cases z; cases q; rfl
    · cases q
  cases q : body (startI N.length ds es) with
  | nx ρ' =>
    rw [q] at h
    dsimp only at h
    intro σ' H' st r
    obtain ⟨e1, c', e2⟩ := at0 st
    cases hl : cellAt0 ρ' with
    | none => rw [hl] at h; exact h.elim
    | some l =>
      rw [hl] at h
      obtain rfl := cell e2 hl
      obtain ⟨a', k1, k2, k3⟩ := r.own 0 _ _ e2
      rw [e1] at k1
      cases k1
      exact h .non H' (ext st) st.al (k3.mono (fun b o z => vis0.mpr ⟨fun y => y.elim (of_Gv z).1 (gvs e1 e2 b o z), (of_Gv z).2.2⟩) fun _ z => z) .non
  | rt v ρ' =>
    rw [q] at h
    dsimp only at h
    intro u σ' H' st r
    obtain ⟨e1, c', e2⟩ := at0 st
    cases hl : cellAt0 ρ' with
    | none => rw [hl] at h; exact h.elim
    | some l =>
      rw [hl] at h
      obtain rfl := cell e2 hl
      cases v with
      | val d =>
        obtain ⟨r1, r2⟩ := r
        obtain ⟨a', k1, k2, k3⟩ := r1.own 0 _ _ e2
        rw [e1] at k1
        cases k1
        have g : ∀ b o, Gv O σ' ρ' H' b = some o → Vis0 (fun b => O b ∨ b = a) H' b = some o := fun b o z => vis0.mpr ⟨fun y => y.elim (of_Gv z).1 (gvs e1 e2 b o z), (of_Gv z).2.2⟩
        exact h u H' (ext st) st.al (k3.mono g fun _ z => z) (dp_mono g _ _ r2)
      | own c =>
        obtain ⟨p, rfl, ⟨r1, r2, r3, r4⟩, r5⟩ := r
        obtain ⟨a', k1, k2, k3⟩ := r1.own 0 _ _ e2
        rw [e1] at k1
        cases k1
        have pa : p ≠ a := fun z => k2 (.inr z.symm)
        have g : ∀ b o, Gv (fun b => O b ∨ b = p) σ' ρ' H' b = some o → Vis0 (fun b => (O b ∨ b = a) ∨ b = p) H' b = some o := fun b o z => vis0.mpr ⟨fun y => y.elim (fun y => y.elim (fun y => (of_Gv z).1 (.inl y)) (gvs e1 e2 b o z)) fun y => (of_Gv z).1 (.inr y), (of_Gv z).2.2⟩
        exact h p H' (ext st) st.al (r5.elim (fun z => absurd (only p z) pa) fun z => z) (k3.mono g fun _ z => z) (r4.mono g fun _ z => z)
  | bk ρ' => rw [q] at h; exact h.elim
  | ct ρ' => rw [q] at h; exact h.elim
  | err x ρ' => rw [q] at h; exact h.elim
  | bad => rw [q] at h; exact h.elim
end
end DL

namespace DL
open L2 PySem PySem.Spec PyProof.Rows

/-! ### raise of an own class -/
/-- an own class of exceptions of the text, below ValueError -/
structure Own (K : Frg) (mg : Mg) (x : Str) (C : Addr) : Prop where
  xi : PySem.W.excIn K C [.type "ValueError", .type "Exception", .type "BaseException", .type "object"] "ValueError.__new__" = true
  gC : mg x = some (.ref C)
  kC : PySem.W.keepIn K (.ref C) = true
  s1 : PySem.W.subIn K (.ref C) (.type "BaseException") = some true
  s2 : PySem.W.typeIn K (.ref C) = some (.type "type")
def gRaise (x : Str) : DSt := fun ρ => .err ⟨x, none⟩ ρ
theorem ds_raise {X : Cx} {W : WX} {x m : Str} {C : Addr} {j : Nat} {p p2 pos1 pos : Pos} (c : Own X.K X.mg x C) (hc : X.calm = true) (tk : L2N.Takes X W) (hg : Gl X x := by rfl) (hdb : (x == ("__debug__" : Str)) = false := by decide) :
    DS X W (.Raise (some (.Call (.Name x p) [.Constant (.str m) j p2] [] pos1)) none pos) (gRaise x) := by
  refine ⟨ps_imp (L2N.ps_raise hc tk (L2N.pmk_own PySem.F.excBase_ValueError c.xi c.gC c.kC (raises_own c.s1 c.s2) hg hdb)) fun E σ H ⟨O, ρ, r, s⟩ => ?_⟩
  exact s (.ref C) none σ H .refl r ⟨C, c.gC, rfl, rfl⟩

/-! ### a def that is told a caught exception, called in the suite -/
structure KFn (P : Program) (w : World) (K : Frg) (mg : Mg) (base : Heap) (k : Nat) (f : Addr) (fd : FuncData) (ps : List Str) (C : Addr) (d : PyData) : Prop where
  one : ps.length = 1
  run : ∀ (A : Around) (outer : List Env) (s : Shared) (H : Hp) (args : Args) (us : List Value) (Q : VK) (p : Addr × Obj), L2H.RoomH k A → L2H.Hot1 A p → L2N.Zn (.ref C) none p.2 → L2H.PinOk outer H s p → Env0 P w K mg base A outer s H →
    BindsTo s fd args (ps.zip us) → Vals [V.ref p.1] us → (∀ u H', Same H H' → Dp K H' u d → Q u H') → codeAny (model P w) A (.call (.ref f) args) (CR (L2N.CX P w) outer P w H s Q (fun _ _ _ => False)) s
def startK (m : Nat) (a : Addr) : DEnv := some (.raw a) :: List.replicate (m - 1) none
theorem startK_own {m : Nat} {a : Addr} {i : Nat} {b : Bool} {c : Cell} : (startK m a)[i]? ≠ some (some (.own b c)) := by
  cases i with
  | zero => exact fun z => nomatch z
  | succ i =>
    show (List.replicate (m - 1) none)[i]? ≠ _
    rw [List.getElem?_replicate]
    split
    · exact fun z => nomatch z
    · exact fun z => nomatch z
theorem startK_rel {K : Frg} {N : List Str} {a : Addr} {H : Hp} (hN : 0 < N.length) : RelEnv K (fun _ => False) (L2.start N [V.ref a]) H (startK N.length a) := by
  have e : L2.start N [V.ref a] = some (.ref a) :: List.replicate (N.length - 1) none := rfl
  rw [e]
  refine ⟨by simp [startK], fun _ z => z.elim, fun i d q => ?_, fun i b c q => absurd q startK_own, fun i j x b c b' c' q => absurd q startK_own, fun i x q => ?_⟩
  · cases i with
    | zero => cases q
    | succ i =>
      have q' : (List.replicate (N.length - 1) (none : Option SV))[i]? = some (some (.val d)) := q
      rw [List.getElem?_replicate] at q'
      split at q' <;> cases q'
  · cases i with
    | zero => cases q; rfl
    | succ i =>
      have q' : (List.replicate (N.length - 1) (none : Option SV))[i]? = some (some (.raw x)) := q
      rw [List.getElem?_replicate] at q'
      split at q' <;> cases q'
theorem kfn_of {P : Program} {w : World} {K : Frg} {mg : Mg} {base : Heap} {x qual : Str} {st : Stmt} {f C : Addr} {fd : FuncData} {N ps : List Str} {k : Nat} {body : Addr → DSt} {d : PyData} (F : Fun K x qual st f fd) (S : FnScope N ps (defScope st)) (h1 : ps.length = 1) (hN : 0 < N.length)
    (hbody : ∀ (cdv : Value) (A : Around) (outer : List Env) (s : Shared) (H : Hp) (E : XK) (p : Addr × Obj), L2H.Hot1 A p → L2N.Zn (.ref C) none p.2 → L2H.RoomH k (A.deeper (envOfC qual (defScope st) s.heap.objs.size f cdv)) →
      DSs (L2H.cxH (L2N.CX P w) P w K mg base N qual (defScope st) f cdv A outer s H E p) W0 (defBody st) (body p.1))
    (hres : ∀ a, ∃ ρ', body a (startK N.length a) = .rt (.val d) ρ') : KFn P w K mg base (k + 1) f fd ps C d := by
  obtain ⟨oc, od, kV, doc, pm, an, cdv, ct, osl, rfl, lk, hcd⟩ := F.ex
  refine ⟨h1, fun A outer s H args us Q p hr hot hz hpin e0 hb rv hQ => ?_⟩
  -- a def for this exception alone: its promise speaks of this p
  have KX : K.In s.heap := e0.mod.kin.keeps fun b o e => (e0.bs b o e).1
  have kinds : ∀ y ∈ ps.zip us, (defScope st).names.lookup y.1 = some .local ∨ ((defScope st).names.lookup y.1 = some .cell ∧ ((cellsFrom (s.heap.objs.size + 1) (defScope st).names []).lookup y.1).isSome = true) := by
    rintro ⟨n, v⟩ hy
    exact (S.par n (List.of_mem_zip hy).1).imp (fun q => q) fun q => ⟨q, PySem.W.cellsFrom_some _ _ _ (.inl q)⟩
  refine codeAny_call_function hr.depth (KX _ _ lk) rfl S.co S.gen rfl (PySem.W.codeRec_of KX hcd) (hb _ _ _ _ (wpAny_newFunctionEnv_cells S.kind kinds fun env he s1 x => ?_))
  cases he
  refine ⟨(e0.mod.nolimit.keeps fun b o e => (e0.bs b o e).1).keeps x.toInCall.keep, codeAny_func ?_⟩
  have I := L2H.inv_startH (CX := L2N.CX P w) (E := fun _ _ _ => False) S hpin e0 (show ([V.ref p.1] : List V).length = ps.length from h1.symm) rv x
  have B := hbody cdv A outer s H (fun _ _ _ => False) p hot hz (hr.deeper _)
  obtain ⟨ρ', hb'⟩ := hres p.1
  have fin : ∀ (u : V) (σ' : L2.St) (H' : Hp), SStp (L2.start N [V.ref p.1]) (startK N.length p.1) H σ' ρ' H' → RelR K (fun _ => False) (L2.start N [V.ref p.1]) (startK N.length p.1) H σ' ρ' H' u (.val d) → Q u H' := fun u σ' H' st' r' =>
    hQ u H' (fun b o e => st'.ext b o e fun ⟨i, io, c, e1, _⟩ => startK_own e1) (dp_mono Gv_sub _ _ r'.2)
  have B2 : SatS K mg (fun _ => False) (L2.start N [V.ref p.1]) (startK N.length p.1) H W0 { nx := fun _ H' => Q .non H', rt := Q } (body p.1 (startK N.length p.1)) := by
    rw [hb']
    exact fin
  refine wpAny_mono (B.pss.run [] s1 (L2.start N [V.ref p.1]) H { nx := fun _ H' => Q .non H', rt := Q } I ⟨_, _, startK_rel hN, B2⟩) (fun fl s' hs => ?_) fun e s' hs => hs
  cases fl with
  | ret u => exact let ⟨v, σ', H', J, rv', q⟩ := hs; ⟨v, H', J.os, J.bare, J.base, J.hok, rv', q⟩
  | next => exact let ⟨σ', H', J, q⟩ := hs; ⟨.non, H', J.os, J.bare, J.base, J.hok, (rfl : Value.none = Value.none), q⟩
  | brk => exact let ⟨_, _, _, q⟩ := hs; q.elim
  | cont => exact let ⟨_, _, _, q⟩ := hs; q.elim
/-- isinstance(e, C) of the exception at a, in a context that bears it -/
def xIs (i : Nat) (a : Addr) (b : Bool) : DX := fun ρ => match ρ[i]? with
  | some (some (.raw x)) => if x = a then .ok (.val (.bool b)) ρ else .bad
  | _ => .bad
section
variable {X : Cx} {W : WX} {i : Nat}
theorem call_isP {a C : Addr} {oe : Obj} (hp : (a, oe) ∈ X.pn) (c : ExcC X.K C) (hz : Zc (.ref C) none oe) (hf : ∃ vs, oe.data = .fields vs) : CallR X (.builtin "isinstance") (rIsE X.K C a) := by
  intro pins s σ H xs us Q I r h
  obtain ⟨c', cv, b, rfl, hcv, e, q⟩ := h
  cases r with
  | cons rx rr => cases rr with
    | cons rt rr =>
      cases rr
      cases rx
      cases hcv _ rt
      have J : PySem.W.InstAt s.heap a oe C none := by
        have g := (I.pin (a, oe) (List.mem_append_left _ hp)).1
        obtain ⟨vs, hv⟩ := hf
        cases oe
        obtain ⟨e1, e2⟩ := hz
        cases e1; cases e2; cases hv
        exact ⟨g, rfl, rfl, trivial⟩
      exact PySem.W.kia_one (PySem.W.handS_kitx_exc c.hg c.hk c.hs c.hd c.ha c.hn c.ht c.hm) I.kIn J e (fun z => nomatch z) fun tk => ⟨.bl b, H, I.kept (t' := tk) fun _ _ z => z, rfl, q⟩
theorem de_isE {a C D : Addr} {oe : Obj} {b : Bool} {x y : Str} {p px py pos : Pos} (hp : (a, oe) ∈ X.pn) (c : ExcC X.K C) (hz : Zc (.ref C) none oe) (hf : ∃ vs, oe.data = .fields vs) (hm : X.mg "isinstance" = none) (hb : bootBuiltins "isinstance" = some (.builtin "isinstance")) (hv : PE X (.Name x px) (tVar i)) (gy : X.mg y = some (.ref D))
    (kb : PySem.W.kitOne X.K (.ref C) (.ref D) = some b) (hg : Gl X "isinstance" := by rfl) (hgy : Gl X y := by rfl) (hdy : (y == ("__debug__" : Str)) = false := by decide)
    (hs : starEach [.Name x px, .Name y py] X.env = (false, eval (.Name x px) X.env) :: starEach [.Name y py] X.env := by rfl) (hs2 : starEach [.Name y py] X.env = (false, eval (.Name y py) X.env) :: starEach [] X.env := by rfl) (hpl : (backTo pos (starEach [.Name y py] X.env)).any (·.1) = false := by rfl) :
    DE X W (.Call (.Name "isinstance" p) [.Name x px, .Name y py] [] pos) (xIs i a b) := by
  have hy : PE X (.Name y py) (tC (.ref D)) := pe_glob hgy gy rfl hdy
  have P := pe_callB (p := p) (pos := pos) (call_isP hp c hz hf) hg hm hb (pa_cons hv (pa_cons hy pa_nil hs2) hs) (by decide) (by decide) hs hpl
  refine ⟨pe_imp P fun σ H Q ⟨O, ρ, r, s⟩ => ?_⟩
  unfold xIs at s
  split at s
  case h_2 => exact s.elim
  rename_i x' hx
  split at s
  case isFalse => exact s.elim
  rename_i hxa
  subst hxa
  have hs1 := r.raw i _ hx
  exact ⟨_, hs1, .ref D, .ref D, b, rfl, fun u q => q, kb, s (.bl b) H .refl r (L2.Dp.bl b)⟩

/-! ### the suite: return of something made of the caught exception -/
def xKind (i : Nat) (a : Addr) (d : D) : DX := fun ρ => match ρ[i]? with
  | some (some (.raw x)) => if x = a then .ok (.val d) ρ else .bad
  | _ => .bad
theorem de_kind {x : Str} {f C : Addr} {fd : FuncData} {ps : List Str} {k : Nat} {d : D} {q pos : Pos} {e : Expr} {p : Addr × Obj} (hot : L2H.Hot1 X.A p) (hp : p ∈ X.pn) (hz : L2N.Zn (.ref C) none p.2) (F : KFn X.prog X.w X.K X.mg X.base k f fd ps C d) (hr : L2H.RoomH k X.A)
    (hm : X.mg x = some (.ref f)) (hk : PySem.W.keepIn X.K (.ref f) = true) (hb : Binds X.K fd ps []) (hv : PE X e (tVar i)) (hfl : ∃ v, flat d = some v) (hg : Gl X x := by rfl) (hdb : (x == ("__debug__" : Str)) = false := by decide)
    (he : starEach [e] X.env = (false, eval e X.env) :: starEach [] X.env := by rfl) (hpl : (backTo pos (starEach [] X.env)).any (·.1) = false := by rfl) :
    DE X W (.Call (.Name x q) [e] [] pos) (xKind i p.1 d) := by
  refine ⟨⟨fun pins s σ H Q I ⟨O, ρ, r, st⟩ => ?_⟩⟩
  unfold xKind at st
  split at st
  case h_2 => exact st.elim
  rename_i y hy
  split at st
  case isFalse => exact st.elim
  rename_i hya
  subst hya
  have s1 := r.raw i _ hy
  refine wpAny_Call_Name_kw (ld_glob I hg hm ?_ hdb)
  refine PySem.W.callWith_K (h₀ := X.base) I.ok.mod.kin hk (thn ((pa_cons hv pa_nil he).run pos pins s σ H (fun vs H1 => vs = [V.ref p.1] ∧ H1 = H) I ⟨_, s1, rfl, rfl⟩) fun us s2 ⟨vs, H1, I1, rv, q⟩ => ⟨I1.kIn, ?_⟩) he hpl
  obtain ⟨rfl, rfl⟩ := q
  have hl : us.length = ps.length := by rw [← rv.length, F.one]; rfl
  have b := hb s2 us I1.kIn (by rw [List.append_nil]; exact hl)
  rw [List.append_nil] at b
  have P1 := I1.pin p (List.mem_append_left _ hp)
  refine wpAny_call (codeAny_mono (F.run X.A X.stack s2 H1 ⟨us, []⟩ us Q p hr hot hz ⟨P1.1, P1.2.1, fun hm => (List.mem_cons.mp (I1.stkSub p.1 hm)).elim P1.2.2.1 P1.2.2.2.1, P1.2.2.2.2⟩ I1.env0 b rv fun u H' sm hu => ?_) fun rr s' hq => ?_)
  · obtain ⟨w, hw⟩ := hfl
    exact st u H' (.same sm) (r.same sm) (dp_any hu hw)
  · cases rr with
    | error e => obtain ⟨_, _, _, _, _, _, _, _, _, _, _, _, z⟩ := hq; exact z.elim
    | ok fl =>
      cases fl with
      | ret u => exact I1.after hq
      | next => exact False.elim hq
      | brk => exact False.elim hq
      | cont => exact False.elim hq
end
section
variable {K : Frg} {O : Addr → Prop} {σ : L2.St} {ρ : DEnv} {H : Hp}
theorem set_gen {v : Option V} {x : Option SV} {i : Nat} (r : RelEnv K O σ H ρ) (hio : isIo ρ[i]? = false) (h1 : ∀ io c, x ≠ some (.own io c)) (h2 : ∀ d, x ≠ some (.val d)) (h3 : ∀ a, x = some (.raw a) → v = some (.ref a)) :
    RelEnv K O (σ.set i v) H (ρ.set i x) ∧ SStp σ ρ H (σ.set i v) (ρ.set i x) H := by
  have ow : ∀ b, Ow (σ.set i v) (ρ.set i x) b → Ow σ ρ b := fun b h => ow_setV h1 h
  have st : SStp σ ρ H (σ.set i v) (ρ.set i x) H := ⟨fun _ _ h _ => h, fun _ h => h, fun b h => .inl (ow b h), fun j c h => by
    have hj : i ≠ j := by rintro rfl; rw [h] at hio; cases hio
    rw [List.getElem?_set_ne hj, List.getElem?_set_ne hj]; exact ⟨rfl, c, h⟩⟩
  have nt : ∀ {j : Nat} {y : SV}, (ρ.set i x)[j]? = some (some y) → (j = i ∧ x = some y) ∨ (i ≠ j ∧ ρ[j]? = some (some y)) := fun {j y} e => by
    by_cases hj : i = j
    · subst hj
      have hi : i < ρ.length := by
        have := (List.getElem?_eq_some_iff.mp e).1
        rw [List.length_set] at this; exact this
      rw [List.getElem?_set_self hi] at e
      exact .inl ⟨rfl, Option.some.inj e⟩
    · rw [List.getElem?_set_ne hj] at e
      exact .inr ⟨hj, e⟩
  refine ⟨⟨by rw [List.length_set, List.length_set]; exact r.len, r.oa, fun j d h => ?_, fun j b c h => ?_, fun j k a b c b' c' e1 e2 e3 e4 => ?_, fun j a h => ?_⟩, st⟩
  · rcases nt h with ⟨_, z⟩ | ⟨hj, h⟩
    · exact absurd z (h2 d)
    · obtain ⟨u, k1, k2⟩ := r.val j d h
      exact ⟨u, by rw [List.getElem?_set_ne hj]; exact k1, dp_mono st.gv _ _ k2⟩
  · rcases nt h with ⟨_, z⟩ | ⟨hj, h⟩
    · exact absurd z (h1 b c)
    · obtain ⟨a, k1, k2, k3⟩ := r.own j b c h
      exact ⟨a, by rw [List.getElem?_set_ne hj]; exact k1, k2, k3.mono st.gv fun _ q => q⟩
  · rcases nt e1 with ⟨_, z⟩ | ⟨hj, e1⟩
    · exact absurd z (h1 b c)
    · rcases nt e2 with ⟨_, z⟩ | ⟨hk, e2⟩
      · exact absurd z (h1 b' c')
      · rw [List.getElem?_set_ne hj] at e3
        rw [List.getElem?_set_ne hk] at e4
        exact r.inj j k a _ _ _ _ e1 e2 e3 e4
  · rcases nt h with ⟨hj, z⟩ | ⟨hj, h⟩
    · subst hj
      have hi : j < ρ.length := by
        have := (List.getElem?_eq_some_iff.mp h).1
        rw [List.length_set] at this; exact this
      rw [List.getElem?_set_self (by rw [r.len]; exact hi), h3 a z]
    · rw [List.getElem?_set_ne hj]; exact r.raw j a h
end
/-- try: body; except c as slot i: return (what hd tells of the exception) -/
def gTry (i : Nat) (g : DSt) (hd : Exn → Option D) : DSt := fun ρ => match g ρ with
  | .err x ρ1 => if (ρ1[i]?.isNone || isIo ρ1[i]?) = true then .bad else match hd x with
    | some d => .rt (.val d) (ρ1.set i none)
    | none => .bad
  | z => z
section
variable {X : Cx} {W : WX} {x n : Str} {c : Value} {i : Nat} {body : List Stmt} {e : Expr} {np pr pos pos' : Pos} {g : DSt} {hd : Exn → Option D}
theorem ds_tryAs (hs : X.stack = X.env :: X.outer) (hf : X.env.frame = some X.env.locals) (hN : X.N.Nodup) (hi : X.N[i]? = some n) (hln : X.env.kindOf n = some .local) (hc : Names X x c) (tk : L2N.Takes X W)
    (hb : ∀ (W' : WX) (pn : List (Addr × Obj)) (xe : Value → Shared → Prop), L2N.Takes (X.tr pn xe) W' → PassesOwn (model X.prog X.w) X.A X.env xe → DSs (X.tr pn xe) W' body g)
    (hh : ∀ y d, hd y = some d → ∃ C, X.mg y.cls = some (.ref C) ∧ y.arg = none ∧ PySem.W.exmOne X.K (.ref C) c = some true ∧ ∀ (a : Addr) (oe : Obj) (pn : List (Addr × Obj)), L2N.Zn (.ref C) none oe → (∃ vs, oe.data = .fields vs) →
      ∃ f, DE (X.suite a ((a, oe) :: pn)) W0 e f ∧ ∀ ρ, ρ[i]? = some (some (.raw a)) → f ρ = .ok (.val d) ρ) :
    DS X W (.Try body [.ExceptHandler (some (.Name x np)) (some n) [.Return (some e) pr] pos'] [] [] pos) (gTry i g hd) := by
  refine ⟨ps_imp (L2N.ps_try_as (Wout := W) (tb := fun W' => tDS X.K X.mg W' g) (ts := fun a cls dd E σ' H' => ∃ y d O ρ C, hd y = some d ∧ X.mg y.cls = some (.ref C) ∧ cls = .ref C ∧ dd = none ∧ RelEnv X.K O σ' H' ρ ∧ ρ[i]? = some (some (.raw a)) ∧
    ∀ u H'', EStp σ' ρ H' ρ H'' → RelEnv X.K O σ' H'' ρ → Dp X.K (Gv O σ' ρ H'') u d → E.rt u H'') hs hf hN hi hln hc tk (fun W' pn xe tk' po => (hb W' pn xe tk' po).pss) fun a oe cls dd pn hz hfl => ?_) fun E σ H ⟨O, ρ, r, s⟩ => ?_⟩
  · refine ⟨fun pins s σ H D I h => ?_⟩
    obtain ⟨y, d, O, ρ, C, h1, h2, h3, h4, h5, h6, h7⟩ := h
    subst h3 h4
    obtain ⟨C', k1, _, k3, k4⟩ := hh y d h1
    rw [h2] at k1
    cases k1
    obtain ⟨f, df, ef⟩ := k4 a oe pn hz hfl
    refine (pss_one (ps_ret (pos := pr) df.pe)).run pins s σ H D I ⟨O, ρ, h5, ?_⟩
    rw [ef ρ h6]
    exact fun u H'' st r' hu => h7 u H'' st r' hu
  · refine ⟨O, ρ, r, ?_⟩
    unfold gTry at s
    cases q : g ρ with
    | nx ρ1 => rw [q] at s; exact s
    | rt v ρ1 => rw [q] at s; exact s
    | bk ρ1 => rw [q] at s; exact s
    | ct ρ1 => rw [q] at s; exact s
    | bad => rw [q] at s; exact s
    | err y ρ1 =>
      rw [q] at s
      dsimp only at s
      intro cls dd σ' H' st r' ex
      split at s
      · exact s.elim
      rename_i hio
      have hio' : isIo ρ1[i]? = false := by
        cases z : isIo ρ1[i]? with
        | false => rfl
        | true => exact absurd (by rw [z, Bool.or_true]) hio
      split at s
      case h_2 => exact s.elim
      rename_i d hy
      obtain ⟨C, k1, k2, k3, _⟩ := hh y d hy
      obtain ⟨C', e1, e2, e3⟩ := ex
      rw [k1] at e1
      cases e1
      subst e2
      rw [k2] at e3
      refine ⟨true, k3, fun _ a ha => ?_, fun z => nomatch z⟩
      obtain ⟨r2, st2⟩ := set_gen (v := some (.ref a)) (x := some (.raw a)) r' hio' (fun _ _ z => nomatch z) (fun _ z => nomatch z) (fun b z => by cases z; rfl)
      have hlen : i < ρ1.length := by
        cases z : ρ1[i]? with
        | none => exact absurd (by rw [z]; rfl) hio
        | some _ => exact (List.getElem?_eq_some_iff.mp z).1
      refine ⟨y, d, O, ρ1.set i (some (.raw a)), C, hy, k1, rfl, e3, r2, List.getElem?_set_self hlen, fun u H'' st3 r3 hu => ?_⟩
      obtain ⟨r4, st4⟩ := set_gen (v := some (.ref a)) (x := none) r3 (by rw [List.getElem?_set_self hlen]; rfl) (fun _ _ z => nomatch z) (fun _ z => nomatch z) (fun b z => nomatch z)
      rw [List.set_set, List.set_set] at r4 st4
      exact s u _ H'' (((st.trans st2).trans st3.s).trans st4) ⟨r4, dp_mono st4.gv _ _ hu⟩
end
end DL

namespace DL
open L2 PySem PySem.Spec PyProof.Rows

theorem mul_same (l : Addr) (items : Array Value) (n : Nat) (dd : Option Addr) (sl : Array (Option Value)) (x : Int) (u : Tok) (c0 : (decide (x < -(2 ^ 63)) || decide (x ≥ 2 ^ 63)) = false) (c1 : (items.isEmpty || x == 1) = true) :
    Meets (Builtin.«tuple.__mul__» ⟨[.ref l, .int x u], []⟩) (fun _ R s => s.heap.get? l = some { cls := .type "tuple", dict := dd, data := .seq items n, slots := sl } ∧ R (.ok (.ret (Value.ref l))) s) :=
  .of_wp fun prog w A R s h => by
    obtain ⟨hp, g, d, tk, os⟩ := s
    obtain ⟨hl, h⟩ := h
    have f1 := AutoSeq1.idx_int
    wp_walk using wpAny_loadPart' hl
    refine wpAny_ite_false (decide_eq_false (by rw [c0]; exact Bool.false_ne_true)) ?_
    wp_walk using wpAny_loadPart' hl
    exact ⟨_, rfl, h⟩
theorem mul_none (l : Addr) (items : Array Value) (n : Nat) (dd : Option Addr) (sl : Array (Option Value)) (x : Int) (u : Tok) (c0 : (decide (x < -(2 ^ 63)) || decide (x ≥ 2 ^ 63)) = false) (c1 : (items.isEmpty || x == 1) = false) (c2 : (decide (x ≤ 0) || items.isEmpty) = true) :
    Meets (Builtin.«tuple.__mul__» ⟨[.ref l, .int x u], []⟩) (fun _ R s => s.heap.get? l = some { cls := .type "tuple", dict := dd, data := .seq items n, slots := sl } ∧
      R (.ok (.ret (Value.ref s.heap.objs.size))) { s with heap := s.heap.push { cls := Value.type "tuple", data := Data.seq #[] }, toks := s.toks }) :=
  .of_wp fun prog w A R s h => by
    obtain ⟨hp, g, d, tk, os⟩ := s
    obtain ⟨hl, h⟩ := h
    have f1 := AutoSeq1.idx_int
    wp_walk using wpAny_loadPart' hl
    refine wpAny_ite_false (decide_eq_false (by rw [c0]; exact Bool.false_ne_true)) ?_
    wp_walk using wpAny_loadPart' hl
    exact ⟨_, rfl, h⟩
/-- tuple * int, the rest: once, or none -/
def rRepO (K : PySem.W.Frag) : R2 := fun x y H Q => ∃ l k xs, x = .ref l ∧ y = .int k ∧ SqT K H l xs ∧ -(2 ^ 63) ≤ k ∧ k < 2 ^ 63 ∧ (((xs = [] ∨ k = 1) ∧ Q (.ref l) H) ∨ (xs ≠ [] ∧ k ≤ 0 ∧ ∀ p, H p = none → Q (.ref p) (upd H p (.tup []))))
theorem op_repO {X : Cx} : OpR X (binaryOp .Mult) (rRepO X.K) := by
  intro pins s σ H x y v u Q I rx ry h
  obtain ⟨l, k, xs, rfl, rfl, hT, h1, h2, h⟩ := h
  cases rx
  obtain ⟨t, rfl⟩ := ry
  obtain ⟨its, r, ⟨⟨cls, dd, data, sl⟩, ho, hc, n, hd⟩, hs⟩ := I.tuple hT
  simp only at hc hd
  subst hc hd
  have hle : its.length = xs.length := r.length.symm
  have c0 : (decide (k < -(2 ^ 63)) || decide (k ≥ 2 ^ 63)) = false := by
    rw [decide_eq_false (by omega), decide_eq_false (by omega)] <;> rfl
  rcases h with ⟨h3, q⟩ | ⟨h3, h4, q⟩
  · have c1 : (its.toArray.isEmpty || k == 1) = true := by
      rcases h3 with h3 | h3
      · subst h3
        have : its = [] := List.eq_nil_of_length_eq_zero hle
        subst this; rfl
      · subst h3; simp
    refine wpAny_binaryOp_repeat_ref (T := "tuple") (U := "int") (by decide) ⟨_, ho, rfl⟩ (fun s' => typeIs_int s' k t) noFill_tuple_mul F.fills_int_mul F.slot_int_rmul repeat_tuple F.slot_int_index.lookup
      (call_meets F.slot_int_rmul (typeIs_int s k t) F.entry_int_rmul (F.args_int_rmul_2 _ _) (int_rmul_tuple k t l its.toArray n dd sl)
        ⟨ho, rfl, ⟨_, ho, rfl⟩, call_meets F.slot_tuple_mul ⟨_, ho, rfl⟩ F.entry_tuple_mul (F.args_tuple_mul_2 _ _) (mul_same l its.toArray n dd sl k t c0 c1) ⟨ho, ?_⟩⟩)
    exact ⟨.ref l, H, I, rfl, q⟩
  · have c1 : (its.toArray.isEmpty || k == 1) = false := by
      have : its.toArray.isEmpty = false := by
        cases its with
        | nil => exact absurd (List.eq_nil_of_length_eq_zero hle.symm) h3
        | cons a b => rfl
      rw [this, Bool.false_or]
      exact beq_eq_false_iff_ne.mpr (by omega)
    have c2 : (decide (k ≤ 0) || its.toArray.isEmpty) = true := by rw [decide_eq_true h4]; rfl
    refine wpAny_binaryOp_repeat_ref (T := "tuple") (U := "int") (by decide) ⟨_, ho, rfl⟩ (fun s' => typeIs_int s' k t) noFill_tuple_mul F.fills_int_mul F.slot_int_rmul repeat_tuple F.slot_int_index.lookup
      (call_meets F.slot_int_rmul (typeIs_int s k t) F.entry_int_rmul (F.args_int_rmul_2 _ _) (int_rmul_tuple k t l its.toArray n dd sl)
        ⟨ho, rfl, ⟨_, ho, rfl⟩, call_meets F.slot_tuple_mul ⟨_, ho, rfl⟩ F.entry_tuple_mul (F.args_tuple_mul_2 _ _) (mul_none l its.toArray n dd sl k t c0 c1 c2) ⟨ho, ?_⟩⟩)
    refine ⟨.ref s.heap.objs.size, _, I.laid (t' := s.toks) (o := .tup []) (fun b ob q => Heap.get?_push_of_some _ q) (Nat.le_refl _) ?_, rfl, q _ (I.hok.fresh (Nat.le_refl _))⟩
    exact ⟨Nat.zero_le _, [], .nil, IsTup.new _ _⟩
/-- tuple * int, any small int -/
def kMulT : D → D → Option D
  | .tuple xs, .int k => if k ≤ 1000 ∧ xs.length ≤ 1000 ∧ -1000 ≤ k then some (.tuple (List.replicate k.toNat xs).flatten) else none
  | _, _ => none
theorem flat_nil {α : Type} : ∀ n : Nat, (List.replicate n ([] : List α)).flatten = []
  | 0 => rfl
  | n + 1 => by rw [List.replicate_succ, List.flatten_cons, flat_nil n]; rfl
theorem o_mulT {X : Cx} : OpR X (binaryOp .Mult) (rD2 X.K kMulT) := by
  intro pins s σ H x y v u Q I rx ry ⟨O, σ', ρ, a, b, d, e, z, r, ea, eb, hd, he, hk, q⟩
  unfold kMulT at hk
  split at hk
  · rename_i xs k
    split at hk
    · rename_i hz
      cases hk
      obtain ⟨p1, vs, rfl, s1, a1⟩ := RelE.tup ea r hd
      cases RelE.int eb r he
      have l1 := DL.DpAll.length a1
      by_cases hx : xs = []
      · subst hx
        have hv : vs = [] := List.eq_nil_of_length_eq_zero l1
        rw [flat_nil] at q
        exact op_repO pins s σ H _ _ v u Q I rx ry ⟨p1, k, vs, rfl, rfl, SqT.mono Gv_sub s1, by omega, by omega, .inl ⟨.inl hv, q _ H (Same.refl _) (.tup s1 a1)⟩⟩
      have hvx : vs ≠ [] := fun z => hx (List.eq_nil_of_length_eq_zero (by rw [← l1, z]; rfl))
      by_cases h1 : k = 1
      · subst h1
        have e1 : (List.replicate (1 : Int).toNat xs).flatten = xs := by simp
        rw [e1] at q
        exact op_repO pins s σ H _ _ v u Q I rx ry ⟨p1, 1, vs, rfl, rfl, SqT.mono Gv_sub s1, by omega, by omega, .inl ⟨.inr rfl, q _ H (Same.refl _) (.tup s1 a1)⟩⟩
      by_cases h0 : k ≤ 0
      · have e1 : (List.replicate k.toNat xs).flatten = [] := by rw [Int.toNat_of_nonpos h0]; rfl
        rw [e1] at q
        refine op_repO pins s σ H _ _ v u Q I rx ry ⟨p1, k, vs, rfl, rfl, SqT.mono Gv_sub s1, by omega, by omega, .inr ⟨hvx, h0, fun p hp => ?_⟩⟩
        obtain ⟨m1, m2⟩ := dp_new r hp (.nil)
        exact q _ _ m1 m2
      · refine op_repT pins s σ H _ _ v u Q I rx ry ⟨p1, k, vs, rfl, rfl, SqT.mono Gv_sub s1, hvx, by omega, hz.1, by omega, fun p hp => ?_⟩
        obtain ⟨m1, m2⟩ := dp_new r hp (DpAll.rep a1 k.toNat)
        exact q _ _ m1 m2
    · cases hk
  · cases hk
/-- [..] * k: a new list -/
def xRepL (f : DEnv → Res Cell) (g : DX) : DEnv → Res Cell := fun ρ => bindR (f ρ) fun c ρ1 => bindR (g ρ1) fun b ρ2 => match c, deref ρ2 b with
  | .lst ds, some (.int k) => if -1000 ≤ k ∧ k ≤ 1000 ∧ ds.length ≤ 1000 then .ok (.lst (List.replicate k.toNat ds).flatten) ρ2 else .bad
  | _, _ => .bad
theorem dl_repL {X : Cx} {W : WX} {a b : Expr} {f : DEnv → Res Cell} {g : DX} {pos : Pos} (ha : DLs X W a f) (hb : DE X W b g) : DLs X W (.BinOp a .Mult b pos) (xRepL f g) := by
  refine ⟨pe_imp (pe_op op_rep ha.pe hb.pe) fun σ H Q ⟨O, ρ, r, s⟩ => ⟨O, ρ, r, ?_⟩⟩
  unfold xRepL at s
  cases q : f ρ with
  | err x ρ1 => rw [q] at s; exact s
  | bad => rw [q] at s; exact s
  | ok c ρ1 =>
    rw [q] at s
    intro p H1 st hp n
    refine ⟨_, ρ1, n.1, ?_⟩
    dsimp only [bindR] at s
    cases q2 : g ρ1 with
    | err x ρ2 => rw [q2] at s; exact fun cls d H2 st2 r2 ex => s cls d H2 (st.trans st2) r2.unhide ex
    | bad => rw [q2] at s; exact s
    | ok y ρ2 =>
      rw [q2] at s
      intro v H2 st2 r2 e2
      dsimp only at s
      split at s
      case h_2 => exact s.elim
      rename_i ds k hk
      split at s
      case isFalse => exact s.elim
      rename_i hz
      obtain ⟨_, _, no, vs, n3, n4⟩ := n
      cases RelE.int e2 r2 hk
      have l1 := DL.DpAll.length n4
      have a1 : DpAll X.K (Gv O σ ρ2 H2) vs ds := dpAll_mono (fun a o z => gv_hide a o (st2.gv a o z)) _ _ n4
      have hzz : vs.length * k.toNat ≤ sizeLine := by
        have a1 : vs.length * k.toNat ≤ 1000 * 1000 := Nat.mul_le_mul (by omega) (by omega)
        rw [sizeLine_eq]; omega
      refine ⟨p, k, vs, rfl, rfl, st2.ext _ _ n3 no, by omega, by omega, hzz, fun p' hp' => ?_⟩
      refine s p' _ ((st.trans st2).trans (.same (same_upd hp'))) ((st.trans st2).none p' hp') (.mk' r2.unhide hp' (DpAll.rep a1 k.toNat))
end DL

namespace DL
open L2 PySem PySem.Spec PyProof.Rows

/-! ### methods that only look -/
def xMr (m : List D → List D → Option D) (fo : DX) (g : DEnv → Res (List EV)) : DX := fun ρ => bindR (fo ρ) fun a ρ1 => match deref ρ1 a with
  | some (.list _) => bindR (g ρ1) fun vs ρ2 => match deref ρ2 a with
    | some (.list ds) => optR (derefs ρ2 vs) fun as => optR (m ds as) fun z => .ok (.val z) ρ2
    | _ => .bad
  | _ => .bad
def MrOk (X : Cx) (id : String) (m : List D → List D → Option D) : Prop :=
  ∃ r, MtR X id r ∧ ∀ (H : Hp) (u : V) (args : List V) (ds as : List D) (z : D) (Q : VK), Dp X.K H u (.list ds) → DpAll X.K H args as → m ds as = some z → (∀ u H', Same H H' → Dp X.K H' u z → Q u H') → r u args H Q
theorem derefs_dp {K : Frg} {O : Addr → Prop} {σ : L2.St} {ρ : DEnv} {H : Hp} (r : RelEnv K O σ H ρ) : ∀ {us : List V} {vs : List EV} {ds : List D}, RelEs K O σ ρ H us vs → derefs ρ vs = some ds → DpAll K H us ds
  | [], [], _, _, e => by cases e; exact .nil
  | u :: us, v :: vs, ds, h, e => by
    unfold derefs at e
    split at e
    · rename_i d hd
      split at e
      · rename_i ds' hds
        cases e
        exact .cons (RelE.dp h.1 r hd) (derefs_dp r h.2 hds)
      · cases e
    · cases e
  | [], _ :: _, _, h, _ => h.elim
  | _ :: _, [], _, h, _ => h.elim
section
variable {X : Cx} {W : WX} {e : Expr} {es : List Expr} {o : Expr} {apos cpos : Pos} {name : Str} {id : String} {m : List D → List D → Option D}
theorem de_mr {fo : DX} (ho : DE X W o fo) (slot : Slot "list" name id) (hty : typeOf (.builtin id) = pure (.type "method_descriptor")) (hm : MrOk X id m) (hfl : ∀ ds as z, m ds as = some z → ∃ v, flat z = some v) {g : DEnv → Res (List EV)} (ha : DA X W (e :: es) g)
    (hbase : attributeBase o name X.env (eval o X.env) = eval o X.env := by rfl)
    (hfew : ((backTo cpos (starEach (e :: es) X.env)).all (fun x => !x.1) && (backToKw cpos (keywordEach [] X.env)).all (fun x => x.1.isSome)
      && decide ((e :: es).length + ([] : List Keyword).length + (if ([] : List Keyword).isEmpty then 0 else 1) < 30)) = true := by rfl)
    (hline : (apos.endLine == cpos.line) = true := by rfl) (hs : starEach (e :: es) X.env = (false, eval e X.env) :: starEach es X.env := by rfl) (hplain : (backTo cpos (starEach es X.env)).any (·.1) = false := by rfl) :
    DE X W (.Call (.Attribute o name apos) (e :: es) [] cpos) (xMr m fo g) := by
  obtain ⟨r, h1, h2⟩ := hm
  refine ⟨pe_imp (pe_bm PySem.F.plainAttrs_list slot hty h1 ho.pe ha.pa hbase hfew hline hs hplain) fun σ H Q ⟨O, ρ, rr, s⟩ => ⟨O, ρ, rr, (Sat.bind s).imp fun u H1 ⟨a, ρ1, r1, e1, s1⟩ => ?_⟩⟩
  try dsimp only at s1
  split at s1
  case h_2 => exact s1.elim
  rename_i ds0 hd0
  obtain ⟨p, vs0, hu, sq, _⟩ := RelE.lst e1 r1 hd0
  subst hu
  refine ⟨.inl ⟨rfl, vs0, sq⟩, O, ρ1, r1, ?_⟩
  cases q : g ρ1 with
  | err x ρ2 => rw [q] at s1; exact s1
  | bad => rw [q] at s1; exact s1
  | ok vs ρ2 =>
    rw [q, bindR_ok] at s1
    intro us H2 st2 r2 e2
    have s2 := Sat.shift s1 st2
    split at s2
    case h_2 => exact s2.elim
    rename_i ds hd
    obtain ⟨as, has, s3⟩ := optR_sat s2
    obtain ⟨z, hz, s4⟩ := optR_sat s3
    refine h2 H2 _ us ds as z Q (RelE.dp (e1.mono st2) r2 hd) (derefs_dp r2 e2 has) hz fun u' H' sm hu' => ?_
    obtain ⟨w, hw⟩ := hfl _ _ _ hz
    exact s4 u' H' (.same sm) (r2.same sm) (dp_any hu' hw)
/-- l.count(x) -/
def mCount : List D → List D → Option D := fun ds as => match as with
  | [d] => if SeqAt.shaped (.list ds) = true ∧ SeqAt.shaped d = true ∧ PyData.plainAll ds = true ∧ d.plain = true then some (.int ((ds.countP fun y => PyData.eqv y d : Nat) : Int)) else none
  | _ => none
def mIndex : List D → List D → Option D := fun ds as => match as with
  | [d] => if SeqAt.shaped (.list ds) = true ∧ SeqAt.shaped d = true then (ds.findIdx? fun y => PyData.eqv y d).map fun j => .int (j : Nat) else none
  | _ => none
theorem m_index (hu : X.A.units + 65 < cLine) : MrOk X "list.index" mIndex := by
  refine ⟨_, mt_indexD hu, fun H u args ds as z Q hd ha hz q => ?_⟩
  unfold mIndex at hz
  split at hz
  case h_2 => cases hz
  rename_i d
  split at hz
  case isFalse => cases hz
  rename_i hs
  cases hj : ds.findIdx? fun y => PyData.eqv y d with
  | none => rw [hj] at hz; cases hz
  | some j =>
    rw [hj] at hz
    cases hz
    cases ha with
    | cons h1 h2 =>
      cases h2
      obtain ⟨hlt, hp, hno⟩ := List.findIdx?_eq_some_iff_getElem.mp hj
      cases hd with
      | lst s a =>
        refine ⟨_, _, d, ds, j, ds[j], rfl, rfl, .lst s a, h1, hs.1, hs.2, List.getElem?_eq_getElem hlt, hp, fun m z' hm hz' => ?_, q _ H (Same.refl _) (.int _)⟩
        obtain ⟨hml, rfl⟩ := List.getElem?_eq_some_iff.mp hz'
        simpa using hno m hm
theorem m_count (hu : X.A.units + 66 < cLine) : MrOk X "list.count" mCount := by
  refine ⟨fun u args H Q => ∃ (ds : List D) (d : D) (y : V), args = [y] ∧ Dp X.K H u (.list ds) ∧ Dp X.K H y d ∧ SeqAt.shaped (.list ds) = true ∧ SeqAt.shaped d = true ∧ PyData.plainAll ds = true ∧ d.plain = true ∧ Q (.int ((ds.countP fun y => PyData.eqv y d : Nat) : Int)) H, fun pins s σ H x xs v us Q I rx rxs h => ?_, fun H u args ds as z Q hd ha hz q => ?_⟩
  · obtain ⟨ds, d, y, rfl, hx, hy, h1, h2, h3, h4, q⟩ := h
    cases rxs with
    | cons ry rt =>
      cases rt
      cases hx with
      | lst sq a =>
        cases rx
        obtain ⟨its, rv, pl, _⟩ := I.list sq
        obtain ⟨as, r4⟩ := Dp.readsAll I ds _ its a rv
        obtain ⟨bs, r5⟩ := Dp.reads I d y _ hy ry
        exact SeqAt.count_list_data pl.isList (show ReadsAll s.heap its.toArray.toList ds as from r4) r5 h3 h4 (room_in_shaped h2 (by omega)) ⟨.int _, H, I.tok _, ⟨_, rfl⟩, q⟩
  · unfold mCount at hz
    split at hz
    case h_2 => cases hz
    rename_i d
    split at hz
    case isFalse => cases hz
    rename_i hs
    cases hz
    cases ha with
    | cons h1 h2 =>
      cases h2
      exact ⟨ds, d, _, rfl, hd, h1, hs.1, hs.2.1, hs.2.2.1, hs.2.2.2, q _ H (Same.refl _) (.int _)⟩
end

/-! ### zip -/
section
variable {X : Cx} {W : WX} {K : Frg} {G0 : Hp}
def zipD : List D → List D → List D
  | a :: as, b :: bs => .tuple [a, b] :: zipD as bs
  | _, _ => []
theorem zipD_len : ∀ as bs : List D, (zipD as bs).length = min as.length bs.length
  | [], _ => by simp [zipD]
  | _ :: _, [] => by simp [zipD]
  | a :: as, b :: bs => by simp [zipD, zipD_len as bs] <;> omega
theorem zipD_at : ∀ {as bs : List D} {i : Nat} {x y : D}, as[i]? = some x → bs[i]? = some y → (zipD as bs)[i]? = some (.tuple [x, y])
  | [], _, _, _, _, h, _ => by simp at h
  | _ :: _, [], _, _, _, _, h => by simp at h
  | a :: as, b :: bs, 0, x, y, h1, h2 => by simp at h1 h2; subst h1 h2; rfl
  | a :: as, b :: bs, i + 1, x, y, h1, h2 => by simpa [zipD] using zipD_at (i := i) (by simpa using h1) (by simpa using h2)
theorem src_pair {J : It} {n : Nat} {G : Hp → Prop} {f g : Nat → Option V} {ds : List D} (w : Walk J n G (YPair f g)) (hn : ds.length = n) (hG : ∀ H, (∀ a o, G0 a = some o → H a = some o) → G H)
    (h : ∀ i x y, f i = some x → g i = some y → ∃ d e, ds[i]? = some (.tuple [d, e]) ∧ Dp K G0 x d ∧ Dp K G0 y e) : Src K G0 J ds := by
  unfold Src
  rw [hn]
  refine w.mono hG fun i H v H' hi hg y => ?_
  obtain ⟨T, x, y, rfl, hT, rfl, hx, hy⟩ := y
  obtain ⟨d, e, h1, h2, h3⟩ := h i x y hx hy
  refine ⟨_, h1, same_upd hT, fun O σ ρ r g => ?_⟩
  obtain ⟨n1, n2⟩ := r.fresh hT
  have mo : ∀ a o, G0 a = some o → Gv O σ ρ (upd H T (.tup [x, y])) a = some o := fun a o q => (EStp.same (same_upd hT)).gv a o (g a o q)
  exact L2.Dp.tup (SqT.of (Gv_of n1 n2 upd_same)) (.cons (dp_mono mo _ _ h2) (.cons (dp_mono mo _ _ h3) .nil))
theorem src_zip {a b : Addr} {vs ws : List V} {ds es : List D} (s1 : SqL K G0 a vs) (s2 : SqL K G0 b ws) (h1 : DpAll K G0 vs ds) (h2 : DpAll K G0 ws es) : Src K G0 (Itz K a b) (zipD ds es) := by
  refine src_pair (walk_zip (xs := vs) (ys := ws) (n := (zipD ds es).length) (by rw [zipD_len, DL.DpAll.length h1, DL.DpAll.length h2])) rfl (fun H g => ⟨SqL.mono g s1, SqL.mono g s2⟩) fun i x y hx hy => ?_
  obtain ⟨d, k1, k2⟩ := DL.DpAll.atV h1 hx
  obtain ⟨e, k3, k4⟩ := DL.DpAll.atV h2 hy
  exact ⟨d, e, zipD_at k1 k3, k2, k4⟩
theorem walk_zipT {a b : Addr} {xs ys : List V} {n : Nat} (hn : n = min xs.length ys.length) : Walk (RZ.ItzT K a b) n (fun H => SqT K H a xs ∧ SqT K H b ys) (YPair (fun i => xs[i]?) (fun i => ys[i]?)) := by
  refine ⟨fun i _ hi q => ?_, fun _ q => ?_, fun i H v H' _ q y => ?_⟩
  · have l1 : i < xs.length := by omega
    have l2 : i < ys.length := by omega
    exact ⟨xs, ys, xs[i], ys[i], q.1, q.2, List.getElem?_eq_getElem l1, List.getElem?_eq_getElem l2⟩
  · exact ⟨xs, ys, q.1, q.2, by omega⟩
  · obtain ⟨T, x, z, e1, e2, e3, e4, e5⟩ := y
    exact ⟨T, x, z, e1, e2, e3, e4 xs q.1, e5 ys q.2⟩
theorem src_zipT {a b : Addr} {vs ws : List V} {ds es : List D} (s1 : SqT K G0 a vs) (s2 : SqT K G0 b ws) (h1 : DpAll K G0 vs ds) (h2 : DpAll K G0 ws es) : Src K G0 (RZ.ItzT K a b) (zipD ds es) := by
  refine src_pair (walk_zipT (xs := vs) (ys := ws) (n := (zipD ds es).length) (by rw [zipD_len, DL.DpAll.length h1, DL.DpAll.length h2])) rfl (fun H g => ⟨SqT.mono g s1, SqT.mono g s2⟩) fun i x y hx hy => ?_
  obtain ⟨d, k1, k2⟩ := DL.DpAll.atV h1 hx
  obtain ⟨e, k3, k4⟩ := DL.DpAll.atV h2 hy
  exact ⟨d, e, zipD_at k1 k3, k2, k4⟩
def iZip (g : DEnv → Res (List EV)) : DEnv → Res (List D) := fun ρ => bindR (g ρ) fun vs ρ1 => optR (keeps vs ρ1) fun p => match p.1 with
  | [.list ds, .list es] => .ok (zipD ds es) p.2
  | [.tuple ds, .tuple es] => .ok (zipD ds es) p.2
  | _ => .bad
theorem di_zip {e e2 : Expr} {g : DEnv → Res (List EV)} {p pos tpos : Pos} {elts : List Expr} {kk : Nat} (hm : X.mg "zip" = none) (ha : DA X W [e, e2] g) (hg : Gl X "zip" := by rfl)
    (hs : starEach [e, e2] X.env = (false, eval e X.env) :: starEach [e2] X.env := by rfl) (hpl : (backTo pos (starEach [e2] X.env)).any (·.1) = false := by rfl) :
    DI X W (.Tuple elts kk tpos) (.Call (.Name "zip" p) [e, e2] [] pos) (iZip g) := by
  refine ⟨pi_imp (RZ.pi_zipA hg hm ha.pa hs hpl) fun σ H R ⟨O, ρ, r, s⟩ => ⟨O, ρ, r, (sat_bindI s).imp fun us H1 ⟨vs, ρ1, r1, e1, st, s1⟩ => ?_⟩⟩
  obtain ⟨⟨ds, ρ2⟩, hk, s2⟩ := optR_satI s1
  obtain ⟨r2, st2, a⟩ := keeps_ok r1 e1 hk
  try dsimp only at s2
  split at s2
  · cases a with
    | cons a1 a2 => cases a2 with
      | cons a2 a3 =>
        cases a3
        cases a1 with
        | lst s1 b1 => cases a2 with
          | lst s2' b2 => exact ⟨_, _, _, _, rfl, .inl ⟨SqL.mono Gv_sub s1, SqL.mono Gv_sub s2', s2 _ H1 st2 r2 (src_zip s1 s2' b1 b2)⟩⟩
  · cases a with
    | cons a1 a2 => cases a2 with
      | cons a2 a3 =>
        cases a3
        cases a1 with
        | tup s1 b1 => cases a2 with
          | tup s2' b2 => exact ⟨_, _, _, _, rfl, .inr ⟨SqT.mono Gv_sub s1, SqT.mono Gv_sub s2', s2 _ H1 st2 r2 (src_zipT s1 s2' b1 b2)⟩⟩
  · exact s2.elim
end

/-! ### a, b = x, y; target = x; return of an own thing -/
def gPar (i j : Nat) (g : DEnv → Res (List EV)) : DSt := fun ρ => bindF (g ρ) fun vs ρ1 => optF (keeps vs ρ1) fun p => match p.1 with
  | [d, e] => if (isIo p.2[i]? || isIo (p.2.set i (some (.val d)))[j]?) = true then .bad else .nx ((p.2.set i (some (.val d))).set j (some (.val e)))
  | _ => .bad
section
variable {X : Cx} {W : WX}
theorem ds_par {i j : Nat} {x y : Str} {a b : Expr} {g : DEnv → Res (List EV)} {px py pt pos : Pos} {kt k2 pt2} (hc : X.calm = true) (hN : X.N.Nodup) (ha : DA X W [a, b] g) (hij : i ≠ j := by decide) (hi : X.N[i]? = some x := by rfl) (hj : X.N[j]? = some y := by rfl)
    (hx : X.env.scope.names.lookup x = some .local := by rfl) (hy : X.env.scope.names.lookup y = some .local := by rfl)
    (hw : swappedStores [.Tuple [.Name x px, .Name y py] kt pt] (.Tuple [a, b] k2 pt2) X.env = pure (some [x, y]) := by rfl)
    (hs : swapsWithSole [.Tuple [.Name x px, .Name y py] kt pt] (.Tuple [a, b] k2 pt2) pos.line X.env = pure false := by rfl) :
    DS X W (.Assign [.Tuple [.Name x px, .Name y py] kt pt] (.Tuple [a, b] k2 pt2) pos) (gPar i j g) := by
  refine ⟨ps_imp (ps_par hc hN hi hj hij hx hy ha.pa hw hs) fun E σ H ⟨O, ρ, r, s⟩ => ⟨O, ρ, r, (SatS.bind s).imp fun us H1 ⟨vs, ρ1, r1, e1, st1, s1⟩ => ?_⟩⟩
  obtain ⟨⟨ds, ρ2⟩, hk, s2⟩ := optF_sat s1
  obtain ⟨r2, st2, a⟩ := keeps_ok r1 e1 hk
  try dsimp only at s2
  split at s2
  case h_2 => exact s2.elim
  rename_i d e
  split at s2
  · exact s2.elim
  rename_i hio
  have h12 : isIo ρ2[i]? = false ∧ isIo (ρ2.set i (some (.val d)))[j]? = false := by simpa using hio
  cases a with
  | cons a1 a2 => cases a2 with
    | cons a2 a3 =>
      cases a3
      obtain ⟨r3, st3⟩ := set_val r2 h12.1 a1
      obtain ⟨r4, st4⟩ := set_val r3 h12.2 (dp_mono st3.gv _ _ a2)
      exact ⟨_, _, rfl, s2 _ H1 ((st2.s.trans st3).trans st4) r4⟩
def gAsg (f : DX) (bind : D → DEnv → Option DEnv) : DSt := fun ρ => bindF (f ρ) fun v ρ1 => optF (keep v ρ1) fun p => optF (bind p.1 p.2) fun ρ3 => .nx ρ3
theorem ds_asg {tg e : Expr} {f : DX} {sl : List Nat} {bind : D → DEnv → Option DEnv} {pos : Pos} (he : DE X W e f) (hg : DG X tg sl bind) (hs : swapsWithSole [tg] e pos.line X.env = pure false := by rfl) (hw : swappedStores [tg] e X.env = pure none := by rfl)
    (h1 : (assignEach [tg] X.env).map (·.2) = [assign tg X.env] := by rfl) : DS X W (.Assign [tg] e pos) (gAsg f bind) := by
  refine ⟨ps_imp (ps_asg he.pe hg.pg hs hw h1) fun E σ H ⟨O, ρ, r, s⟩ => ⟨O, ρ, r, (SatS.bind s).imp fun u H1 ⟨v, ρ1, r1, e1, st1, s1⟩ => ?_⟩⟩
  obtain ⟨⟨d, ρ2⟩, hk, s2⟩ := optF_sat s1
  obtain ⟨r2, st2, a⟩ := keep_ok r1 e1 hk
  obtain ⟨ρ3, h3, s3⟩ := optF_sat s2
  exact ⟨O, ρ2, d, ρ3, r2, a, h3, fun σ1 st r3 _ _ => s3 σ1 H1 (st2.s.trans st) r3⟩
theorem ds_retOwn {i : Nat} {e : Expr} {pos : Pos} (he : PE X e (tVar i)) : DS X W (.Return (some e) pos) (gRetOwn i) := by
  refine ⟨ps_imp (ps_ret he) fun E σ H ⟨O, ρ, r, s⟩ => ?_⟩
  unfold gRetOwn at s
  split at s
  case h_2 => exact s.elim
  rename_i c hi
  obtain ⟨a, h1, h2, h3⟩ := r.own i _ _ hi
  have hil : i < ρ.length := (List.getElem?_eq_some_iff.mp hi).1
  have hio : isIo ρ[i]? = false := by rw [hi]; rfl
  -- given up: the name holds nothing
  have st : SStp σ ρ H σ (ρ.set i none) H := ⟨fun _ _ h _ => h, fun _ h => h, fun b ⟨j, io, c', e1, e2⟩ => .inl (by
    by_cases hj : i = j
    · subst hj; rw [List.getElem?_set_self hil] at e1; cases e1
    · rw [List.getElem?_set_ne hj] at e1; exact ⟨j, io, c', e1, e2⟩), fun j c' h => by
    have hj : i ≠ j := by rintro rfl; rw [h] at hio; cases hio
    rw [List.getElem?_set_ne hj]; exact ⟨rfl, c', h⟩⟩
  have nt : ∀ {j : Nat} {y : SV}, (ρ.set i none)[j]? = some (some y) → i ≠ j ∧ ρ[j]? = some (some y) := fun {j y} e1 => by
    by_cases hj : i = j
    · subst hj; rw [List.getElem?_set_self hil] at e1; cases e1
    · rw [List.getElem?_set_ne hj] at e1; exact ⟨hj, e1⟩
  have no : ¬ Ow σ (ρ.set i none) a := fun ⟨j, io, c', e1, e2⟩ => by
    obtain ⟨hj, e1⟩ := nt e1
    exact hj (r.inj i j a _ _ _ _ hi e1 h1 e2)
  have gv : ∀ x o, Gv O σ ρ H x = some o → Gv (fun b => O b ∨ b = a) σ (ρ.set i none) H x = some o := fun x o q => by
    obtain ⟨q1, q2, q3⟩ := of_Gv (st.gv (O := O) x o q)
    exact Gv_of (fun z => z.elim q1 fun z => (of_Gv q).2.1 ⟨i, false, c, hi, by rw [z]; exact h1⟩) q2 q3
  refine ⟨_, h1, s _ σ H st ⟨a, rfl, ⟨⟨by rw [List.length_set]; exact r.len, fun x q => ?_, fun j d q => ?_, fun j b c' q => ?_, fun j k x b c' b' c'' e1 e2 e3 e4 => ?_, fun j x q => r.raw j x (nt q).2⟩, h2, no, h3.mono gv fun _ q => q⟩, .inl ⟨i, false, c, hi, h1⟩⟩⟩
  · rcases q with q | q
    · exact r.oa x q
    · obtain ⟨o, ho⟩ := h3.some
      rw [q, ho]; exact fun z => nomatch z
  · obtain ⟨v, k1, k2⟩ := r.val j d (nt q).2
    exact ⟨v, k1, dp_mono gv _ _ k2⟩
  · obtain ⟨a2, k1, k2, k3⟩ := r.own j b c' (nt q).2
    refine ⟨a2, k1, fun z => z.elim k2 fun z => (nt q).1 (r.inj i j a _ _ _ _ hi (nt q).2 h1 (by rw [← z]; exact k1)), k3.mono gv fun _ q => q⟩
  · exact r.inj j k x _ _ _ _ (nt e1).2 (nt e2).2 e3 e4
end
end DL

namespace DL
open L2 PySem PySem.Spec PyProof.Rows

/-! ### [f, g, h][i](e, ..) -/
theorem FOk.mono {P : Program} {w : World} {K : Frg} {mg : Mg} {base : Heap} {x : Str} {j k : Nat} {ps : List Str} {sp : Sp} (h : FOk P w K mg base x j ps sp) (hj : j ≤ k) : FOk P w K mg base x k ps sp :=
  let ⟨f, fd, a, b, c, d⟩ := h
  ⟨f, fd, a.mono hj, b, c, d⟩
inductive Sel (X : Cx) (k n : Nat) : List Expr → List Addr → List Fn → Prop
  | nil : Sel X k n [] [] []
  | cons {x : Str} {p : Pos} {es : List Expr} {f : Addr} {fs : List Addr} {F : Fn} {Fs : List Fn} (hg : Gl X x) (hd : (x == ("__debug__" : Str)) = false) (hm : X.mg x = some (.ref f))
      (h : ∃ fd ps, FnOk X.prog X.w X.K X.mg X.base (L2N.CX X.prog X.w) k f fd ps (spP X.K X.mg n F) ∧ PySem.W.keepIn X.K (.ref f) = true ∧ Binds X.K fd ps []) (r : Sel X k n es fs Fs) : Sel X k n (.Name x p :: es) (f :: fs) (F :: Fs)
theorem Sel.one {X : Cx} {k j n : Nat} {x : Str} {p : Pos} {ps : List Str} {es : List Expr} {Fs : List Fn} {F : Fn} (C : FOk X.prog X.w X.K X.mg X.base x j ps (spP X.K X.mg n F)) (hj : j ≤ k) (r : ∃ fs, Sel X k n es fs Fs) (hg : Gl X x := by rfl) (hd : (x == ("__debug__" : Str)) = false := by decide) :
    ∃ fs, Sel X k n (.Name x p :: es) fs (F :: Fs) := by
  obtain ⟨f, fd, a, b, c, d⟩ := C.mono hj
  obtain ⟨fs, r⟩ := r
  exact ⟨f :: fs, .cons hg hd b ⟨fd, ps, a, c, d⟩ r⟩
theorem Sel.pa {X : Cx} {k n : Nat} {es : List Expr} {fs : List Addr} {Fs : List Fn} (h : Sel X k n es fs Fs) : PA X es (fun σ H Q => Q (fs.map V.ref) H) := by
  induction h with
  | nil => exact pa_imp pa_nil fun σ H Q q => q
  | @cons x p es f fs F Fs hg hd hm h r ih => exact pa_imp (pa_cons (pe_glob (u := .ref f) hg hm (show RelV (V.ref f) (Value.ref f) from rfl) hd) ih rfl) fun σ H Q q => q
theorem Sel.at {X : Cx} {k n : Nat} {es : List Expr} {fs : List Addr} {Fs : List Fn} (h : Sel X k n es fs Fs) : fs.length = Fs.length ∧ ∀ (i : Nat) (F : Fn), Fs[i]? = some F →
    ∃ f fd ps, fs[i]? = some f ∧ FnOk X.prog X.w X.K X.mg X.base (L2N.CX X.prog X.w) k f fd ps (spP X.K X.mg n F) ∧ PySem.W.keepIn X.K (.ref f) = true ∧ Binds X.K fd ps [] := by
  induction h with
  | nil => exact ⟨rfl, fun i F e => by simp at e⟩
  | @cons x p es f fs F0 Fs hg hd hm h r ih =>
    refine ⟨by simp [ih.1], fun i F e => ?_⟩
    cases i with
    | zero =>
      simp at e; subst e
      obtain ⟨fd, ps, a, b, c⟩ := h
      exact ⟨f, fd, ps, rfl, a, b, c⟩
    | succ i => simpa using ih.2 i F (by simpa using e)
/-- what a call asks of its arguments -/
theorem callD {K : Frg} {mg : Mg} {O : Addr → Prop} {σ : L2.St} {ρ : DEnv} {H : Hp} {W : WX} {n : Nat} {F : Fn} {g : DEnv → Res (List EV)} {Q : VK} (r : RelEnv K O σ H ρ) (hlen : ∀ ρ vs ρ', g ρ = .ok vs ρ' → vs.length = n)
    (s : Sat K mg O σ ρ H W (fun ρ' H' u a => RelE K O σ ρ' H' u a) Q (xCall F g ρ)) : tDA K mg W g σ H (fun us H1 => spP K mg n F us H1 Q (WE W σ)) := by
  refine ⟨O, ρ, r, ?_⟩
  unfold xCall at s
  cases q : g ρ with
  | ok vs ρ1 =>
    rw [q, bindR_ok] at s
    intro us H1 st r1 e1
    obtain ⟨ds, hd, s2⟩ := optR_sat (Sat.shift s st)
    exact call_core (k := 0) r1 e1 hd ((RelEs.len e1).trans (hlen _ _ _ q)) s2
  | err x ρ1 => rw [q] at s; exact s
  | bad => rw [q] at s; exact s
def xSel (Fs : List Fn) (fi : DX) (g : DEnv → Res (List EV)) : DX := fun ρ => bindR (fi ρ) fun j ρ1 => match deref ρ1 j with
  | some (.int i) => match atI Fs i with
    | some F => xCall F g ρ1
    | none => .bad
  | _ => .bad
section
variable {X : Cx} {W : WX} {k n : Nat} {fes : List Expr} {Fs : List Fn} {fi : DX} {g : DEnv → Res (List EV)} {ix e : Expr} {es : List Expr} {lp sp_ pos : Pos}
theorem de_sel (C : ∃ fs, Sel X k n fes fs Fs) (hz : Fs.length ≤ 1000) (hr : Room k X.A) (hx : ∀ σ, PassesAt (L2N.CX X.prog X.w) X σ (WE W σ)) (hi : DE X W ix fi) (ha : DA X W (e :: es) g) (hpi : PlainIx ix := by exact fun _ _ => rfl)
    (ht : eval (.Call (.Subscript (.List fes lp) ix sp_) (e :: es) [] pos) X.env = (do callWith pos (← eval (.Subscript (.List fes lp) ix sp_) X.env) [] (backTo pos (starEach (e :: es) X.env)) (backToKw pos (keywordEach [] X.env))) := by rfl)
    (he : starEach (e :: es) X.env = (false, eval e X.env) :: starEach es X.env := by rfl) (hpl : (backTo pos (starEach es X.env)).any (·.1) = false := by rfl) (hlen : ∀ ρ vs ρ', g ρ = .ok vs ρ' → vs.length = n) :
    DE X W (.Call (.Subscript (.List fes lp) ix sp_) (e :: es) [] pos) (xSel Fs fi g) := by
  obtain ⟨fs, S⟩ := C
  obtain ⟨hl, hat⟩ := S.at
  refine ⟨⟨fun pins s σ H Q I ⟨O, ρ, r, st⟩ => ?_⟩⟩
  have pf := pe_ix (pos := sp_) ix_list (pe_lst (pos := lp) S.pa) hi.pe hpi
  refine Call_ (thn (pf.run pins s σ H (fun v H1 => ∃ f F fd ps O' ρ1, v = .ref f ∧ FnOk X.prog X.w X.K X.mg X.base (L2N.CX X.prog X.w) k f fd ps (spP X.K X.mg n F) ∧ PySem.W.keepIn X.K (.ref f) = true ∧ Binds X.K fd ps [] ∧ RelEnv X.K O' σ H1 ρ1 ∧
    Sat X.K X.mg O' σ ρ1 H1 W (fun ρ' H' u a => RelE X.K O' σ ρ' H' u a) Q (xCall F g ρ1)) I ?_) fun u s1 ⟨v, H1, I1, rv, f, F, fd, ps, O', ρ1, ev, Fo, hk, hb, r1, s2⟩ => ?_) ht
  · refine ⟨by rw [List.length_map, hl]; exact Nat.le_trans hz (by rw [sizeLine_eq]; omega), fun p hp => ⟨_, ρ, r.hidden hp, ?_⟩⟩
    unfold xSel at st
    cases q : fi ρ with
    | err x ρ1 => rw [q] at st; exact fun cls d H2 st2 r2 ex => st cls d H2 ((EStp.same (same_upd hp)).trans st2) r2.unhide ex
    | bad => rw [q] at st; exact st
    | ok j ρ1 =>
      rw [q, bindR_ok] at st
      intro y H2 st2 r2 e2
      split at st
      case h_2 => exact st.elim
      rename_i i hd
      split at st
      case h_2 => exact st.elim
      rename_i F hF
      cases RelE.int e2 r2 hd
      have hF' := hF
      unfold atI at hF'
      cases qn : ixN Fs.length i with
      | none => rw [qn] at hF'; cases hF'
      | some m =>
        rw [qn] at hF'
        obtain ⟨f, fd, ps, hf, Fo, hk, hb⟩ := hat m F hF'
        have np := (r.fresh hp).2
        refine ⟨p, fs.map V.ref, i, .ref f, rfl, rfl, SqL.of (st2.ext _ _ upd_same np), ?_, f, F, fd, ps, O, ρ1, rfl, Fo, hk, hb, r2.unhide, Sat.shift st ((EStp.same (same_upd hp)).trans st2)⟩
        unfold atI
        rw [List.length_map, hl, qn]
        show (fs.map V.ref)[m]? = _
        rw [List.getElem?_map, hf]; rfl
  · subst ev
    obtain rfl : u = Value.ref f := rv
    refine PySem.W.callWith_K (h₀ := X.base) I1.ok.mod.kin hk (thn (ha.pa.run pos pins s1 σ H1 _ I1 (callD r1 hlen s2)) fun us s3 ⟨vs, H3, I3, r3, q3⟩ => ⟨I3.kIn, run_fnS Fo hr hb (hx σ) I3 r3 q3⟩) he hpl
end
end DL

namespace DL
open L2 PySem PySem.Spec PyProof.Rows

/-! ### the law's own def, run from the claim's caller alone (its guards are known) -/
def LawRun (P : Program) (w : World) (K : Frg) (mg : Mg) (base : Heap) (f : Addr) (fd : FuncData) (ps : List Str) (sp : Sp) : Prop :=
  ∀ (s : Shared) (H : Hp) (args : Args) (us : List Value) (vs : List V) (Q : VK), Env0 P w K mg base callerA [] s H → BindsTo s fd args (ps.zip us) → Vals vs us → sp vs H Q (fun _ _ _ => False) →
    codeAny (model P w) callerA (.call (.ref f) args) (CR (L2N.CX P w) [] P w H s Q (fun _ _ _ => False)) s
section
variable {P : Program} {w : World} {K : Frg} {mg : Mg} {base : Heap}
theorem law_run {x qual : Str} {st : Stmt} {f : Addr} {fd : FuncData} {N ps : List Str} {k : Nat} {body : DSt} (F : Fun K x qual st f fd) (S : FnScope N ps (defScope st)) (hroom : Room (k + 1) callerA)
    (hbody : ∀ (cdv : Value) (s : Shared) (H : Hp), Room k (callerA.deeper (envOfC qual (defScope st) s.heap.objs.size f cdv)) →
      L2N.Takes (cxN P w K mg base N qual st f cdv callerA [] s H (fun _ _ _ => False)) (fun _ _ _ _ => False) → PassesOwn (model P w) (cxN P w K mg base N qual st f cdv callerA [] s H (fun _ _ _ => False)).A (cxN P w K mg base N qual st f cdv callerA [] s H (fun _ _ _ => False)).env (cxN P w K mg base N qual st f cdv callerA [] s H (fun _ _ _ => False)).xe →
      DSs (cxN P w K mg base N qual st f cdv callerA [] s H (fun _ _ _ => False)) (fun _ _ _ _ => False) (defBody st) body) :
    LawRun P w K mg base f fd ps (spP K mg ps.length (runF N.length body)) := by
  obtain ⟨oc, od, kV, doc, pm, an, cdv, ct, osl, rfl, lk, hcd⟩ := F.ex
  intro s H args us vs Q e0 hb rv ⟨hl, O, ds, ho, ha, h⟩
  have KX : K.In s.heap := e0.mod.kin.keeps fun b o e => (e0.bs b o e).1
  have kinds : ∀ y ∈ ps.zip us, (defScope st).names.lookup y.1 = some .local ∨ ((defScope st).names.lookup y.1 = some .cell ∧ ((cellsFrom (s.heap.objs.size + 1) (defScope st).names []).lookup y.1).isSome = true) := by
    rintro ⟨n, v⟩ hy
    exact (S.par n (List.of_mem_zip hy).1).imp (fun q => q) fun q => ⟨q, PySem.W.cellsFrom_some _ _ _ (.inl q)⟩
  refine codeAny_call_function (show callerA.depth < recursionLimit from by have := hroom.dp; omega) (KX _ _ lk) rfl S.co S.gen rfl (PySem.W.codeRec_of KX hcd) (hb _ _ _ _ (wpAny_newFunctionEnv_cells S.kind kinds fun env he s1 x => ?_))
  cases he
  refine ⟨(e0.mod.nolimit.keeps fun b o e => (e0.bs b o e).1).keeps x.toInCall.keep, codeAny_func ?_⟩
  have I := L2.inv_start (CX := L2N.CX P w) (E := fun _ _ _ => False) S hroom.hd e0 hl rv x
  have B := hbody cdv s H (hroom.deeper _) (L2N.takes_of rfl rfl rfl rfl) (passes_of rfl)
  have now : ∀ a, ¬ Ow (L2.start N vs) (startD N.length ds) a := fun a ⟨i, b, c, e, _⟩ => startD_own e
  have same : ∀ {σ' : L2.St} {ρ' : DEnv} {H' : Hp}, SStp (L2.start N vs) (startD N.length ds) H σ' ρ' H' → Same H H' := fun st b o e => st.ext b o e (now b)
  have gvs : ∀ {σ' : L2.St} {ρ' : DEnv} {H' : Hp}, ∀ a o, Gv O σ' ρ' H' a = some o → Vis0 O H' a = some o := fun a o q => vis0.mpr ⟨(of_Gv q).1, (of_Gv q).2.2⟩
  have R : SatS K mg O (L2.start N vs) (startD N.length ds) H (fun _ _ _ _ => False) { nx := fun _ H' => Q .non H', rt := Q } (body (startD N.length ds)) := by
    change SatF K mg O H Q _ (match body (startD N.length ds) with
      | .nx _ => .ok (.val .none)
      | .rt v _ => .ok v
      | .err x _ => .err x
      | _ => .bad) at h
    cases q : body (startD N.length ds) with
    | nx ρ' => rw [q] at h; exact fun σ' H' st r => h .non H' (same st) .non
    | rt v ρ' =>
      rw [q] at h
      intro u σ' H' st r
      cases v with
      | val d => exact h u H' (same st) (dp_mono gvs _ _ r.2)
      | own c =>
        obtain ⟨p, rfl, ⟨r1, r2, r3, r4⟩, r5⟩ := r
        exact h p H' (same st) (r5.elim (fun z => absurd z (now p)) fun z => z) (r4.mono (fun a o z => vis0.mpr ⟨(of_Gv z).1, (of_Gv z).2.2⟩) fun _ z => z)
    | bk ρ' => rw [q] at h; exact h.elim
    | ct ρ' => rw [q] at h; exact h.elim
    | err x ρ' => rw [q] at h; exact fun cls d σ' H' st r ex => h cls d H' (same st) ex
    | bad => rw [q] at h; exact h.elim
  refine wpAny_mono (B.pss.run [] s1 (L2.start N vs) H { nx := fun _ H' => Q .non H', rt := Q } I ⟨O, startD N.length ds, start_rel ho ha, R⟩) (fun fl s' hs => ?_) fun e s' hs => hs
  cases fl with
  | ret u => exact let ⟨v, σ', H', J, rv', q⟩ := hs; ⟨v, H', J.os, J.bare, J.base, J.hok, rv', q⟩
  | next => exact let ⟨σ', H', J, q⟩ := hs; ⟨.non, H', J.os, J.bare, J.base, J.hok, (rfl : Value.none = Value.none), q⟩
  | brk => exact let ⟨_, _, _, q⟩ := hs; q.elim
  | cont => exact let ⟨_, _, _, q⟩ := hs; q.elim

/-- the heap as the law finds it: the script may be known, nothing else is -/
def Sees (K : Frg) (s : Shared) (a : Addr) (vs : List Value) (ns : List Int) (H : Hp) : Prop :=
  (∀ b u, H b = some u → b = a ∧ u = .frz { cls := .type "list", data := .seq vs.toArray } (.lst (ns.map V.int)) ∧ K.lookup a = none) ∧ SqL K H a (ns.map V.int) ∧ HOk P w H s.heap
theorem sees_env0 {s : Shared} {a : Addr} {vs : List Value} {ns : List Int} {H : Hp} {mb : Mg} (S : Sees (P := P) (w := w) K s a vs ns H) (ha : s.heap.get? a = some { cls := .type "list", data := .seq vs.toArray }) (KX : K.In s.heap) (hns : s.heap.Ns mainGlobals mg)
    (hb : s.heap.Ns builtinsNs mb) (hbb : ∀ x : Str, x ≠ "__name__" → mb x = bootBuiltins x) (hlim : s.heap.NoLimit) (hg : s.gens = #[]) :
    K.In (hidT s.heap H) ∧ (hidT s.heap H).Ns mainGlobals mg ∧ Env0 P w K mg (hidT s.heap H) callerA [] s H := by
  obtain ⟨only, _, hok⟩ := S
  have dicts : ∀ {b : Addr} {m : Mg}, s.heap.Ns b m → (hidT s.heap H).Ns b m := fun {b m} ⟨o, es, ep, e, d, r⟩ => by
    refine ⟨o, es, ep, hidT_get e ?_, d, r⟩
    cases q : H b with
    | none => rfl
    | some u =>
      obtain ⟨z, _, _⟩ := only b u q
      rw [z, ha] at e
      cases e
      have d' : Data.seq vs.toArray _ = Data.dict es ep := d
      cases d'
  have kin : K.In (hidT s.heap H) := fun b o e => hidT_get (KX b o e) (by
    cases q : H b with
    | none => rfl
    | some u =>
      obtain ⟨z, _, z2⟩ := only b u q
      rw [z, z2] at e; cases e)
  obtain ⟨mc, c1, c2⟩ := hlim
  exact ⟨kin, dicts hns, ⟨rfl, ⟨kin, dicts hns, ⟨mb, dicts hb, hbb⟩, ⟨mc, dicts c1, c2⟩⟩, fun b o e => of_hidT e, Nat.le_of_eq (hidT_size _ _), trivial, (fun b hb => nomatch (show b ∈ ([] : List Addr) from hb)), hok, .of_eq hg⟩⟩
theorem head_call {mb : Mg} {fa a : Addr} {fd : FuncData} {x : Str} {sp : Sp} {s₁ : Shared} {vs : List Value} {ns : List Int}
    (KX : K.In s₁.heap) (hns : s₁.heap.Ns mainGlobals mg) (hb : s₁.heap.Ns builtinsNs mb) (hbb : ∀ x : Str, x ≠ "__name__" → mb x = bootBuiltins x) (hlim : s₁.heap.NoLimit) (hg : s₁.gens = #[])
    (ha : s₁.heap.get? a = some { cls := .type "list", data := .seq vs.toArray }) (hi : IntsAre vs ns) (hl : ns.length ≤ sizeLine)
    (F : ∀ base : Heap, K.In base → base.Ns mainGlobals mg → LawRun P w K mg base fa fd [x] sp) (hbind : ∀ (s : Shared) (u : Value), BindsTo s fd ⟨[u], []⟩ [(x, u)])
    (hsp : ∀ H : Hp, SqL K H a (ns.map V.int) → sp [.ref a] H (fun v _ => v = .bl true) fun _ _ _ => False) :
    codeAny (model P w) callerA (.call (.ref fa) ⟨[.ref a], []⟩) (fun r s' => r = .ok (.ret (.bool true)) ∧ OldK s₁.heap s'.heap ∧ s'.os = s₁.os ∧ AllBare s'.gens) s₁ := by
  have rv := vals_ints hi
  have some_H : ∃ H, Sees (P := P) (w := w) K s₁ a vs ns H := by
    cases hk : K.lookup a with
    | some o =>
      have e := KX a o hk
      rw [ha] at e
      cases e
      exact ⟨fun _ => none, (fun b u z => nomatch (show (none : Option HO) = some u from z)), .inr ⟨_, vs.toArray, _, hk, rfl, rfl, rfl, by rw [List.size_toArray, hi.length]; exact hl, by simpa using rv⟩, (fun b u z => nomatch (show (none : Option HO) = some u from z))⟩
    | none =>
      have key : ∀ b u, (if b = a then some (HO.frz { cls := .type "list", data := .seq vs.toArray } (.lst (ns.map V.int))) else none) = some u → b = a ∧ u = .frz { cls := .type "list", data := .seq vs.toArray } (.lst (ns.map V.int)) := fun b u z => by
        split at z
        · rename_i hba; cases z; exact ⟨hba, rfl⟩
        · cases z
      refine ⟨fun b => if b = a then some (.frz { cls := .type "list", data := .seq vs.toArray } (.lst (ns.map V.int))) else none, fun b u z => ⟨(key b u z).1, (key b u z).2, hk⟩, .inl (.inr ⟨_, if_pos rfl⟩), fun b u z => ?_⟩
      obtain ⟨rfl, rfl⟩ := key b u z
      exact ⟨ha, by rw [List.length_map]; exact hl, vs, _, rv, ha⟩
  obtain ⟨H, S⟩ := some_H
  obtain ⟨k1, k2, e0⟩ := sees_env0 S ha KX hns hb hbb hlim hg
  refine codeAny_mono (F _ k1 k2 s₁ H ⟨[.ref a], []⟩ [.ref a] [.ref a] _ e0 (hbind s₁ (.ref a)) (.cons rfl .nil) (hsp H S.2.1)) fun r s' h => ?_
  cases r with
  | error e => obtain ⟨_, _, _, _, _, _, _, _, _, _, _, _, z⟩ := h; exact z.elim
  | ok fl =>
    cases fl with
    | next => exact False.elim h
    | brk => exact False.elim h
    | cont => exact False.elim h
    | ret u =>
      obtain ⟨v, H', os, bare, un, hok', r', q⟩ := h
      cases (show v = .bl true from q)
      cases (show u = Value.bool true from r')
      refine ⟨rfl, OldK.of_keep fun b o e => ?_, os, bare⟩
      cases z : H b with
      | none => exact un.keep b o e z (fun q => nomatch (show b ∈ ([] : List Addr) from q)) (fun q => nomatch (show b ∈ ([] : List Addr) from q))
      | some u =>
        obtain ⟨_, zu, _⟩ := S.1 b u z
        subst zu
        have t1 := (S.2.2 b _ z).1
        rw [e] at t1
        cases t1
        exact (hok' b _ (un.frzs b _ _ z)).1
theorem walk_D {l : PySem.W.OpenLaw} {n : Nat} {q : Program} {loose : List Str} {XP : (Str → Option Value) → Heap → Prop} {YP : World → Heap → Prop} {d : DefRec} {K : Params → Frg} {x : Str}
    (hn : l.most = some n) (hn2 : n ≤ sizeLine) (hdf : d.params.defaults = []) (hY : ∀ (w : World) (h : Heap), YP w h → (K w.params).In h)
    (F : ∀ (w : World) (mg : Mg) (fa : Addr) (h : Heap), (K w.params).In h → h.Ns mainGlobals mg → mg d.name = some (.ref fa) →
      ∃ (fd : FuncData) (Fl : Fn), (∀ (s : Shared) (u : Value), BindsTo s fd ⟨[u], []⟩ [(x, u)]) ∧ (∀ ns : List Int, ns.length ≤ n → (∀ z ∈ ns, Builtin.Int.intBits z ≤ 1048576) → Fl [.list (ns.map PyData.int)] = .ok (.val (.bool true))) ∧
        ∀ base : Heap, (K w.params).In base → base.Ns mainGlobals mg → LawRun l.prog w (K w.params) mg base fa fd [x] (spP (K w.params) mg 1 Fl)) :
    PySem.W.WalkO q loose XP YP l.row.toRowW d [] (fun f vs => PySem.call f vs) := by
  refine Att.attach_callB hn hdf fun w s₀ s₁ mg mb fa o pm cd doc a vs ns G Y ho hd hcd hmg hobj hints hlen hbits hg => ?_
  obtain ⟨fd, Fl, hb, hF, hrun⟩ := F w mg fa _ (hY w _ Y) G.T.g hmg
  refine head_call (hY w _ Y) G.T.g G.T.b G.T.builtins G.T.nolimit hg hobj hints (Nat.le_trans hlen hn2) hrun hb fun H hS => ⟨rfl, fun _ => False, [.list (ns.map PyData.int)], fun _ z => z.elim, ?_, ?_⟩
  · exact .cons (.lst (SqL.mono (fun b o e => vis0.mpr ⟨fun z => z, e⟩) hS) (DpAll.of_ints ns)) .nil
  · rw [hF ns hlen hbits]
    exact fun u H' _ hu => by cases hu; rfl
end
end DL

namespace DL
open L2 PySem PySem.Spec PyProof.Rows

/-! ### what the top has written -/
def Cst (mg : Mg) (x : Str) (n : Int) : Prop := ∃ t, mg x = some (.int n t)
theorem de_cint {X : Cx} {W : WX} {x : Str} {n : Int} {pos : Pos} (c : Cst X.mg x n) (hg : Gl X x := by rfl) (hd : (x == ("__debug__" : Str)) = false := by decide) : DE X W (.Name x pos) (xC (.int n)) := by
  obtain ⟨t, h⟩ := c
  exact de_glob (v := V.int n) h ⟨t, rfl⟩ (fun _ => L2.Dp.int n) hg hd
def Def (K : Frg) (mg : Mg) (x : Str) (st : Stmt) : Prop := ∃ f fd, Fun K x x st f fd ∧ mg x = some (.ref f)
def BindOk (x : Str) (st : Stmt) (ps : List Str) : Prop :=
  ∀ (kV doc pm : Value) (an : Option Addr) (cdv ct : Value) (us : List Value), us.length = ps.length → bindArgs (PySem.W.fnOf x x (defArgs st) (defBody st) (defScope st) .none kV doc pm an cdv ct) ⟨us, []⟩ = pure (ps.zip us)
theorem room_u {k : Nat} {A : Around} (r : Room k A) : A.units + 200 < cLine := by have := r.un; omega
section
variable {P : Program} {w : World} {K : Frg} {mg : Mg} {base : Heap}
theorem fok_data {x : Str} {st : Stmt} {N ps : List Str} {k : Nat} {body : DSt} (D : Def K mg x st) (S : FnScope N ps (defScope st)) (hb : BindOk x st ps)
    (hbody : ∀ (f : Addr) (cdv : Value) (A : Around) (outer : List Env) (s : Shared) (H : Hp) (E : XK), Room k (A.deeper (envOfC x (defScope st) s.heap.objs.size f cdv)) →
      L2N.Takes (cxN P w K mg base N x st f cdv A outer s H E) (fun cls d _ H => E cls d H) → PassesOwn (model P w) (cxN P w K mg base N x st f cdv A outer s H E).A (cxN P w K mg base N x st f cdv A outer s H E).env (cxN P w K mg base N x st f cdv A outer s H E).xe →
      DSs (cxN P w K mg base N x st f cdv A outer s H E) (fun cls d _ H => E cls d H) (defBody st) body) :
    FOk P w K mg base x (k + 1) ps (spP K mg ps.length (runF N.length body)) := by
  obtain ⟨f, fd, F, hm⟩ := D
  exact ⟨f, fd, fn_data F S (hbody f), hm, F.kp, F.binds hb⟩
theorem fok_io {x : Str} {st : Stmt} {N ps : List Str} {k : Nat} {body : DSt} (D : Def K mg x st) (S : FnScope N ps (defScope st)) (hN : 0 < N.length) (hb : BindOk x st ps)
    (hbody : ∀ (f : Addr) (cdv : Value) (A : Around) (outer : List Env) (s : Shared) (H : Hp) (E : XK), Room k (A.deeper (envOfC x (defScope st) s.heap.objs.size f cdv)) →
      L2N.Takes (cxN P w K mg base N x st f cdv A outer s H E) (fun cls d _ H => E cls d H) → PassesOwn (model P w) (cxN P w K mg base N x st f cdv A outer s H E).A (cxN P w K mg base N x st f cdv A outer s H E).env (cxN P w K mg base N x st f cdv A outer s H E).xe →
      DSs (cxN P w K mg base N x st f cdv A outer s H E) (fun cls d _ H => E cls d H) (defBody st) body) :
    FOk P w K mg base x (k + 1) ps (spI K ps.length (runI N.length body)) := by
  obtain ⟨f, fd, F, hm⟩ := D
  exact ⟨f, fd, fn_io F S hN (hbody f), hm, F.kp, F.binds hb⟩
theorem mflat_count : ∀ ds as z, mCount ds as = some z → ∃ v, flat z = some v := fun ds as z h => by
  unfold mCount at h
  split at h
  · split at h
    · cases h; exact ⟨_, rfl⟩
    · cases h
  · cases h
theorem mflat_index : ∀ ds as z, mIndex ds as = some z → ∃ v, flat z = some v := fun ds as z h => by
  unfold mIndex at h
  split at h
  · split at h
    · cases q : ds.findIdx? fun y => PyData.eqv y _ with
      | none => rw [q] at h; cases h
      | some j => rw [q] at h; cases h; exact ⟨_, rfl⟩
    · cases h
  · cases h

/-! ### a def that tells the kind of a caught exception -/
def KOk (P : Program) (w : World) (K : Frg) (mg : Mg) (base : Heap) (x : Str) (k : Nat) (c : Value) (hd : Exn → Option D) : Prop :=
  ∃ f fd ps, mg x = some (.ref f) ∧ PySem.W.keepIn K (.ref f) = true ∧ Binds K fd ps [] ∧ ∀ y d, hd y = some d → ∃ C, mg y.cls = some (.ref C) ∧ y.arg = none ∧ PySem.W.exmOne K (.ref C) c = some true ∧ (∃ v, flat d = some v) ∧ KFn P w K mg base k f fd ps C d
theorem suite_kind {X : Cx} {x n : Str} {k k' i : Nat} {c : Value} {hd : Exn → Option D} {q p pos : Pos} (Kk : KOk X.prog X.w X.K X.mg X.base x k c hd) (hr : Room k' X.A) (hk : k ≤ k') (hv : ∀ a pn, PE (X.suite a pn) (.Name n p) (tVar i)) (hg : Gl X x := by rfl) (hdb : (x == ("__debug__" : Str)) = false := by decide) :
    ∀ y d, hd y = some d → ∃ C, X.mg y.cls = some (.ref C) ∧ y.arg = none ∧ PySem.W.exmOne X.K (.ref C) c = some true ∧ ∀ (a : Addr) (oe : Obj) (pn : List (Addr × Obj)), L2N.Zn (.ref C) none oe → (∃ vs, oe.data = .fields vs) →
      ∃ f, DE (X.suite a ((a, oe) :: pn)) W0 (.Call (.Name x q) [.Name n p] [] pos) f ∧ ∀ ρ, ρ[i]? = some (some (.raw a)) → f ρ = .ok (.val d) ρ := by
  obtain ⟨f, fd, ps, hm, hkp, hb, h⟩ := Kk
  intro y d hy
  obtain ⟨C, h1, h2, h3, h4, F⟩ := h y d hy
  refine ⟨C, h1, h2, h3, fun a oe pn hz hfl => ?_⟩
  obtain ⟨vs, hvs⟩ := hfl
  have r := hr.mono hk
  refine ⟨xKind i a d, de_kind (X := X.suite a ((a, oe) :: pn)) (p := (a, oe)) ⟨rfl, vs, hvs, hz.2.2 vs hvs⟩ List.mem_cons_self hz F ⟨r.dp, r.un⟩ hm hkp hb (hv a _) h4 hg hdb, fun ρ e => ?_⟩
  unfold xKind
  rw [e]
  exact if_pos rfl
/-- a suite that hands back a constant -/
theorem suite_const {X : Cx} {x : Str} {i : Nat} {c : Value} {hd : Exn → Option D} {e : Expr} {d0 : D} (he : ∀ a pn, DE (X.suite a pn) W0 e (xC d0)) (h : ∀ y d, hd y = some d → d = d0 ∧ ∃ C, X.mg y.cls = some (.ref C) ∧ y.arg = none ∧ PySem.W.exmOne X.K (.ref C) c = some true) :
    ∀ y d, hd y = some d → ∃ C, X.mg y.cls = some (.ref C) ∧ y.arg = none ∧ PySem.W.exmOne X.K (.ref C) c = some true ∧ ∀ (a : Addr) (oe : Obj) (pn : List (Addr × Obj)), L2N.Zn (.ref C) none oe → (∃ vs, oe.data = .fields vs) →
      ∃ f, DE (X.suite a ((a, oe) :: pn)) W0 e f ∧ ∀ ρ, ρ[i]? = some (some (.raw a)) → f ρ = .ok (.val d) ρ := fun y d hy => by
  obtain ⟨rfl, C, h1, h2, h3⟩ := h y d hy
  exact ⟨C, h1, h2, h3, fun a oe pn _ _ => ⟨_, he a _, fun ρ _ => rfl⟩⟩
theorem kok_of {x : Str} {st : Stmt} {N ps : List Str} {k : Nat} {c : Value} {hd : Exn → Option D} (D : Def K mg x st) (S : FnScope N ps (defScope st)) (hb : BindOk x st ps) (h1 : ps.length = 1) (hN : 0 < N.length)
    (h : ∀ y d, hd y = some d → ∃ C, mg y.cls = some (.ref C) ∧ y.arg = none ∧ PySem.W.exmOne K (.ref C) c = some true ∧ (∃ v, flat d = some v) ∧ ∃ body : Addr → DSt, (∀ a, ∃ ρ', body a (startK N.length a) = .rt (.val d) ρ') ∧
      ∀ (f : Addr) (cdv : Value) (A : Around) (outer : List Env) (s : Shared) (H : Hp) (E : XK) (p : Addr × Obj), L2H.Hot1 A p → L2N.Zn (.ref C) none p.2 → L2H.RoomH k (A.deeper (envOfC x (defScope st) s.heap.objs.size f cdv)) →
        DSs (L2H.cxH (L2N.CX P w) P w K mg base N x (defScope st) f cdv A outer s H E p) W0 (defBody st) (body p.1)) : KOk P w K mg base x (k + 1) c hd := by
  obtain ⟨f, fd, F, hm⟩ := D
  refine ⟨f, fd, ps, hm, F.kp, F.binds hb, fun y d hy => ?_⟩
  obtain ⟨C, k1, k2, k3, k4, body, k5, k6⟩ := h y d hy
  exact ⟨C, k1, k2, k3, k4, kfn_of F S h1 hN (k6 f) k5⟩
end
theorem de_isT {X : Cx} {W : WX} {i : Nat} {a C : Addr} {oe : Obj} {b : Bool} {x y : Str} {p px py pos : Pos} (c : ExcC X.K C) (hp : (a, oe) ∈ X.pn) (hz : Zc (.ref C) none oe) (hf : ∃ vs, oe.data = .fields vs) (hm : X.mg "isinstance" = none) (hb : bootBuiltins "isinstance" = some (.builtin "isinstance")) (hv : PE X (.Name x px) (tVar i))
    (hk : ∃ G, X.mg y = some (.ref G) ∧ PySem.W.kitOne X.K (.ref C) (.ref G) = some b) (hg : Gl X "isinstance" := by rfl) (hgy : Gl X y := by rfl) (hdy : (y == ("__debug__" : Str)) = false := by decide)
    (hs : starEach [.Name x px, .Name y py] X.env = (false, eval (.Name x px) X.env) :: starEach [.Name y py] X.env := by rfl) (hs2 : starEach [.Name y py] X.env = (false, eval (.Name y py) X.env) :: starEach [] X.env := by rfl) (hpl : (backTo pos (starEach [.Name y py] X.env)).any (·.1) = false := by rfl) :
    DE X W (.Call (.Name "isinstance" p) [.Name x px, .Name y py] [] pos) (xIs i a b) := by
  obtain ⟨G, h1, h2⟩ := hk
  exact de_isE hp c hz hf hm hb hv h1 h2 hg hgy hdy hs hs2 hpl
theorem kit_of {K : Frg} {C E : Addr} {b : Bool} (h2 : PySem.W.hasDictIn K E = true) (h3 : PySem.W.typeIn K (.ref E) = some (.type "type")) (h4 : PySem.W.subIn K (.ref C) (.ref E) = some b) (h5 : PySem.W.subIn K (.ref E) (.ref E) = some true) : PySem.W.kitOne K (.ref C) (.ref E) = some b := by
  obtain ⟨cd, hc, _⟩ := PySem.W.any_some h2
  have e2 : ((PySem.W.clsIn K E).isSome && PySem.W.typeIn K (.ref E) == some (.type "type")) = true := by rw [hc, h3] <;> rfl
  unfold PySem.W.kitOne
  by_cases q : (Value.ref C == Value.ref E) = true
  · rw [if_pos q]
    cases beq_iff_eq.mp q
    rw [h5] at h4
    exact h4
  · rw [if_neg q]
    show (if ((PySem.W.clsIn K E).isSome && PySem.W.typeIn K (.ref E) == some (.type "type")) = true then PySem.W.subIn K (.ref C) (.ref E) else none) = some b
    rw [if_pos e2]
    exact h4
theorem u_count {n : Nat} (h : n + 200 < cLine) : n + 66 < cLine := by omega
theorem u_index {n : Nat} (h : n + 200 < cLine) : n + 65 < cLine := by omega
/-- what a table of kinds tells -/
def kindD (tab : List (Str × Str)) : Exn → Option D := fun y => if y.arg.isSome = true then none else (tab.lookup y.cls).map PyData.str
theorem kindD_mem {tab : List (Str × Str)} {y : Exn} {d : D} (h : kindD tab y = some d) : ∃ x z, (x, z) ∈ tab ∧ y = ⟨x, none⟩ ∧ d = .str z := by
  obtain ⟨cls, arg⟩ := y
  unfold kindD at h
  cases arg with
  | some _ => cases h
  | none =>
    change (tab.lookup cls).map PyData.str = some d at h
    cases q : tab.lookup cls with
    | none => rw [q] at h; cases h
    | some z => rw [q] at h; cases h; exact ⟨cls, z, PySem.mem_of_lookup q, rfl, rfl⟩
end DL

namespace DL
open L2 PySem PySem.Spec PyProof.Rows

/-! ### the mirrors, stepped by simp -/
section
variable {α β γ : Type} {ρ : DEnv} {i j : Nat} {fa fb fc : DX} {ta tb : DEnv → Res Bool} {g h : DSt} {ga : DEnv → Res (List EV)} {fl : DEnv → Res Cell}
@[simp] theorem sl_eq : (sizeLine : Nat) = 16777216 := sizeLine_eq
@[simp] theorem xVar_ap : xVar i ρ = match ρ[i]? with
  | some (some (.val d)) => .ok (.val d) ρ
  | some (some (.own _ _)) => .ok (.bor i) ρ
  | _ => .bad := (Eq.refl _).trans (Eq.refl _)
@[simp] theorem xC_ap {d : D} : xC d ρ = .ok (.val d) ρ := (Eq.refl _).trans (Eq.refl _)
@[simp] theorem deref_val {d : D} : deref ρ (.val d) = some d := (Eq.refl _).trans (Eq.refl _)
@[simp] theorem deref_bor : deref ρ (.bor i) = match ρ[i]? with
  | some (some (.own _ (.lst ds))) => some (.list ds)
  | some (some (.val d)) => some d
  | _ => none := (Eq.refl _).trans (Eq.refl _)
@[simp] theorem keep_val {d : D} : keep (.val d) ρ = some (d, ρ) := (Eq.refl _).trans (Eq.refl _)
@[simp] theorem keep_bor : keep (.bor i) ρ = match ρ[i]? with
  | some (some (.own false (.lst ds))) => some (.list ds, ρ.set i (some (.val (.list ds))))
  | some (some (.val d)) => some (d, ρ)
  | _ => none := (Eq.refl _).trans (Eq.refl _)
@[simp] theorem keeps_nil : keeps [] ρ = some ([], ρ) := (Eq.refl _).trans (Eq.refl _)
@[simp] theorem keeps_cons {v : EV} {vs : List EV} : keeps (v :: vs) ρ = match keep v ρ with
    | some (d, ρ1) => match keeps vs ρ1 with
      | some (ds, ρ2) => some (d :: ds, ρ2)
      | none => none
    | none => none := (Eq.refl _).trans (Eq.refl _)
@[simp] theorem derefs_nil : derefs ρ [] = some [] := (Eq.refl _).trans (Eq.refl _)
@[simp] theorem derefs_cons {v : EV} {vs : List EV} : derefs ρ (v :: vs) = match deref ρ v with
    | some d => match derefs ρ vs with
      | some ds => some (d :: ds)
      | none => none
    | none => none := (Eq.refl _).trans (Eq.refl _)
@[simp] theorem x2_ap {k : D → D → Option D} : x2 k fa fb ρ = bindR (fa ρ) fun a ρ1 => bindR (fb ρ1) fun b ρ2 => optR (deref ρ2 a) fun d => optR (deref ρ2 b) fun e => optR (k d e) fun z => .ok (.val z) ρ2 := (Eq.refl _).trans (Eq.refl _)
@[simp] theorem x2L_ap {k : D → D → Option (List D)} : x2L k fa fb ρ = bindR (fa ρ) fun a ρ1 => bindR (fb ρ1) fun b ρ2 => optR (deref ρ2 a) fun d => optR (deref ρ2 b) fun e => optR (k d e) fun z => .ok (.lst z) ρ2 := (Eq.refl _).trans (Eq.refl _)
@[simp] theorem x1_ap {k : D → Option D} : x1 k fa ρ = bindR (fa ρ) fun a ρ1 => optR (deref ρ1 a) fun d => optR (k d) fun z => .ok (.val z) ρ1 := (Eq.refl _).trans (Eq.refl _)
@[simp] theorem xt2_ap {k : D → D → Option Bool} : xt2 k fa fb ρ = bindR (fa ρ) fun a ρ1 => bindR (fb ρ1) fun b ρ2 => optR (deref ρ2 a) fun d => optR (deref ρ2 b) fun e => optR (k d e) fun z => .ok z ρ2 := (Eq.refl _).trans (Eq.refl _)
@[simp] theorem xTr_ap : xTr fa ρ = bindR (fa ρ) fun a ρ1 => optR (deref ρ1 a) fun d => optR (truthD d) fun k => .ok k ρ1 := (Eq.refl _).trans (Eq.refl _)
@[simp] theorem xChain_ap {k k' : D → D → Option Bool} : xChain k k' fa fb fc ρ = bindR (fa ρ) fun a ρ1 => bindR (fb ρ1) fun b ρ2 => optR (deref ρ2 a) fun d => optR (deref ρ2 b) fun e => optR (k d e) fun z =>
  if z = true then bindR (fc ρ2) fun c ρ3 => optR (deref ρ3 b) fun e' => optR (deref ρ3 c) fun f => optR (k' e' f) fun z' => .ok z' ρ3 else .ok false ρ2 := (Eq.refl _).trans (Eq.refl _)
@[simp] theorem xOfT_ap : xOfT ta ρ = bindR (ta ρ) fun k ρ1 => .ok (.val (.bool k)) ρ1 := (Eq.refl _).trans (Eq.refl _)
@[simp] theorem xtNot_ap : xtNot ta ρ = bindR (ta ρ) fun k ρ1 => .ok (!k) ρ1 := (Eq.refl _).trans (Eq.refl _)
@[simp] theorem xtAnd_ap : xtAnd ta tb ρ = bindR (ta ρ) fun k ρ1 => if k = true then tb ρ1 else .ok false ρ1 := (Eq.refl _).trans (Eq.refl _)
@[simp] theorem xtOr_ap : xtOr ta tb ρ = bindR (ta ρ) fun k ρ1 => if k = true then .ok true ρ1 else tb ρ1 := (Eq.refl _).trans (Eq.refl _)
@[simp] theorem xAnd_ap : xAnd fa fb ρ = bindR (fa ρ) fun a ρ1 => optR (deref ρ1 a) fun d => optR (truthD d) fun k => if k = true then fb ρ1 else .ok a ρ1 := (Eq.refl _).trans (Eq.refl _)
@[simp] theorem xOr_ap : xOr fa fb ρ = bindR (fa ρ) fun a ρ1 => optR (deref ρ1 a) fun d => optR (truthD d) fun k => if k = true then .ok a ρ1 else fb ρ1 := (Eq.refl _).trans (Eq.refl _)
@[simp] theorem xNot_ap : xNot fa ρ = bindR (fa ρ) fun a ρ1 => optR (deref ρ1 a) fun d => optR (truthD d) fun k => .ok (.val (.bool (!k))) ρ1 := (Eq.refl _).trans (Eq.refl _)
@[simp] theorem xIf_ap : xIf ta fa fb ρ = bindR (ta ρ) fun k ρ1 => if k = true then fa ρ1 else fb ρ1 := (Eq.refl _).trans (Eq.refl _)
@[simp] theorem aNil_ap : aNil ρ = .ok [] ρ := (Eq.refl _).trans (Eq.refl _)
@[simp] theorem aCons_ap : aCons fa ga ρ = bindR (fa ρ) fun v ρ1 => bindR (ga ρ1) fun vs ρ2 => .ok (v :: vs) ρ2 := (Eq.refl _).trans (Eq.refl _)
@[simp] theorem xTup_ap : xTup ga ρ = bindR (ga ρ) fun vs ρ1 => optR (keeps vs ρ1) fun p => if p.1.length ≤ sizeLine then .ok (.val (.tuple p.1)) p.2 else .bad := (Eq.refl _).trans (Eq.refl _)
@[simp] theorem xLst_ap : xLst ga ρ = bindR (ga ρ) fun vs ρ1 => optR (keeps vs ρ1) fun p => if p.1.length ≤ sizeLine then .ok (.lst p.1) p.2 else .bad := (Eq.refl _).trans (Eq.refl _)
def cellR (c : Cell) (ρ' : DEnv) : Res EV := match c with
  | .lst ds => .ok (.val (.list ds)) ρ'
  | _ => .bad
@[simp] theorem cellR_lst {ds : List D} : cellR (.lst ds) ρ = .ok (.val (.list ds)) ρ := (Eq.refl _).trans (Eq.refl _)
@[simp] theorem ofL_ap : ofL fl ρ = bindR (fl ρ) cellR := (Eq.refl _).trans (Eq.refl _)
@[simp] theorem xCB_ap {k : List D → Option D} : xCB k ga ρ = bindR (ga ρ) fun vs ρ1 => optR (derefs ρ1 vs) fun ds => optR (k ds) fun z => .ok (.val z) ρ1 := (Eq.refl _).trans (Eq.refl _)
@[simp] theorem xCBL_ap {k : List D → Option (List D)} : xCBL k ga ρ = bindR (ga ρ) fun vs ρ1 => optR (derefs ρ1 vs) fun ds => optR (k ds) fun z => .ok (.lst z) ρ1 := (Eq.refl _).trans (Eq.refl _)
@[simp] theorem optR_ite {c : Prop} [Decidable c] {a b : Option α} {k : α → Res β} : optR (if c then a else b) k = if c then optR a k else optR b k := by split <;> rfl
@[simp] theorem optF_ite {c : Prop} [Decidable c] {a b : Option α} {k : α → Fl} : optF (if c then a else b) k = if c then optF a k else optF b k := by split <;> rfl
@[simp] theorem bindR_ite {c : Prop} [Decidable c] {a b : Res α} {k : α → DEnv → Res β} : bindR (if c then a else b) k = if c then bindR a k else bindR b k := by split <;> rfl
@[simp] theorem bindF_ite {c : Prop} [Decidable c] {a b : Res α} {k : α → DEnv → Fl} : bindF (if c then a else b) k = if c then bindF a k else bindF b k := by split <;> rfl
@[simp] theorem seqF_ite {c : Prop} [Decidable c] {a b : Fl} : seqF (if c then a else b) g = if c then seqF a g else seqF b g := by split <;> rfl
@[simp] theorem gNext_ap : gNext ρ = .nx ρ := (Eq.refl _).trans (Eq.refl _)
@[simp] theorem gSeq_ap : gSeq g h ρ = seqF (g ρ) h := (Eq.refl _).trans (Eq.refl _)
@[simp] theorem gBreak_ap : gBreak ρ = .bk ρ := (Eq.refl _).trans (Eq.refl _)
@[simp] theorem gCont_ap : gCont ρ = .ct ρ := (Eq.refl _).trans (Eq.refl _)
@[simp] theorem gIf_ap : gIf ta g h ρ = bindF (ta ρ) fun k ρ1 => if k = true then g ρ1 else h ρ1 := (Eq.refl _).trans (Eq.refl _)
@[simp] theorem gExpr_ap : gExpr fa ρ = bindF (fa ρ) fun _ ρ1 => .nx ρ1 := (Eq.refl _).trans (Eq.refl _)
@[simp] theorem gRet_ap : gRet fa ρ = bindF (fa ρ) fun v ρ1 => optF (keep v ρ1) fun p => .rt (.val p.1) p.2 := (Eq.refl _).trans (Eq.refl _)
@[simp] theorem gRetL_ap : gRetL fl ρ = bindF (fl ρ) fun c ρ1 => .rt (.own c) ρ1 := (Eq.refl _).trans (Eq.refl _)
@[simp] theorem gRetN_ap : gRetN ρ = .rt (.val .none) ρ := (Eq.refl _).trans (Eq.refl _)
@[simp] theorem gRetOwn_ap : gRetOwn i ρ = match ρ[i]? with
  | some (some (.own false c)) => .rt (.own c) (ρ.set i none)
  | _ => .bad := (Eq.refl _).trans (Eq.refl _)
@[simp] theorem isIo_none : isIo none = false := (Eq.refl _).trans (Eq.refl _)
@[simp] theorem isIo_some {x : Option SV} : isIo (some x) = match x with
  | some (.own true _) => true
  | _ => false := by
  cases x with
  | none => rfl
  | some v => cases v <;> first | rfl | (rename_i b _; cases b <;> rfl)
@[simp] theorem isOwn_none : isOwn none = false := (Eq.refl _).trans (Eq.refl _)
@[simp] theorem isOwn_some {x : Option SV} : isOwn (some x) = match x with
  | some (.own _ _) => true
  | _ => false := by
  cases x with
  | none => rfl
  | some v => cases v <;> rfl
@[simp] theorem gSet_ap : gSet i fa ρ = bindF (fa ρ) fun v ρ1 => optF (keep v ρ1) fun p => if isIo p.2[i]? = true then .bad else .nx (p.2.set i (some (.val p.1))) := (Eq.refl _).trans (Eq.refl _)
@[simp] theorem gSetL_ap : gSetL i fl ρ = bindF (fl ρ) fun c ρ1 => if isIo ρ1[i]? = true then .bad else .nx (ρ1.set i (some (.own false c))) := (Eq.refl _).trans (Eq.refl _)
@[simp] theorem gPar_ap : gPar i j ga ρ = bindF (ga ρ) fun vs ρ1 => optF (keeps vs ρ1) fun p => match p.1 with
  | [d, e] => if (isIo p.2[i]? || isIo (p.2.set i (some (.val d)))[j]?) = true then .bad else .nx ((p.2.set i (some (.val d))).set j (some (.val e)))
  | _ => .bad := (Eq.refl _).trans (Eq.refl _)
@[simp] theorem gAsg_ap {bind : D → DEnv → Option DEnv} : gAsg fa bind ρ = bindF (fa ρ) fun v ρ1 => optF (keep v ρ1) fun p => optF (bind p.1 p.2) fun ρ3 => .nx ρ3 := (Eq.refl _).trans (Eq.refl _)
@[simp] theorem gRaise_ap {x : Str} : gRaise x ρ = .err ⟨x, none⟩ ρ := (Eq.refl _).trans (Eq.refl _)
@[simp] theorem gTry_ap {hd : Exn → Option D} : gTry i g hd ρ = match g ρ with
  | .err x ρ1 => if (ρ1[i]?.isNone || isIo ρ1[i]?) = true then .bad else match hd x with
    | some d => .rt (.val d) (ρ1.set i none)
    | none => .bad
  | z => z := (Eq.refl _).trans (Eq.refl _)
@[simp] theorem truthD_none : truthD .none = some false := (Eq.refl _).trans (Eq.refl _)
@[simp] theorem truthD_bool {b : Bool} : truthD (.bool b) = some b := (Eq.refl _).trans (Eq.refl _)
@[simp] theorem truthD_int {n : Int} : truthD (.int n) = some (n != 0) := (Eq.refl _).trans (Eq.refl _)
@[simp] theorem truthD_list {ds : List D} : truthD (.list ds) = some (!ds.isEmpty) := (Eq.refl _).trans (Eq.refl _)
@[simp] theorem truthD_tuple {ds : List D} : truthD (.tuple ds) = some (!ds.isEmpty) := (Eq.refl _).trans (Eq.refl _)
@[simp] theorem kB_ap {k : D → D → Option Bool} {d e : D} : kB k d e = (k d e).map .bool := (Eq.refl _).trans (Eq.refl _)
@[simp] theorem optR_map {f : α → γ} {o : Option α} {k : γ → Res β} : optR (o.map f) k = optR o fun a => k (f a) := by cases o <;> rfl
@[simp] theorem kAdd_int {a b : Int} : kAdd (.int a) (.int b) = some (.int (a + b)) := (Eq.refl _).trans (Eq.refl _)
@[simp] theorem kAdd_tup {a b : List D} : kAdd (.tuple a) (.tuple b) = if a.length + b.length ≤ sizeLine then some (.tuple (a ++ b)) else none := (Eq.refl _).trans (Eq.refl _)
@[simp] theorem kSub_int {a b : Int} : kSub (.int a) (.int b) = some (.int (a - b)) := (Eq.refl _).trans (Eq.refl _)
@[simp] theorem kNeg_int {a : Int} : kNeg (.int a) = some (.int (-a)) := (Eq.refl _).trans (Eq.refl _)
@[simp] theorem kMul_int {a b : Int} : kMul (.int a) (.int b) = if mulOk a b = true then some (.int (a * b)) else none := (Eq.refl _).trans (Eq.refl _)
@[simp] theorem kMulT_ap {a : List D} {b : Int} : kMulT (.tuple a) (.int b) = if b ≤ 1000 ∧ a.length ≤ 1000 ∧ -1000 ≤ b then some (.tuple (List.replicate b.toNat a).flatten) else none := (Eq.refl _).trans (Eq.refl _)
@[simp] theorem kDiv_int {a b : Int} : kDiv (.int a) (.int b) = if divOk b = true then some (.int (a.fdiv b)) else none := (Eq.refl _).trans (Eq.refl _)
@[simp] theorem kMod_int {a b : Int} : kMod (.int a) (.int b) = if b ≠ 0 then some (.int (a.fmod b)) else none := (Eq.refl _).trans (Eq.refl _)
@[simp] theorem kAddL_ap {a b : List D} : kAddL (.list a) (.list b) = if a.length + b.length ≤ sizeLine then some (a ++ b) else none := (Eq.refl _).trans (Eq.refl _)
@[simp] theorem kLt_int {a b : Int} : kLt (.int a) (.int b) = some (decide (a < b)) := (Eq.refl _).trans (Eq.refl _)
@[simp] theorem kGt_int {a b : Int} : kGt (.int a) (.int b) = some (decide (b < a)) := (Eq.refl _).trans (Eq.refl _)
@[simp] theorem kLe_int {a b : Int} : kLe (.int a) (.int b) = some (decide (a ≤ b)) := (Eq.refl _).trans (Eq.refl _)
@[simp] theorem kGe_int {a b : Int} : kGe (.int a) (.int b) = some (decide (b ≤ a)) := (Eq.refl _).trans (Eq.refl _)
@[simp] theorem kEq_int {a b : Int} : kEq (.int a) (.int b) = some (decide (a = b)) := by
  simp [kEq, SeqAt.shaped, PyData.canLay0, PyData.depth, PyData.eqv]; rfl
@[simp] theorem kNe_int {a b : Int} : kNe (.int a) (.int b) = some (!decide (a = b)) := by
  simp [kNe, SeqAt.shaped, PyData.canLay0, PyData.depth, PyData.eqv]; rfl
@[simp] theorem kNe_str {a b : Str} : kNe (.str a) (.str b) = some (!decide (a = b)) := (Eq.refl _).trans (Eq.refl _)
@[simp] theorem kEq_str {a b : Str} : kEq (.str a) (.str b) = some (decide (a = b)) := (Eq.refl _).trans (Eq.refl _)
@[simp] theorem kIs_none {d : D} : kIs d .none = some (match d with
  | .none => true
  | _ => false) := by cases d <;> rfl
@[simp] theorem kIsNot_bool {a b : Bool} : kIsNot (.bool a) (.bool b) = some (!(a == b)) := (Eq.refl _).trans (Eq.refl _)
@[simp] theorem kLen_list {ds : List D} : kLen [.list ds] = some (.int ds.length) := (Eq.refl _).trans (Eq.refl _)
@[simp] theorem kLen_tup {ds : List D} : kLen [.tuple ds] = some (.int ds.length) := (Eq.refl _).trans (Eq.refl _)
@[simp] theorem kInt_int {n : Int} : kInt [.int n] = some (.int n) := (Eq.refl _).trans (Eq.refl _)
@[simp] theorem kTuple_list {ds : List D} : kTuple [.list ds] = some (.tuple ds) := (Eq.refl _).trans (Eq.refl _)
@[simp] theorem kTuple_tup {ds : List D} : kTuple [.tuple ds] = some (.tuple ds) := (Eq.refl _).trans (Eq.refl _)
@[simp] theorem kIx_list {ds : List D} {n : Int} : kIx (.list ds) (.int n) = atI ds n := (Eq.refl _).trans (Eq.refl _)
@[simp] theorem kIx_tup {ds : List D} {n : Int} : kIx (.tuple ds) (.int n) = atI ds n := (Eq.refl _).trans (Eq.refl _)
@[simp] theorem atI_zero {d : α} {ds : List α} : atI (d :: ds) 0 = some d := by simp [atI, ixN]
theorem atI_nat {ds : List α} {n : Nat} {d : α} (h : ds[n]? = some d) : atI ds n = some d := by
  have hl : n < ds.length := (List.getElem?_eq_some_iff.mp h).1
  unfold atI ixN
  have e : (0 : Int) ≤ (n : Int) := Int.natCast_nonneg n
  have e2 : (n : Int) < (ds.length : Int) := by omega
  simp [e, e2, h]
@[simp] theorem bName_ap {d : D} : bName i d ρ = if isIo ρ[i]? = true then none else some (ρ.set i (some (.val d))) := (Eq.refl _).trans (Eq.refl _)
@[simp] theorem bTup_ap {r : List D → DEnv → Option DEnv} {ds : List D} : bTup r (.tuple ds) ρ = r ds ρ := (Eq.refl _).trans (Eq.refl _)
@[simp] theorem bNil_ap : bNil [] ρ = some ρ := (Eq.refl _).trans (Eq.refl _)
@[simp] theorem iSeq_ap : iSeq fa ρ = bindR (fa ρ) fun v ρ1 => optR (keep v ρ1) fun p => optR (itemsD p.1) fun ds => .ok ds p.2 := (Eq.refl _).trans (Eq.refl _)
@[simp] theorem itemsD_list {ds : List D} : itemsD (.list ds) = some ds := (Eq.refl _).trans (Eq.refl _)
@[simp] theorem itemsD_tup {ds : List D} : itemsD (.tuple ds) = some ds := (Eq.refl _).trans (Eq.refl _)
@[simp] theorem gFor_ap {it : DEnv → Res (List D)} {bind : D → DEnv → Option DEnv} : gFor it bind g ρ = bindF (it ρ) fun ds ρ1 => forD bind g ds ρ1 := (Eq.refl _).trans (Eq.refl _)
@[simp] theorem wipeD_nil : wipeD ρ [] = ρ := (Eq.refl _).trans (Eq.refl _)
@[simp] theorem wipeD_cons {v : Nat} {vs : List Nat} : wipeD ρ (v :: vs) = (wipeD ρ vs).set v none := (Eq.refl _).trans (Eq.refl _)
@[simp] theorem backD_nil {ρ' : DEnv} : backD ρ ρ' [] = ρ' := (Eq.refl _).trans (Eq.refl _)
@[simp] theorem backD_cons {ρ' : DEnv} {v : Nat} {vs : List Nat} : backD ρ ρ' (v :: vs) = (backD ρ ρ' vs).set v (ρ[v]?.join) := (Eq.refl _).trans (Eq.refl _)
@[simp] theorem pNo_ap : pNo ρ = .ok none ρ := (Eq.refl _).trans (Eq.refl _)
@[simp] theorem tTrue_ap : tTrue ρ = .ok true ρ := (Eq.refl _).trans (Eq.refl _)
@[simp] theorem flat_int {n : Int} : flat (.int n) = some (.int n) := (Eq.refl _).trans (Eq.refl _)
@[simp] theorem flat_bool {b : Bool} : flat (.bool b) = some (.bl b) := (Eq.refl _).trans (Eq.refl _)
@[simp] theorem flat_none : flat .none = some .non := (Eq.refl _).trans (Eq.refl _)
@[simp] theorem flat_str {x : Str} : flat (.str x) = some (.str x) := (Eq.refl _).trans (Eq.refl _)
@[simp] theorem flat_tup {ds : List D} : flat (.tuple ds) = none := (Eq.refl _).trans (Eq.refl _)
@[simp] theorem flat_list {ds : List D} : flat (.list ds) = none := (Eq.refl _).trans (Eq.refl _)
@[simp] theorem xIs_ap {a : Addr} {b : Bool} : xIs i a b ρ = match ρ[i]? with
  | some (some (.raw x)) => if x = a then .ok (.val (.bool b)) ρ else .bad
  | _ => .bad := (Eq.refl _).trans (Eq.refl _)
@[simp] theorem xMr_ap {m : List D → List D → Option D} : xMr m fa ga ρ = bindR (fa ρ) fun a ρ1 => match deref ρ1 a with
  | some (.list _) => bindR (ga ρ1) fun vs ρ2 => match deref ρ2 a with
    | some (.list ds) => optR (derefs ρ2 vs) fun as => optR (m ds as) fun z => .ok (.val z) ρ2
    | _ => .bad
  | _ => .bad := (Eq.refl _).trans (Eq.refl _)
end

/-! ### what a def answers -/
section
variable {m : Nat} {b : DSt} {ds : List D}
theorem runF_rt {v : RV} {ρ : DEnv} (h : b (startD m ds) = .rt v ρ) : runF m b ds = .ok v := by
  unfold runF
  unfold startD at h
  rw [h]
theorem runF_nx {ρ : DEnv} (h : b (startD m ds) = .nx ρ) : runF m b ds = .ok (.val .none) := by
  unfold runF
  unfold startD at h
  rw [h]
theorem runF_err {x : Exn} {ρ : DEnv} (h : b (startD m ds) = .err x ρ) : runF m b ds = .err x := by
  unfold runF
  unfold startD at h
  rw [h]
/-- the value alone -/
def outF : Fl → RF
  | .nx _ => .ok (.val .none)
  | .rt v _ => .ok v
  | .err x _ => .err x
  | _ => .bad
theorem runF_out : runF m b ds = outF (b (startD m ds)) := by
  unfold runF outF
  change (match b (startD m ds) with
    | .nx _ => RF.ok (.val .none)
    | .rt v _ => .ok v
    | .err x _ => .err x
    | _ => .bad) = _
  cases b (startD m ds) <;> rfl
@[simp] theorem outF_nx {ρ : DEnv} : outF (.nx ρ) = .ok (.val .none) := (Eq.refl _).trans (Eq.refl _)
@[simp] theorem outF_rt {v : RV} {ρ : DEnv} : outF (.rt v ρ) = .ok v := (Eq.refl _).trans (Eq.refl _)
@[simp] theorem outF_err {x : Exn} {ρ : DEnv} : outF (.err x ρ) = .err x := (Eq.refl _).trans (Eq.refl _)
@[simp] theorem outF_ite {c : Prop} [Decidable c] {a b : Fl} : outF (if c then a else b) = if c then outF a else outF b := by split <;> rfl
theorem ret_of {fl : Fl} {d : D} (h : outF fl = .ok (.val d)) (h2 : ∀ ρ, fl ≠ .nx ρ) : ∃ ρ, fl = .rt (.val d) ρ := by
  cases fl with
  | nx ρ => exact absurd rfl (h2 ρ)
  | rt v ρ => cases h; exact ⟨ρ, rfl⟩
  | bk ρ => cases h
  | ct ρ => cases h
  | err x ρ => cases h
  | bad => cases h
end

/-! ### comprehensions -/
def cs1 {β : Type} (o : Option DEnv) (k : DEnv → Option β) : Option β := match o with
  | some ρ => k ρ
  | none => none
def csT {β : Type} (r : Res Bool) (kt kf : DEnv → Option β) : Option β := match r with
  | .ok true ρ => kt ρ
  | .ok false ρ => kf ρ
  | _ => none
def csE {β : Type} (r : Res EV) (k : EV → DEnv → Option β) : Option β := match r with
  | .ok v ρ => k v ρ
  | _ => none
def csK {β : Type} (o : Option (D × DEnv)) (k : D → DEnv → Option β) : Option β := match o with
  | some p => k p.1 p.2
  | none => none
section
variable {β : Type} {ρ : DEnv}
@[simp] theorem cs1_some {k : DEnv → Option β} : cs1 (some ρ) k = k ρ := (Eq.refl _).trans (Eq.refl _)
@[simp] theorem cs1_ite {c : Prop} [Decidable c] {a b : Option DEnv} {k : DEnv → Option β} : cs1 (if c then a else b) k = if c then cs1 a k else cs1 b k := by split <;> rfl
@[simp] theorem csT_ok {z : Bool} {kt kf : DEnv → Option β} : csT (.ok z ρ) kt kf = if z = true then kt ρ else kf ρ := by cases z <;> rfl
@[simp] theorem csT_ite {c : Prop} [Decidable c] {a b : Res Bool} {kt kf : DEnv → Option β} : csT (if c then a else b) kt kf = if c then csT a kt kf else csT b kt kf := by split <;> rfl
@[simp] theorem csE_ok {v : EV} {k : EV → DEnv → Option β} : csE (.ok v ρ) k = k v ρ := (Eq.refl _).trans (Eq.refl _)
@[simp] theorem csE_ite {c : Prop} [Decidable c] {a b : Res EV} {k : EV → DEnv → Option β} : csE (if c then a else b) k = if c then csE a k else csE b k := by split <;> rfl
@[simp] theorem csK_some {d : D} {k : D → DEnv → Option β} : csK (some (d, ρ)) k = k d ρ := (Eq.refl _).trans (Eq.refl _)
end
/-- one turn: nothing, or what is taken (if anything) and the names behind it -/
def cstep (ow : List Nat) (bind : D → DEnv → Option DEnv) (test : DEnv → Res Bool) (elt : DX) (d : D) (ρ : DEnv) : Option (Option D × DEnv) :=
  cs1 (bind d (wipeD ρ ow)) fun ρ1 => csT (test ρ1) (fun ρ2 => csE (elt ρ2) fun v ρ3 => csK (keep v ρ3) fun z ρ4 => if (ow.all fun i => !isOwn ρ4[i]?) = true then some (some z, backD ρ ρ4 ow) else none)
    fun ρ2 => if (ow.all fun i => !isOwn ρ2[i]?) = true then some (none, backD ρ ρ2 ow) else none
@[simp] theorem cstep_ap {ow : List Nat} {bind : D → DEnv → Option DEnv} {test : DEnv → Res Bool} {elt : DX} {d : D} {ρ : DEnv} : cstep ow bind test elt d ρ =
  cs1 (bind d (wipeD ρ ow)) fun ρ1 => csT (test ρ1) (fun ρ2 => csE (elt ρ2) fun v ρ3 => csK (keep v ρ3) fun z ρ4 => if (ow.all fun i => !isOwn ρ4[i]?) = true then some (some z, backD ρ ρ4 ow) else none)
    fun ρ2 => if (ow.all fun i => !isOwn ρ2[i]?) = true then some (none, backD ρ ρ2 ow) else none := (Eq.refl _).trans (Eq.refl _)
section
variable {ow : List Nat} {bind : D → DEnv → Option DEnv} {test : DEnv → Res Bool} {elt : DX} {it : DEnv → Res (List D)}
theorem compD_step {d : D} {ds acc : List D} {ρ ρ' : DEnv} {z : Option D} (h : cstep ow bind test elt d ρ = some (z, ρ')) (hl : acc.length < sizeLine) : compD ow bind test elt (d :: ds) ρ acc = compD ow bind test elt ds ρ' (acc ++ z.toList) := by
  unfold cstep at h
  rw [compD]
  cases hb : bind d (wipeD ρ ow) with
  | none => rw [hb] at h; cases h
  | some ρ1 =>
    rw [hb] at h
    dsimp only [optR, cs1] at h ⊢
    cases ht : test ρ1 with
    | err x ρ2 => rw [ht] at h; cases h
    | bad => rw [ht] at h; cases h
    | ok k ρ2 =>
      rw [ht] at h
      cases k with
      | true =>
        dsimp only [csT] at h ⊢
        cases he : elt ρ2 with
        | err x ρ3 => rw [he] at h; cases h
        | bad => rw [he] at h; cases h
        | ok v ρ3 =>
          rw [he] at h
          dsimp only [csE] at h ⊢
          cases hk : keep v ρ3 with
          | none => rw [hk] at h; cases h
          | some p =>
            rw [hk] at h
            dsimp only [csK] at h ⊢
            split at h
            · rename_i ha
              cases h
              rw [if_pos ⟨hl, ha⟩]; rfl
            · cases h
      | false =>
        dsimp only [csT] at h ⊢
        split at h
        · rename_i ha
          cases h
          rw [if_pos ha]; simp
        · cases h
theorem compD_map {g : D → D} {ρ : DEnv} : ∀ {ds acc : List D}, acc.length + ds.length ≤ sizeLine → (∀ d ∈ ds, cstep ow bind test elt d ρ = some (some (g d), ρ)) → compD ow bind test elt ds ρ acc = .ok (.lst (acc ++ ds.map g)) ρ
  | [], acc, _, _ => by rw [compD]; simp
  | d :: ds, acc, hl, h => by
    rw [compD_step (h d List.mem_cons_self) (by simp at hl ⊢; omega), compD_map (by simp at hl ⊢; omega) fun e he => h e (List.mem_cons_of_mem _ he)]
    simp
theorem compD_filter {g : D → Option D} {ρ : DEnv} : ∀ {ds acc : List D}, acc.length + ds.length ≤ sizeLine → (∀ d ∈ ds, cstep ow bind test elt d ρ = some (g d, ρ)) → compD ow bind test elt ds ρ acc = .ok (.lst (acc ++ ds.filterMap g)) ρ
  | [], acc, _, _ => by rw [compD]; simp
  | d :: ds, acc, hl, h => by
    have hz : (g d).toList.length ≤ 1 := by cases g d <;> simp
    rw [compD_step (h d List.mem_cons_self) (by simp at hl ⊢; omega), compD_filter (by simp at hl ⊢; omega) fun e he => h e (List.mem_cons_of_mem _ he), List.filterMap_cons]
    cases g d <;> simp
inductive All2 (R : D → D → Prop) : List D → List D → Prop
  | nil : All2 R [] []
  | cons {a b : D} {as bs : List D} (h : R a b) (t : All2 R as bs) : All2 R (a :: as) (b :: bs)
theorem All2.len {R : D → D → Prop} {as bs : List D} (h : All2 R as bs) : as.length = bs.length := by
  induction h with
  | nil => rfl
  | cons _ _ ih => simp [ih]
theorem All2.right {R : D → D → Prop} {Q : D → Prop} {as bs : List D} (h : All2 R as bs) (q : ∀ a b, R a b → Q b) : ∀ b ∈ bs, Q b := by
  induction h with
  | nil => intro b hb; simp at hb
  | cons h _ ih =>
    intro b hb
    rcases List.mem_cons.mp hb with hb | hb
    · subst hb; exact q _ _ h
    · exact ih b hb
/-- a comprehension whose turns change the names, by an invariant -/
theorem compD_inv (I : DEnv → Prop) (R : D → D → Prop) : ∀ {ds acc : List D} {ρ : DEnv}, acc.length + ds.length ≤ sizeLine → I ρ → (∀ d ∈ ds, ∀ ρ, I ρ → ∃ z ρ', cstep ow bind test elt d ρ = some (some z, ρ') ∧ I ρ' ∧ R d z) →
    ∃ zs ρ', compD ow bind test elt ds ρ acc = .ok (.lst (acc ++ zs)) ρ' ∧ I ρ' ∧ All2 R ds zs
  | [], acc, ρ, _, hi, _ => ⟨[], ρ, by rw [compD]; simp, hi, .nil⟩
  | d :: ds, acc, ρ, hl, hi, h => by
    obtain ⟨z, ρ1, h1, h2, h3⟩ := h d List.mem_cons_self ρ hi
    obtain ⟨zs, ρ', h4, h5, h6⟩ := compD_inv I R (ds := ds) (acc := acc ++ [z]) (ρ := ρ1) (by simp at hl ⊢; omega) h2 fun e he => h e (List.mem_cons_of_mem _ he)
    refine ⟨z :: zs, ρ', ?_, h5, .cons h3 h6⟩
    rw [compD_step h1 (by simp at hl ⊢; omega)]
    simpa using h4
theorem xComp_of {ρ ρ1 : DEnv} {ds : List D} (hi : it ρ = .ok ds ρ1) (ho : (ow.all fun i => !isOwn ρ1[i]?) = true) : xComp it ow bind test elt ρ = compD ow bind test elt ds ρ1 [] := by
  unfold xComp
  rw [hi]
  exact if_pos ho
theorem xComp_map {g : D → D} {ρ : DEnv} {ds : List D} (hi : it ρ = .ok ds ρ) (ho : (ow.all fun i => !isOwn ρ[i]?) = true) (hl : ds.length ≤ sizeLine) (h : ∀ d ∈ ds, cstep ow bind test elt d ρ = some (some (g d), ρ)) : xComp it ow bind test elt ρ = .ok (.lst (ds.map g)) ρ := by
  rw [xComp_of hi ho, compD_map (by simpa using hl) h]; simp
theorem xComp_filter {g : D → Option D} {ρ : DEnv} {ds : List D} (hi : it ρ = .ok ds ρ) (ho : (ow.all fun i => !isOwn ρ[i]?) = true) (hl : ds.length ≤ sizeLine) (h : ∀ d ∈ ds, cstep ow bind test elt d ρ = some (g d, ρ)) : xComp it ow bind test elt ρ = .ok (.lst (ds.filterMap g)) ρ := by
  rw [xComp_of hi ho, compD_filter (by simpa using hl) h]; simp
theorem xComp_inv (I : DEnv → Prop) (R : D → D → Prop) {ρ : DEnv} {ds : List D} (hi : it ρ = .ok ds ρ) (ho : (ow.all fun i => !isOwn ρ[i]?) = true) (hl : ds.length ≤ sizeLine) (hI : I ρ) (h : ∀ d ∈ ds, ∀ ρ, I ρ → ∃ z ρ', cstep ow bind test elt d ρ = some (some z, ρ') ∧ I ρ' ∧ R d z) :
    ∃ zs ρ', xComp it ow bind test elt ρ = .ok (.lst zs) ρ' ∧ I ρ' ∧ All2 R ds zs := by
  obtain ⟨zs, ρ', h1, h2, h3⟩ := compD_inv I R (acc := []) (by simpa using hl) hI h
  exact ⟨zs, ρ', by rw [xComp_of hi ho, h1]; simp, h2, h3⟩
end

/-! ### for -/
theorem forD_inv {bind : D → DEnv → Option DEnv} {body : DSt} (I : Nat → DEnv → Prop) : ∀ {ds : List D} {n : Nat} {ρ : DEnv}, I n ρ → (∀ k d ρ, ds[k]? = some d → I (n + k) ρ → ∃ ρ1 ρ2, bind d ρ = some ρ1 ∧ body ρ1 = .nx ρ2 ∧ I (n + k + 1) ρ2) → ∃ ρ', forD bind body ds ρ = .nx ρ' ∧ I (n + ds.length) ρ'
  | [], n, ρ, hi, _ => ⟨ρ, rfl, hi⟩
  | d :: ds, n, ρ, hi, h => by
    obtain ⟨ρ1, ρ2, h1, h2, h3⟩ := h 0 d ρ rfl hi
    obtain ⟨ρ', h4, h5⟩ := forD_inv I (ds := ds) (n := n + 1) h3 fun k e ρ he hk => by
      have := h (k + 1) e ρ (by simpa using he) (by rw [show n + (k + 1) = n + 1 + k by omega]; exact hk)
      rw [show n + (k + 1) + 1 = n + 1 + k + 1 by omega] at this
      exact this
    refine ⟨ρ', ?_, by rw [List.length_cons, show n + (ds.length + 1) = n + 1 + ds.length by omega]; exact h5⟩
    rw [forD, h1]
    show (match body ρ1 with
      | .nx ρ2 => forD bind body ds ρ2
      | .ct ρ2 => forD bind body ds ρ2
      | .bk ρ2 => .nx ρ2
      | .rt v ρ2 => .rt v ρ2
      | .err x ρ2 => .err x ρ2
      | .bad => .bad) = _
    rw [h2]
    exact h4

/-! ### repr -/
mutual
def nice : D → Bool
  | .none => true
  | .bool _ => true
  | .int i => decide (i.natAbs.log2 < 1920)
  | .list xs => niceAll xs
  | .tuple xs => niceAll xs
  | _ => false
def niceAll : List D → Bool
  | [] => true
  | x :: xs => nice x && niceAll xs
end
mutual
theorem nice_show : ∀ d : D, nice d = true → d.showable = true ∧ d.hasDict = false ∧ d.leavesShort 1921 = true
  | .none, _ => ⟨rfl, rfl, rfl⟩
  | .bool _, _ => ⟨rfl, rfl, rfl⟩
  | .int i, h => by
    have h' : i.natAbs.log2 < 1920 := by simpa [nice] using h
    refine ⟨by simpa [PyData.showable] using h', rfl, ?_⟩
    simp only [PyData.leavesShort, decide_eq_true_eq]
    exact int_text_len_1921 h'
  | .str _, h => by simp [nice] at h
  | .dict _, h => by simp [nice] at h
  | .list xs, h => by
    obtain ⟨a, b, c⟩ := niceAll_show xs (by simpa [nice] using h)
    exact ⟨by simpa [PyData.showable] using a, by simpa [PyData.hasDict] using b, by simpa [PyData.leavesShort] using c⟩
  | .tuple xs, h => by
    obtain ⟨a, b, c⟩ := niceAll_show xs (by simpa [nice] using h)
    exact ⟨by simpa [PyData.showable] using a, by simpa [PyData.hasDict] using b, by simpa [PyData.leavesShort] using c⟩
theorem niceAll_show : ∀ xs : List D, niceAll xs = true → PyData.showableAll xs = true ∧ PyData.hasDictAll xs = false ∧ PyData.leavesShortAll 1921 xs = true
  | [], _ => ⟨rfl, rfl, rfl⟩
  | x :: xs, h => by
    simp only [niceAll, Bool.and_eq_true] at h
    obtain ⟨a, b, c⟩ := nice_show x h.1
    obtain ⟨a2, b2, c2⟩ := niceAll_show xs h.2
    exact ⟨by simp [PyData.showableAll, a, a2], by simp [PyData.hasDictAll, b, b2], by simp [PyData.leavesShortAll, c, c2]⟩
end
theorem kRepr_nice {d : D} (h : nice d = true) (hd : d.depth ≤ 64) (hw : d.weight ≤ 8000) : kRepr [d] = some (.str d.shown) := by
  obtain ⟨a, b, c⟩ := nice_show d h
  have l := PyData.shown_le 1921 (by omega) d c
  have l2 : (1921 + 2) * d.weight ≤ 1923 * 8000 := Nat.mul_le_mul (by omega) hw
  exact if_pos ⟨a, b, hd, by rw [sizeLine_eq]; omega⟩
end DL

theorem DL.lt62 (n : Nat) (h : n ≤ 1000000) : (n : Int) < 2 ^ 62 := by omega
theorem DL.ge62 (n : Nat) (h : n ≤ 1000000) : -(2 ^ 62) ≤ (n : Int) := by omega
namespace DL
open L2 PySem PySem.Spec PyProof.Rows

/-! ### tuples of ints, matrices -/
abbrev vec (r : List Int) : D := .tuple (r.map PyData.int)
abbrev mtx (M : List (List Int)) : D := .tuple (M.map vec)
section
variable {α : Type} {ow : List Nat} {bind : D → DEnv → Option DEnv} {test : DEnv → Res Bool} {elt : DX} {it : DEnv → Res (List D)}
theorem xComp_of_map {e g : α → D} {xs : List α} {ρ : DEnv} (hi : it ρ = .ok (xs.map e) ρ) (ho : (ow.all fun i => !isOwn ρ[i]?) = true) (hl : xs.length ≤ 1000000) (h : ∀ x ∈ xs, cstep ow bind test elt (e x) ρ = some (some (g x), ρ)) : xComp it ow bind test elt ρ = .ok (.lst (xs.map g)) ρ := by
  have key : ∀ {xs : List α} {acc : List D}, acc.length + xs.length ≤ sizeLine → (∀ x ∈ xs, cstep ow bind test elt (e x) ρ = some (some (g x), ρ)) → compD ow bind test elt (xs.map e) ρ acc = .ok (.lst (acc ++ xs.map g)) ρ := by
    intro xs
    induction xs with
    | nil => intro acc _ _; simp [compD]
    | cons x xs ih =>
      intro acc hl h
      rw [List.map_cons, compD_step (h x List.mem_cons_self) (by simp at hl ⊢; omega), ih (by simp at hl ⊢; omega) fun y hy => h y (List.mem_cons_of_mem _ hy)]
      simp
  rw [xComp_of hi ho, key (by rw [sizeLine_eq]; simp; omega) h]; simp
theorem xComp_of_filter {e : α → D} {g : α → Option D} {xs : List α} {ρ : DEnv} (hi : it ρ = .ok (xs.map e) ρ) (ho : (ow.all fun i => !isOwn ρ[i]?) = true) (hl : xs.length ≤ 1000000) (h : ∀ x ∈ xs, cstep ow bind test elt (e x) ρ = some (g x, ρ)) : xComp it ow bind test elt ρ = .ok (.lst (xs.filterMap g)) ρ := by
  have key : ∀ {xs : List α} {acc : List D}, acc.length + xs.length ≤ sizeLine → (∀ x ∈ xs, cstep ow bind test elt (e x) ρ = some (g x, ρ)) → compD ow bind test elt (xs.map e) ρ acc = .ok (.lst (acc ++ xs.filterMap g)) ρ := by
    intro xs
    induction xs with
    | nil => intro acc _ _; simp [compD]
    | cons x xs ih =>
      intro acc hl h
      have hz : (g x).toList.length ≤ 1 := by cases g x <;> simp
      rw [List.map_cons, compD_step (h x List.mem_cons_self) (by simp at hl ⊢; omega), ih (by simp at hl ⊢; omega) fun y hy => h y (List.mem_cons_of_mem _ hy), List.filterMap_cons]
      cases g x <;> simp
  rw [xComp_of hi ho, key (by rw [sizeLine_eq]; simp; omega) h]; simp
@[simp] theorem trusF_bools (f : α → Bool) : ∀ xs : List α, trusF (xs.map fun x => PyData.bool (f x)) = some (xs.map f)
  | [] => rfl
  | x :: xs => by
    show (match truF (.bool (f x)) with
      | some b => (trusF (xs.map fun x => PyData.bool (f x))).map (b :: ·)
      | none => none) = _
    rw [trusF_bools f xs]; rfl
@[simp] theorem kAll_bools {f : α → Bool} {xs : List α} : kAll [.list (xs.map fun x => PyData.bool (f x))] = some (.bool (xs.all f)) := by
  show (trusF (xs.map fun x => PyData.bool (f x))).map (fun bs => PyData.bool (bs.all id)) = _
  rw [trusF_bools]; simp
@[simp] theorem kAny_bools {f : α → Bool} {xs : List α} : kAny [.list (xs.map fun x => PyData.bool (f x))] = some (.bool (xs.any f)) := by
  show (trusF (xs.map fun x => PyData.bool (f x))).map (fun bs => PyData.bool (bs.any id)) = _
  rw [trusF_bools]; simp
theorem intsOf_mapI {f : α → Int} {xs : List α} : intsOf (xs.map fun x => PyData.int (f x)) = some (xs.map f) := by
  have := intsOf_map (xs.map f)
  rwa [List.map_map] at this
@[simp] theorem kSum_ints {f : α → Int} {xs : List α} : kSum [.list (xs.map fun x => PyData.int (f x))] = some (.int (xs.map f).sum) := by
  show (match intsOf (xs.map fun x => PyData.int (f x)) with
    | some ns => some (PyData.int ns.sum)
    | none => none) = _
  rw [intsOf_mapI]
theorem rangeD_eq (lo : Int) (n : Nat) : rangeD lo n = (List.range n).map fun (i : Nat) => PyData.int (lo + i) := rfl
theorem rangeD_nat {n : Nat} : rangeD 0 (n : Int).toNat = (List.range n).map fun (k : Nat) => PyData.int (k : Int) := by
  unfold rangeD
  simp
theorem iRange1_if {g : DEnv → Res (List EV)} {ρ ρ1 : DEnv} {j : Int} (h : g ρ = .ok [.val (.int j)] ρ1) : DL.iRange1 g ρ = if -(2 ^ 62) ≤ j ∧ j < 2 ^ 62 then .ok (rangeD 0 j.toNat) ρ1 else .bad := by
  unfold DL.iRange1
  rw [h]
  rfl
theorem iRange1_nat {g : DEnv → Res (List EV)} {ρ ρ1 : DEnv} {n : Nat} (h : g ρ = .ok [.val (.int (n : Int))] ρ1) (hn : n ≤ 1000000) : DL.iRange1 g ρ = .ok ((List.range n).map fun (k : Nat) => PyData.int (k : Int)) ρ1 := by
  rw [iRange1_if h, if_pos ⟨ge62 n hn, lt62 n hn⟩, rangeD_nat]
end
section
variable {F : Fn} {g : DEnv → Res (List EV)} {ρ : DEnv}
def callR (r : RF) (vs : List EV) (ρ1 : DEnv) : Res EV := match r with
  | .ok (.val d) => if (flat d).isSome = true then .ok (.val d) ρ1 else optR (keeps vs ρ1) fun p => .ok (.val d) p.2
  | .ok (.own (.lst l)) => optR (keeps vs ρ1) fun p => .ok (.val (.list l)) p.2
  | .ok (.own _) => .bad
  | .err x => .err x ρ1
  | .bad => .bad
@[simp] theorem xCall_ap : xCall F g ρ = bindR (g ρ) fun vs ρ1 => optR (derefs ρ1 vs) fun ds => callR (F ds) vs ρ1 := (Eq.refl _).trans (Eq.refl _)
@[simp] theorem callR_val {d : D} {vs : List EV} : callR (.ok (.val d)) vs ρ = if (flat d).isSome = true then .ok (.val d) ρ else optR (keeps vs ρ) fun p => .ok (.val d) p.2 := (Eq.refl _).trans (Eq.refl _)
@[simp] theorem callR_own {l : List D} {vs : List EV} : callR (.ok (.own (.lst l))) vs ρ = optR (keeps vs ρ) fun p => .ok (.val (.list l)) p.2 := (Eq.refl _).trans (Eq.refl _)
@[simp] theorem callR_err {x : Exn} {vs : List EV} : callR (.err x) vs ρ = .err x ρ := (Eq.refl _).trans (Eq.refl _)
def callL (r : RF) (vs : List EV) (ρ1 : DEnv) : Res Cell := match r with
  | .ok (.own c) => optR (keeps vs ρ1) fun p => .ok c p.2
  | .ok (.val _) => .bad
  | .err x => .err x ρ1
  | .bad => .bad
@[simp] theorem xCallL_ap : xCallL F g ρ = bindR (g ρ) fun vs ρ1 => optR (derefs ρ1 vs) fun ds => callL (F ds) vs ρ1 := (Eq.refl _).trans (Eq.refl _)
@[simp] theorem callL_own {c : Cell} {vs : List EV} : callL (.ok (.own c)) vs ρ = optR (keeps vs ρ) fun p => .ok c p.2 := (Eq.refl _).trans (Eq.refl _)
@[simp] theorem callL_err {x : Exn} {vs : List EV} : callL (.err x) vs ρ = .err x ρ := (Eq.refl _).trans (Eq.refl _)
def selR (Fs : List Fn) (g : DEnv → Res (List EV)) (j : EV) (ρ1 : DEnv) : Res EV := match deref ρ1 j with
  | some (.int i) => match atI Fs i with
    | some F => xCall F g ρ1
    | none => .bad
  | _ => .bad
@[simp] theorem xSel_ap {Fs : List Fn} {fi : DX} : xSel Fs fi g ρ = bindR (fi ρ) fun j ρ1 => selR Fs g j ρ1 := (Eq.refl _).trans (Eq.refl _)
@[simp] theorem selR_val {Fs : List Fn} {i : Int} : selR Fs g (.val (.int i)) ρ = match atI Fs i with
    | some F => xCall F g ρ
    | none => .bad := (Eq.refl _).trans (Eq.refl _)
end
end DL

namespace DL
open L2 PySem PySem.Spec PyProof.Rows

/-! ### own lists, stepped by simp -/
section
variable {α : Type} {ρ : DEnv} {i : Nat} {g : DEnv → Res (List EV)} {m : List D → List D → Option (D × List D)}
def xmA (o : Option (Option SV)) (k : Res α) : Res α := match o with
  | some (some (.own _ (.lst _))) => k
  | _ => .bad
def xmB (o : Option (Option SV)) (k : Bool → List D → Res α) : Res α := match o with
  | some (some (.own b (.lst ds))) => k b ds
  | _ => .bad
@[simp] theorem xmA_own {b : Bool} {ds : List D} {k : Res α} : xmA (some (some (.own b (.lst ds)))) k = k := (Eq.refl _).trans (Eq.refl _)
@[simp] theorem xmB_own {b : Bool} {ds : List D} {k : Bool → List D → Res α} : xmB (some (some (.own b (.lst ds)))) k = k b ds := (Eq.refl _).trans (Eq.refl _)
@[simp] theorem xM_ap : xM i m g ρ = xmA ρ[i]? (bindR (g ρ) fun vs ρ1 => optR (keeps vs ρ1) fun p => xmB p.2[i]? fun b ds => optR (m ds p.1) fun q => .ok (.val q.1) (p.2.set i (some (.own b (.lst q.2))))) := by
  unfold xM xmA xmB
  rfl
@[simp] theorem mAppend_ap {ds : List D} {d : D} : mAppend ds [d] = if ds.length < sizeLine then some (.none, ds ++ [d]) else none := (Eq.refl _).trans (Eq.refl _)
@[simp] theorem mReverse_ap {ds : List D} : mReverse ds [] = some (.none, ds.reverse) := (Eq.refl _).trans (Eq.refl _)
@[simp] theorem mPop_ap {ds : List D} {d : D} : mPop (ds ++ [d]) [] = some (d, ds) := by simp [mPop]
def exF (o : Option (Option SV)) (k : Fl) : Fl := match o with
  | some (some (.own _ (.lst _))) => k
  | _ => .bad
def exG (c : Cell) (o : Option (Option SV)) (k : Bool → List D → List D → Fl) : Fl := match c, o with
  | .lst es, some (some (.own b (.lst ds))) => k b ds es
  | _, _ => .bad
@[simp] theorem exF_own {b : Bool} {ds : List D} {k : Fl} : exF (some (some (.own b (.lst ds)))) k = k := (Eq.refl _).trans (Eq.refl _)
@[simp] theorem exG_own {b : Bool} {ds es : List D} {k : Bool → List D → List D → Fl} : exG (.lst es) (some (some (.own b (.lst ds)))) k = k b ds es := (Eq.refl _).trans (Eq.refl _)
@[simp] theorem gExtend_ap {f : DEnv → Res Cell} : gExtend i f ρ = exF ρ[i]? (bindF (f ρ) fun c ρ1 => exG c ρ1[i]? fun b ds es => if ds.length + es.length ≤ sizeLine then .nx (ρ1.set i (some (.own b (.lst (ds ++ es))))) else .bad) := by
  unfold gExtend exF exG
  rfl
def ciA (vs : List EV) (k : Nat → List EV → Res α) : Res α := match vs with
  | .bor i :: ws => k i ws
  | _ => .bad
@[simp] theorem ciA_bor {ws : List EV} {k : Nat → List EV → Res α} : ciA (.bor i :: ws) k = k i ws := (Eq.refl _).trans (Eq.refl _)
@[simp] theorem valsOf_nil : valsOf [] = some [] := (Eq.refl _).trans (Eq.refl _)
@[simp] theorem valsOf_val {d : D} {vs : List EV} : valsOf (.val d :: vs) = (valsOf vs).map (d :: ·) := by
  show (match valsOf vs with
    | some ds => some (d :: ds)
    | none => none) = _
  cases valsOf vs <;> rfl
def ciR (r : Option (RV × List D)) (kv : D → List D → Res EV) : Res EV := match r with
  | some (.val d, ds') => kv d ds'
  | some (.own (.lst l), ds') => kv (.list l) ds'
  | _ => .bad
@[simp] theorem ciR_val {d : D} {ds : List D} {kv : D → List D → Res EV} : ciR (some (.val d, ds)) kv = kv d ds := (Eq.refl _).trans (Eq.refl _)
def ciL (r : Option (RV × List D)) (kv : Cell → List D → Res Cell) : Res Cell := match r with
  | some (.own c, ds') => kv c ds'
  | _ => .bad
@[simp] theorem ciL_own {c : Cell} {ds : List D} {kv : Cell → List D → Res Cell} : ciL (some (.own c, ds)) kv = kv c ds := (Eq.refl _).trans (Eq.refl _)
@[simp] theorem xCallI_ap {F : IFn} : xCallI F g ρ = bindR (g ρ) fun vs ρ1 => ciA vs fun i ws => optR (valsOf ws) fun es => xmB ρ1[i]? fun b ds => ciR (F ds es) fun d ds' => .ok (.val d) (ρ1.set i (some (.own b (.lst ds')))) := by
  unfold xCallI
  cases g ρ with
  | err x ρ1 => rfl
  | bad => rfl
  | ok vs ρ1 =>
    simp only [bindR_ok]
    cases vs with
    | nil => rfl
    | cons v ws =>
      cases v with
      | val d => rfl
      | bor j =>
        rw [ciA_bor]
        refine congrArg (optR (valsOf ws)) (funext fun es => ?_)
        generalize ρ1[j]? = o
        rcases o with _ | _ | _ | ⟨b, _ | _ | _⟩ | _ <;> rfl
@[simp] theorem xCallIL_ap {F : IFn} : xCallIL F g ρ = bindR (g ρ) fun vs ρ1 => ciA vs fun i ws => optR (valsOf ws) fun es => xmB ρ1[i]? fun b ds => ciL (F ds es) fun c ds' => .ok c (ρ1.set i (some (.own b (.lst ds')))) := by
  unfold xCallIL
  cases g ρ with
  | err x ρ1 => rfl
  | bad => rfl
  | ok vs ρ1 =>
    simp only [bindR_ok]
    cases vs with
    | nil => rfl
    | cons v ws =>
      cases v with
      | val d => rfl
      | bor j =>
        rw [ciA_bor]
        refine congrArg (optR (valsOf ws)) (funext fun es => ?_)
        generalize ρ1[j]? = o
        rcases o with _ | _ | _ | ⟨b, _ | _ | _⟩ | _ <;> rfl
end
/-- what such a def answers -/
def outI : Fl → Option (RV × List D)
  | .nx ρ => (cellAt0 ρ).map fun l => (.val .none, l)
  | .rt v ρ => (cellAt0 ρ).map fun l => (v, l)
  | _ => none
theorem runI_out {m : Nat} {b : DSt} {ds es : List D} : runI m b ds es = outI (b (startI m ds es)) := by
  unfold runI outI
  cases b (startI m ds es) <;> rfl
@[simp] theorem outI_rt {v : RV} {b : Bool} {l : List D} {ρ : DEnv} : outI (.rt v (some (.own b (.lst l)) :: ρ)) = some (v, l) := (Eq.refl _).trans (Eq.refl _)
@[simp] theorem outI_nx {b : Bool} {l : List D} {ρ : DEnv} : outI (.nx (some (.own b (.lst l)) :: ρ)) = some (.val .none, l) := (Eq.refl _).trans (Eq.refl _)
/-- a name that holds nothing or data -/
def VS (x : Option SV) : Prop := x = none ∨ ∃ d, x = some (.val d)
theorem VS.val {d : D} : VS (some (.val d)) := .inr ⟨d, rfl⟩
theorem VS.io {x : Option SV} (h : VS x) : isIo (some x) = false := by rcases h with rfl | ⟨d, rfl⟩ <;> simp
theorem VS.own {x : Option SV} (h : VS x) : isOwn (some x) = false := by rcases h with rfl | ⟨d, rfl⟩ <;> simp
/-- a for that may break -/
theorem forD_brk {bind : D → DEnv → Option DEnv} {body : DSt} (I : Nat → DEnv → Prop) : ∀ {ds : List D} {n : Nat} {ρ : DEnv}, I n ρ → (∀ k d ρ, ds[k]? = some d → I (n + k) ρ → ∃ ρ1 ρ2, bind d ρ = some ρ1 ∧ (body ρ1 = .nx ρ2 ∨ body ρ1 = .bk ρ2) ∧ I (n + k + 1) ρ2) → ∃ ρ' n', forD bind body ds ρ = .nx ρ' ∧ I n' ρ' ∧ n' ≤ n + ds.length
  | [], n, ρ, hi, _ => ⟨ρ, n, rfl, hi, by simp⟩
  | d :: ds, n, ρ, hi, h => by
    obtain ⟨ρ1, ρ2, h1, h2, h3⟩ := h 0 d ρ rfl hi
    have step : forD bind body (d :: ds) ρ = (match body ρ1 with
      | .nx ρ2 => forD bind body ds ρ2
      | .ct ρ2 => forD bind body ds ρ2
      | .bk ρ2 => .nx ρ2
      | .rt v ρ2 => .rt v ρ2
      | .err x ρ2 => .err x ρ2
      | .bad => .bad) := by rw [forD, h1]; rfl
    rcases h2 with h2 | h2
    · obtain ⟨ρ', n', h4, h5, h6⟩ := forD_brk I (ds := ds) (n := n + 1) h3 fun k e ρ he hk => by
        have := h (k + 1) e ρ (by simpa using he) (by rw [show n + (k + 1) = n + 1 + k by omega]; exact hk)
        rw [show n + (k + 1) + 1 = n + 1 + k + 1 by omega] at this
        exact this
      refine ⟨ρ', n', ?_, h5, by simp; omega⟩
      rw [step, h2]; exact h4
    · refine ⟨ρ2, n + 1, ?_, h3, by simp⟩
      rw [step, h2]

/-! ### draws: ints from 0 to 999 -/
def Dr (xs : List Int) : Prop := ∀ x ∈ xs, 0 ≤ x ∧ x < 1000
theorem Dr.nil : Dr [] := fun x h => by simp at h
theorem Dr.app {xs ys : List Int} (h : Dr xs) (k : Dr ys) : Dr (xs ++ ys) := fun x hx => (List.mem_append.mp hx).elim (h x) (k x)
theorem Dr.rev {xs : List Int} (h : Dr xs) : Dr xs.reverse := fun x hx => h x (List.mem_reverse.mp hx)
theorem fmod_pos {a b : Int} (hb : 0 < b) : 0 ≤ a.fmod b ∧ a.fmod b < b := by
  rw [Int.fmod_eq_emod_of_nonneg a (Int.le_of_lt hb)]
  exact ⟨Int.emod_nonneg a (by omega), Int.emod_lt_of_pos a hb⟩
theorem Dr.one (a : Int) : Dr [a.fmod 1000] := fun x h => by
  rw [List.mem_singleton.mp h]; exact fmod_pos (by decide)
theorem fdiv_nonneg {a b : Int} (ha : 0 ≤ a) (hb : 0 < b) : 0 ≤ a.fdiv b := by
  rw [Int.fdiv_eq_ediv_of_nonneg a (Int.le_of_lt hb)]
  exact Int.ediv_nonneg ha (Int.le_of_lt hb)
theorem fdiv_le {a b : Int} (ha : 0 ≤ a) (hb : 0 < b) : a.fdiv b ≤ a := by
  rw [Int.fdiv_eq_ediv_of_nonneg a (Int.le_of_lt hb)]
  exact Int.ediv_le_self b ha
end DL

namespace DL
open L2 PySem PySem.Spec PyProof.Rows

/-- try: body; except c: return (what hd tells of the exception) -/
def gTry0 (g : DSt) (hd : Exn → Option D) : DSt := fun ρ => match g ρ with
  | .err x ρ1 => match hd x with
    | some d => .rt (.val d) ρ1
    | none => .bad
  | z => z
section
variable {X : Cx} {W : WX} {x : Str} {c : Value} {body : List Stmt} {e : Expr} {np pr pos pos' : Pos} {g : DSt} {hd : Exn → Option D}
theorem ds_try0 (hs : X.stack = X.env :: X.outer) (hf : X.env.frame = some X.env.locals) (hc : Names X x c) (tk : L2N.Takes X W)
    (hb : ∀ (W' : WX) (pn : List (Addr × Obj)) (xe : Value → Shared → Prop), L2N.Takes (X.tr pn xe) W' → PassesOwn (model X.prog X.w) X.A X.env xe → DSs (X.tr pn xe) W' body g)
    (hh : ∀ y d, hd y = some d → ∃ C, X.mg y.cls = some (.ref C) ∧ y.arg = none ∧ PySem.W.exmOne X.K (.ref C) c = some true ∧ ∀ (a : Addr) (pn : List (Addr × Obj)), DE (X.suite a pn) W0 e (xC d)) :
    DS X W (.Try body [.ExceptHandler (some (.Name x np)) none [.Return (some e) pr] pos'] [] [] pos) (gTry0 g hd) := by
  refine ⟨ps_imp (L2N.ps_try_many (Wout := W) (tb := fun W' => tDS X.K X.mg W' g) hs hf tk (fun W' pn xe tk' po => (hb W' pn xe tk' po).pss)
    (L2N.HdsOk.cons (ts := fun a cls dd E σ' H' => ∃ y d O ρ C, hd y = some d ∧ X.mg y.cls = some (.ref C) ∧ cls = .ref C ∧ RelEnv X.K O σ' H' ρ ∧
      ∀ u H'', EStp σ' ρ H' ρ H'' → RelEnv X.K O σ' H'' ρ → Dp X.K (Gv O σ' ρ H'') u d → E.rt u H'') hc (fun a oe cls dd pn hz hfl => ?_) .nil)) fun E σ H ⟨O, ρ, r, s⟩ => ?_⟩
  · refine ⟨fun pins s σ H D I h => ?_⟩
    obtain ⟨y, d, O, ρ, C, h1, h2, h3, h5, h7⟩ := h
    subst h3
    obtain ⟨C', k1, _, k3, k4⟩ := hh y d h1
    exact (pss_one (ps_ret (pos := pr) (k4 a ((a, oe) :: pn)).pe)).run pins s σ H D I ⟨O, ρ, h5, fun u H'' st r' hu => h7 u H'' st r' hu⟩
  · refine ⟨O, ρ, r, ?_⟩
    unfold gTry0 at s
    cases q : g ρ with
    | nx ρ1 => rw [q] at s; exact s
    | rt v ρ1 => rw [q] at s; exact s
    | bk ρ1 => rw [q] at s; exact s
    | ct ρ1 => rw [q] at s; exact s
    | bad => rw [q] at s; exact s
    | err y ρ1 =>
      rw [q] at s
      dsimp only at s
      intro cls dd σ' H' st r' ex
      split at s
      case h_2 => exact s.elim
      rename_i d hy
      obtain ⟨C, k1, k2, k3, _⟩ := hh y d hy
      obtain ⟨C', e1, e2, e3⟩ := ex
      rw [k1] at e1
      cases e1
      subst e2
      exact ⟨true, k3, fun _ a ha => ⟨y, d, O, ρ1, C, hy, k1, rfl, r', fun u H'' st3 r3 hu => s u σ' H'' (st.trans st3.s) ⟨r3, hu⟩⟩, fun z => nomatch z⟩
@[simp] theorem gTry0_ap {ρ : DEnv} : gTry0 g hd ρ = match g ρ with
  | .err x ρ1 => match hd x with
    | some d => .rt (.val d) ρ1
    | none => .bad
  | z => z := (Eq.refl _).trans (Eq.refl _)
end
end DL

namespace DL
open L2 PySem PySem.Spec PyProof.Rows

/-! ### a name's own dict, its keys whole numbers or texts -/
def keyD : D → Option Key
  | .int n => some (Sum.inl n)
  | .str x => some (Sum.inr x)
  | _ => none
theorem keyD_kV {K : Frg} {G : Hp} {d : D} {k : Key} {u : V} (h : keyD d = some k) (hd : Dp K G u d) : u = kV k := by
  cases d with
  | int n => cases h; cases hd; rfl
  | str x => cases h; cases hd; rfl
  | none => cases h
  | bool _ => cases h
  | list _ => cases h
  | tuple _ => cases h
  | dict _ => cases h
def valKD (kvs : List (Key × D)) (k : Key) : Option D := (kvs.find? fun kv => decide (kv.1 = k)).map (·.2)
def putKD (kvs : List (Key × D)) (k : Key) (v : D) : List (Key × D) :=
  if (kvs.any fun kv => decide (kv.1 = k)) = true then kvs.map (fun kv => if kv.1 = k then (kv.1, v) else kv) else kvs ++ [(k, v)]
section
variable {K : Frg} {G : Hp}
theorem valK_rel : ∀ {vvs : List (Key × V)} {kvs : List (Key × D)} (k : Key), vvs.map (·.1) = kvs.map (·.1) → DpAll K G (vvs.map (·.2)) (kvs.map (·.2)) →
    (valV vvs k = none ∧ valKD kvs k = none) ∨ ∃ v d, valV vvs k = some v ∧ valKD kvs k = some d ∧ Dp K G v d
  | [], [], k, _, _ => .inl ⟨rfl, rfl⟩
  | [], _ :: _, _, e, _ => by simp at e
  | _ :: _, [], _, e, _ => by simp at e
  | (k1, v) :: vvs, (k2, d) :: kvs, k, e, a => by
    simp only [List.map_cons, List.cons.injEq] at e
    obtain ⟨rfl, e⟩ := e
    cases a with
    | cons a1 a2 =>
      by_cases h : k1 = k
      · exact .inr ⟨v, d, by simp [valV, h], by simp [valKD, h], a1⟩
      · have := valK_rel k e a2
        simpa [valV, valKD, h] using this
theorem any_rel : ∀ {vvs : List (Key × V)} {kvs : List (Key × D)} (k : Key), vvs.map (·.1) = kvs.map (·.1) → (vvs.any fun kv => decide (kv.1 = k)) = (kvs.any fun kv => decide (kv.1 = k))
  | [], [], _, _ => rfl
  | [], _ :: _, _, e => by simp at e
  | _ :: _, [], _, e => by simp at e
  | (k1, v) :: vvs, (k2, d) :: kvs, k, e => by
    simp only [List.map_cons, List.cons.injEq] at e
    obtain ⟨rfl, e⟩ := e
    rw [List.any_cons, List.any_cons, any_rel k e]
theorem mapK_rel (k : Key) {y : V} {z : D} (hy : Dp K G y z) : ∀ {vvs : List (Key × V)} {kvs : List (Key × D)}, vvs.map (·.1) = kvs.map (·.1) → DpAll K G (vvs.map (·.2)) (kvs.map (·.2)) →
    ((vvs.map fun kv => if kv.1 = k then (kv.1, y) else kv).map (·.1) = (kvs.map fun kv => if kv.1 = k then (kv.1, z) else kv).map (·.1)) ∧ DpAll K G ((vvs.map fun kv => if kv.1 = k then (kv.1, y) else kv).map (·.2)) ((kvs.map fun kv => if kv.1 = k then (kv.1, z) else kv).map (·.2))
  | [], [], _, _ => ⟨rfl, .nil⟩
  | [], _ :: _, e, _ => by simp at e
  | _ :: _, [], e, _ => by simp at e
  | (k1, v) :: vvs, (k2, d) :: kvs, e, a => by
    simp only [List.map_cons, List.cons.injEq] at e
    obtain ⟨rfl, e⟩ := e
    cases a with
    | cons a1 a2 =>
      obtain ⟨h1, h2⟩ := mapK_rel k hy e a2
      by_cases h : k1 = k
      · simp only [List.map_cons, h, if_true]
        exact ⟨by rw [h1], .cons hy h2⟩
      · simp only [List.map_cons, h, if_false]
        exact ⟨by rw [h1], .cons a1 h2⟩
theorem putK_rel {vvs : List (Key × V)} {kvs : List (Key × D)} (k : Key) {y : V} {z : D} (hy : Dp K G y z) (e : vvs.map (·.1) = kvs.map (·.1)) (a : DpAll K G (vvs.map (·.2)) (kvs.map (·.2))) :
    (putK vvs k y).map (·.1) = (putKD kvs k z).map (·.1) ∧ DpAll K G ((putK vvs k y).map (·.2)) ((putKD kvs k z).map (·.2)) := by
  unfold putK putKD
  rw [any_rel k e]
  split
  · exact mapK_rel k hy e a
  · simp only [List.map_append, List.map_cons, List.map_nil]
    exact ⟨by rw [e], DL.DpAll.append a (.cons hy .nil)⟩
end
/-- x[e], x a name with its own dict -/
def xDGet (i : Nat) (f : DX) : DX := fun ρ => match ρ[i]? with
  | some (some (.own _ (.dK _))) => bindR (f ρ) fun v ρ1 => optR (deref ρ1 v) fun d => optR (keyD d) fun k => match ρ1[i]? with
    | some (some (.own _ (.dK kvs))) => optR (valKD kvs k) fun z => .ok (.val z) ρ1
    | _ => .bad
  | _ => .bad
/-- e in x, e not in x -/
def xtDIn (neg : Bool) (i : Nat) (f : DX) : DEnv → Res Bool := fun ρ => bindR (f ρ) fun v ρ1 => optR (deref ρ1 v) fun d => optR (keyD d) fun k => match ρ1[i]? with
    | some (some (.own _ (.dK kvs))) => .ok (if neg = true then !(valKD kvs k).isSome else (valKD kvs k).isSome) ρ1
    | _ => .bad
/-- x[e] = f -/
def gDPut (i : Nat) (fk fv : DX) : DSt := fun ρ => bindF (fv ρ) fun v ρ1 => optF (keep v ρ1) fun p => match p.2[i]? with
  | some (some (.own _ (.dK _))) => bindF (fk p.2) fun w ρ2 => optF (deref ρ2 w) fun d => optF (keyD d) fun k => match ρ2[i]? with
    | some (some (.own b (.dK kvs))) => if kvs.length < sizeLine then .nx (ρ2.set i (some (.own b (.dK (putKD kvs k p.1))))) else .bad
    | _ => .bad
  | _ => .bad
section
variable {X : Cx} {W : WX} {i : Nat} {o e v : Expr} {pos pos' : Pos} {f fk fv : DX}
theorem de_dget (hu : X.A.units + 200 < cLine) (ho : PE X o (tVar i)) (he : DE X W e f) (hs : NoSl e := by exact fun _ _ => rfl) : DE X W (.Subscript o e pos) (xDGet i f) := by
  refine ⟨pe_imp (pe_dget (by omega) ho he.pe hs) fun σ H Q ⟨O, ρ, r, s⟩ => ?_⟩
  unfold xDGet at s
  split at s
  case h_2 => exact s.elim
  rename_i b0 kvs0 e0
  obtain ⟨a, h1, _, _⟩ := r.own i _ _ e0
  refine ⟨_, h1, O, ρ, r, (Sat.bind s).imp fun u H1 ⟨w, ρ1, r1, e1, s1⟩ => ?_⟩
  obtain ⟨d, hd, s2⟩ := optR_sat s1
  obtain ⟨k, hk, s3⟩ := optR_sat s2
  split at s3
  case h_2 => exact s3.elim
  rename_i b kvs e3
  obtain ⟨z, hz, s4⟩ := optR_sat s3
  obtain ⟨a2, k1, k2, vvs, k3, k4, k5⟩ := r1.own i _ _ e3
  rw [h1] at k1
  cases k1
  have hu' := keyD_kV hk (e1.dp r1 hd)
  rcases valK_rel k k4 k5 with ⟨_, q⟩ | ⟨y, d', q1, q2, q3⟩
  · rw [q] at hz; cases hz
  · rw [q2] at hz
    cases hz
    refine ⟨a, y, rfl, ?_, s4 y H1 .refl r1 q3⟩
    rw [hu', ← q1]
    exact DGet.k k3
theorem valK_some {K : Frg} {G : Hp} {vvs : List (Key × V)} {kvs : List (Key × D)} (k : Key) (e : vvs.map (·.1) = kvs.map (·.1)) (a : DpAll K G (vvs.map (·.2)) (kvs.map (·.2))) : (valV vvs k).isSome = (valKD kvs k).isSome := by
  rcases valK_rel k e a with ⟨h1, h2⟩ | ⟨v, d, h1, h2, _⟩
  · rw [h1, h2]; rfl
  · rw [h1, h2]; rfl
theorem dt_din (hu : X.A.units + 200 < cLine) (ho : PE X o (tVar i)) (he : DE X W e f) (hm : behindInMarks .In o = false := by rfl) : DT X W (.Compare e [.In] [o] pos) (xtDIn false i f) := by
  refine ⟨pt_imp (pt_cmp (pc_din (by omega) he.pe ho) hm) fun σ H Q ⟨O, ρ, r, s⟩ => ?_⟩
  unfold xtDIn at s
  refine ⟨O, ρ, r, (Sat.bind s).imp fun u H1 ⟨w, ρ1, r1, e1, s1⟩ => ?_⟩
  obtain ⟨d, hd, s2⟩ := optR_sat s1
  obtain ⟨k, hk, s3⟩ := optR_sat s2
  split at s3
  case h_2 => exact s3.elim
  rename_i b kvs e3
  obtain ⟨a2, k1, k2, vvs, k3, k4, k5⟩ := r1.own i _ _ e3
  have hu' := keyD_kV hk (e1.dp r1 hd)
  refine ⟨_, k1, a2, valV vvs k, rfl, by rw [hu']; exact DGet.k k3, _, rfl, ?_⟩
  rw [valK_some k k4 k5]
  exact s3 _ H1 .refl r1 rfl
theorem dt_dnotin (hu : X.A.units + 200 < cLine) (ho : PE X o (tVar i)) (he : DE X W e f) (hm : behindInMarks .NotIn o = false := by rfl) : DT X W (.Compare e [.NotIn] [o] pos) (xtDIn true i f) := by
  refine ⟨pt_imp (pt_cmp (pc_dnotin (by omega) he.pe ho) hm) fun σ H Q ⟨O, ρ, r, s⟩ => ?_⟩
  unfold xtDIn at s
  refine ⟨O, ρ, r, (Sat.bind s).imp fun u H1 ⟨w, ρ1, r1, e1, s1⟩ => ?_⟩
  obtain ⟨d, hd, s2⟩ := optR_sat s1
  obtain ⟨k, hk, s3⟩ := optR_sat s2
  split at s3
  case h_2 => exact s3.elim
  rename_i b kvs e3
  obtain ⟨a2, k1, k2, vvs, k3, k4, k5⟩ := r1.own i _ _ e3
  have hu' := keyD_kV hk (e1.dp r1 hd)
  refine ⟨_, k1, a2, valV vvs k, rfl, by rw [hu']; exact DGet.k k3, _, rfl, ?_⟩
  rw [valK_some k k4 k5]
  exact s3 _ H1 .refl r1 rfl
theorem ds_dput (hu : X.A.units + 200 < cLine) (ho : PE X o (tVar i)) (he : DE X W e fk) (hv : DE X W v fv) (hs : swapsWith v (some (.Subscript o e pos')) pos.line X.env = pure false := by rfl) : DS X W (.Assign [.Subscript o e pos'] v pos) (gDPut i fk fv) := by
  refine ⟨ps_imp (ps_dput (by omega) ho he.pe hv.pe hs) fun E σ H ⟨O, ρ, r, s⟩ => ⟨O, ρ, r, (SatS.bind s).imp fun u H1 ⟨v, ρ1, r1, e1, st, s1⟩ => ?_⟩⟩
  obtain ⟨⟨d, ρ2⟩, hk, s2⟩ := optF_sat s1
  obtain ⟨r2, st2, hd⟩ := keep_ok r1 e1 hk
  try dsimp only at s2
  split at s2
  case h_2 => exact s2.elim
  rename_i b0 kvs0 e0
  obtain ⟨a, h1, _, _⟩ := r2.own i _ _ e0
  refine ⟨_, h1, O, ρ2, r2, (SatS.bind (s2.shift st2.s)).imp fun y H2 ⟨w, ρ3, r3, e3, st3, s3⟩ => ?_⟩
  obtain ⟨dk, hdk, s4⟩ := optF_sat s3
  obtain ⟨k, hkk, s5⟩ := optF_sat s4
  try dsimp only at s5
  split at s5
  case h_2 => exact s5.elim
  rename_i b kvs e5
  split at s5
  case isFalse => exact s5.elim
  rename_i hlen
  obtain ⟨a2, k1, k2, vvs, k3, k4, k5⟩ := r3.own i _ _ e5
  rw [h1] at k1
  cases k1
  have hu' := keyD_kV hkk (e3.dp r3 hdk)
  have hl : vvs.length = kvs.length := by
    have := congrArg List.length k4
    simpa using this
  have hdu : Dp X.K (Gv O σ ρ3 H2) u d := dp_mono st3.gv _ _ hd
  obtain ⟨p1, p2⟩ := putK_rel k hdu k4 k5
  obtain ⟨r6, st6⟩ := put_own (c' := .dK (putKD kvs k d)) (o := .dK (putK vvs k u)) r3 e5 h1 ⟨_, upd_same, p1, p2⟩
  exact ⟨a, _, rfl, by rw [hu']; exact DPut.k k3 (by omega), s5 σ _ st6.s r6⟩
/-- {e: f} with one pair -/
def xDOne (fk fv : DX) : DEnv → Res Cell := fun ρ => bindR (fk ρ) fun w ρ1 => optR (deref ρ1 w) fun d => optR (keyD d) fun k => bindR (fv ρ1) fun v ρ2 => optR (keep v ρ2) fun p => .ok (.dK [(k, p.1)]) p.2
end
section
variable {X : Cx} {W : WX} {i : Nat} {o e : Expr} {apos cpos : Pos} {f : DX}
/-- x.remove(e), the items ints, e among them -/
def xRem (i : Nat) (f : DX) : DX := fun ρ => match ρ[i]? with
  | some (some (.own _ (.lst _))) => bindR (f ρ) fun v ρ1 => match deref ρ1 v, ρ1[i]? with
    | some (.int k), some (some (.own b (.lst ds))) => optR (intsOf ds) fun ns => if k ∈ ns then .ok (.val .none) (ρ1.set i (some (.own b (.lst ((ns.erase k).map .int))))) else .bad
    | _, _ => .bad
  | _ => .bad
theorem tk0 : L2.Takes X (fun _ _ _ _ => False) := fun _ _ ⟨_, _, _, _, _, _, _, _, _, _, _, _, _, _, _, _, w⟩ => w.elim
theorem de_rem (hc : X.calm = true) (ho : PE X o (tVar i)) (he : DE X W e f) (hbase : attributeBase o "remove" X.env (eval o X.env) = eval o X.env := by rfl)
    (hfew : ((backTo cpos (starEach [e] X.env)).all (fun x => !x.1) && (backToKw cpos (keywordEach [] X.env)).all (fun x => x.1.isSome)
      && decide (([e] : List Expr).length + ([] : List Keyword).length + (if ([] : List Keyword).isEmpty then 0 else 1) < 30)) = true := by rfl)
    (hline : (apos.endLine == cpos.line) = true := by rfl) (hs : starEach [e] X.env = (false, eval e X.env) :: starEach [] X.env := by rfl) (hplain : (backTo cpos (starEach [] X.env)).any (·.1) = false := by rfl) :
    DE X W (.Call (.Attribute o "remove" apos) [e] [] cpos) (xRem i f) := by
  refine ⟨pe_imp (pe_remX hc tk0 ho he.pe hbase hfew hline hs hplain) fun σ H Q ⟨O, ρ, r, s⟩ => ?_⟩
  unfold xRem at s
  split at s
  case h_2 => exact s.elim
  rename_i b0 ds0 e0
  obtain ⟨a, h1, _, vs0, h3, h4⟩ := r.own i _ _ e0
  refine ⟨_, h1, .inl ⟨rfl, vs0, SqL.of h3⟩, O, ρ, r, (Sat.bind s).imp fun u H1 ⟨w, ρ1, r1, e1, s1⟩ => ?_⟩
  try dsimp only at s1
  split at s1
  case h_2 => exact s1.elim
  rename_i k b ds hd e2
  obtain ⟨ns, hn, s2⟩ := optR_sat s1
  split at s2
  case isFalse => exact s2.elim
  rename_i hin
  obtain ⟨a2, k1, k2, xs, k3, k4⟩ := r1.own i _ _ e2
  rw [h1] at k1
  cases k1
  have hl := intsOf_eq hn
  subst hl
  have hw := DL.DpAll.ints k4
  subst hw
  cases RelE.int e1 r1 hd
  refine ⟨a, ns, k, rfl, rfl, k3, fun _ => ?_, fun z => absurd hin z⟩
  obtain ⟨r3, st3⟩ := put_own (c' := .lst ((ns.erase k).map .int)) (o := .lst ((ns.erase k).map V.int)) r1 e2 h1 ⟨_, upd_same, DL.DpAll.of_ints _⟩
  exact s2 _ _ st3 r3 (show Dp _ _ _ _ from .non)
end
section
variable {K : Frg} {O : Addr → Prop} {σ : L2.St} {ρ : DEnv} {H : Hp} {p : Addr} {o : HO}
theorem gv_at : ∀ a u, Gv (fun a => O a ∨ a = p) σ ρ H a = some u → Gv (fun a => O a ∨ a = p) σ ρ (upd H p o) a = some u := fun a u e => by
  obtain ⟨h1, h2, h3⟩ := of_Gv e
  have n : a ≠ p := fun z => h1 (.inr z)
  exact Gv_of h1 h2 (by rw [upd_ne n]; exact h3)
theorem RelEnv.atHidden (r : RelEnv K (fun a => O a ∨ a = p) σ H ρ) : RelEnv K (fun a => O a ∨ a = p) σ (upd H p o) ρ := by
  refine ⟨r.len, fun a q => ?_, fun i d e => let ⟨v, h1, h2⟩ := r.val i d e; ⟨v, h1, dp_mono gv_at _ _ h2⟩, fun i b c e => ?_, r.inj, r.raw⟩
  · by_cases z : a = p
    · rw [z, upd_same]; exact fun z => nomatch z
    · rw [upd_ne z]; exact r.oa a q
  · obtain ⟨a, h1, h2, h3⟩ := r.own i b c e
    have n : a ≠ p := fun z => h2 (.inr z)
    exact ⟨a, h1, h2, h3.mono gv_at fun u e => by rw [upd_ne n]; exact e⟩
variable {X : Cx} {W : WX} {k v : Expr} {fk fv : DX} {pos : Pos}
theorem dl_done (hk : DE X W k fk) (hv : DE X W v fv) : DLs X W (.Dict [some k] [v] pos) (xDOne fk fv) := by
  refine ⟨pe_imp (pe_disp (pps_cons hk.pe hv.pe pps_nil) rfl rfl (by simp) (by simp)) fun σ H Q ⟨O, ρ, r, s⟩ => ?_⟩
  intro p hp
  have e0 : EStp σ ρ H ρ (upd H p (.dK [])) := EStp.same (same_upd hp)
  have r0 : RelEnv X.K (fun a => O a ∨ a = p) σ (upd H p (.dK [])) ρ := r.hidden hp
  have np : ¬ Ow σ ρ p := (r.fresh hp).2
  refine ⟨fun a => O a ∨ a = p, ρ, r0, ?_⟩
  unfold xDOne at s
  cases q : fk ρ with
  | bad => rw [q] at s; exact s
  | err x ρ1 => rw [q] at s; exact fun c d H' st r1 ex => s c d H' (e0.trans st) r1.unhide ex
  | ok w ρ1 =>
    rw [q] at s
    intro x H1 st1 r1 e1
    rw [bindR_ok] at s
    obtain ⟨d, hd, s2⟩ := optR_satL s
    obtain ⟨k, hkk, s3⟩ := optR_satL s2
    refine ⟨fun a => O a ∨ a = p, ρ1, r1, ?_⟩
    cases q2 : fv ρ1 with
    | bad => rw [q2] at s3; exact s3
    | err x ρ2 => rw [q2] at s3; exact fun c d H' st r2 ex => s3 c d H' ((e0.trans st1).trans st) r2.unhide ex
    | ok v ρ2 =>
      rw [q2] at s3
      intro y H2 st2 r2 e2
      rw [bindR_ok] at s3
      obtain ⟨⟨dv, ρ3⟩, hkp, s4⟩ := optR_satL s3
      obtain ⟨r3, st3, hdv⟩ := keep_ok r2 e2 hkp
      have E := (e0.trans st1).trans (st2.trans st3)
      have hx := keyD_kV hkk (e1.dp r1 hd)
      have atp : ∀ {ρ' : DEnv} {H' : Hp}, EStp σ ρ (upd H p (.dK [])) ρ' H' → H' p = some (.dK []) := fun E' => E'.ext p _ upd_same np
      have hp2 : H2 p = some (.dK []) := atp (st1.trans (st2.trans st3))
      refine ⟨hp2, [(k, y)], by rw [hx]; rfl, by simp, ?_⟩
      refine s4 p _ ⟨fun b o e n => by rw [upd_ne (ne_of_none e hp)]; exact E.ext b o e n, fun b e => ?_, E.own, E.io⟩ hp ⟨RelEnv.atHidden r3, (r.fresh hp).1, fun z => np (E.own p z), [(k, y)], upd_same, rfl, .cons (dp_mono gv_at _ _ hdv) .nil⟩
      by_cases z : b = p
      · rw [z, upd_same]; exact fun z => nomatch z
      · rw [upd_ne z]; exact E.al b e
end
/-! ### stepped by simp -/
section
variable {ρ : DEnv} {i : Nat} {f fk fv : DX} {α : Type}
def dkR (o : Option (Option SV)) (k : Bool → List (Key × D) → Res α) : Res α := match o with
  | some (some (.own b (.dK kvs))) => k b kvs
  | _ => .bad
def dkF (o : Option (Option SV)) (k : Bool → List (Key × D) → Fl) : Fl := match o with
  | some (some (.own b (.dK kvs))) => k b kvs
  | _ => .bad
@[simp] theorem dkR_own {b : Bool} {kvs : List (Key × D)} {k : Bool → List (Key × D) → Res α} : dkR (some (some (.own b (.dK kvs)))) k = k b kvs := (Eq.refl _).trans (Eq.refl _)
@[simp] theorem dkF_own {b : Bool} {kvs : List (Key × D)} {k : Bool → List (Key × D) → Fl} : dkF (some (some (.own b (.dK kvs)))) k = k b kvs := (Eq.refl _).trans (Eq.refl _)
@[simp] theorem keyD_int {n : Int} : keyD (.int n) = some (Sum.inl n) := (Eq.refl _).trans (Eq.refl _)
@[simp] theorem keyD_str {x : Str} : keyD (.str x) = some (Sum.inr x) := (Eq.refl _).trans (Eq.refl _)
@[simp] theorem xDGet_ap : xDGet i f ρ = dkR ρ[i]? fun _ _ => bindR (f ρ) fun v ρ1 => optR (deref ρ1 v) fun d => optR (keyD d) fun k => dkR ρ1[i]? fun _ kvs => optR (valKD kvs k) fun z => .ok (.val z) ρ1 := by
  unfold xDGet dkR; rfl
@[simp] theorem xtDIn_ap {neg : Bool} : xtDIn neg i f ρ = bindR (f ρ) fun v ρ1 => optR (deref ρ1 v) fun d => optR (keyD d) fun k => dkR ρ1[i]? fun _ kvs => .ok (if neg = true then !(valKD kvs k).isSome else (valKD kvs k).isSome) ρ1 := by
  unfold xtDIn dkR; rfl
@[simp] theorem gDPut_ap : gDPut i fk fv ρ = bindF (fv ρ) fun v ρ1 => optF (keep v ρ1) fun p => dkF p.2[i]? fun _ _ => bindF (fk p.2) fun w ρ2 => optF (deref ρ2 w) fun d => optF (keyD d) fun k => dkF ρ2[i]? fun b kvs =>
    if kvs.length < sizeLine then .nx (ρ2.set i (some (.own b (.dK (putKD kvs k p.1))))) else .bad := by
  unfold gDPut dkF; rfl
@[simp] theorem xDOne_ap : xDOne fk fv ρ = bindR (fk ρ) fun w ρ1 => optR (deref ρ1 w) fun d => optR (keyD d) fun k => bindR (fv ρ1) fun v ρ2 => optR (keep v ρ2) fun p => .ok (.dK [(k, p.1)]) p.2 := (Eq.refl _).trans (Eq.refl _)
def remR (o : Option D) (o2 : Option (Option SV)) (k : Int → Bool → List D → Res EV) : Res EV := match o, o2 with
  | some (.int n), some (some (.own b (.lst ds))) => k n b ds
  | _, _ => .bad
@[simp] theorem remR_own {n : Int} {b : Bool} {ds : List D} {k : Int → Bool → List D → Res EV} : remR (some (.int n)) (some (some (.own b (.lst ds)))) k = k n b ds := (Eq.refl _).trans (Eq.refl _)
@[simp] theorem xRem_ap : xRem i f ρ = xmA ρ[i]? (bindR (f ρ) fun v ρ1 => remR (deref ρ1 v) ρ1[i]? fun k b ds => optR (intsOf ds) fun ns => if k ∈ ns then .ok (.val .none) (ρ1.set i (some (.own b (.lst ((ns.erase k).map .int))))) else .bad) := by
  unfold xRem xmA remR; rfl
end
end DL


namespace HT
open PySem PySem.Spec PyProof.Rows
section
variable {prog : Program} {w : World} {A : Around} {E : Value → Shared → Prop} {s : Shared}
theorem sliceApplied_rev {sl : Addr} {vl vu vs : Value} {n : Nat} {Q : Int × Int × Nat → Shared → Prop} (hs : s.heap.IsSliceOf sl vl vu vs) (pl : IsPart vl none) (pu : IsPart vu none) (ps : IsPart vs (some (-1)))
    (h : Q ((n : Int) - 1, -1, n) s) : wpAny (model prog w) A (Builtin.Slice.sliceApplied (.ref sl) (pure (n : Int))) Q E s := by
  obtain ⟨os, hos, hcs, hds⟩ := id hs
  unfold Builtin.Slice.sliceApplied Builtin.Slice.sliceFields
  refine wpAny_bind (wpAny_bind (wpAny_field hos hds (x := vl) rfl (wpAny_bind (wpAny_field hos hds (x := vu) rfl (wpAny_bind (wpAny_field hos hds (x := vs) rfl (wpAny_pure ?_)))))))
  refine wpAny_bind (slicePart_ ps ?_)
  show wpAny _ _ (if ((-1 : Int) == 0) = true then _ else _) _ _ s
  rw [if_neg (by decide)]
  refine wpAny_bind (slicePart_ pl (wpAny_bind (slicePart_ pu (wpAny_bind (wpAny_pure ?_)))))
  have e : Builtin.Slice.slicePlaces ((n : Int) - 1) (-1) (-1) = n := by
    unfold Builtin.Slice.slicePlaces
    cases n with
    | zero => rfl
    | succ n =>
      simp
      omega
  have e2 : Builtin.Slice.sliceAdjust none none (-1) (n : Int) = ((n : Int) - 1, -1) := by
    unfold Builtin.Slice.sliceAdjust
    rfl
  show wpAny _ _ (match Builtin.Slice.sliceAdjust none none (-1) (n : Int) with | (lo, hi) => pure (lo, (-1 : Int), Builtin.Slice.slicePlaces lo hi (-1))) _ _ s
  rw [e2]
  show wpAny _ _ (pure ((n : Int) - 1, (-1 : Int), Builtin.Slice.slicePlaces ((n : Int) - 1) (-1) (-1))) _ _ s
  rw [e]
  exact wpAny_pure h
theorem fm_congr {α β : Type} {f g : α → Option β} : ∀ l : List α, (∀ k ∈ l, f k = g k) → l.filterMap f = l.filterMap g
  | [], _ => rfl
  | a :: l, h => by rw [List.filterMap_cons, List.filterMap_cons, h a List.mem_cons_self, fm_congr l fun k hk => h k (List.mem_cons_of_mem _ hk)]
theorem pick_rev (xs : Array Value) : ((List.range xs.size).filterMap fun (k : Nat) => xs[((xs.size : Int) - 1 + (k : Int) * (-1)).toNat]?).toArray = xs.toList.reverse.toArray := by
  have e : ((List.range xs.size).filterMap fun (k : Nat) => xs[((xs.size : Int) - 1 + (k : Int) * (-1)).toNat]?) = xs.toList.reverse := by
    have e1 : ∀ k ∈ List.range xs.size, xs[((xs.size : Int) - 1 + (k : Int) * (-1)).toNat]? = some (xs.toList.reverse.getD k default) := by
      intro k hk
      have hk' := List.mem_range.mp hk
      have e2 : ((xs.size : Int) - 1 + (k : Int) * (-1)).toNat = xs.size - 1 - k := by omega
      rw [e2, List.getD_eq_getElem?_getD, List.getElem?_reverse (by simpa using hk')]
      simp
      have : xs.size - 1 - k < xs.size := by omega
      simp [this]
    have : ((List.range xs.size).filterMap fun (k : Nat) => xs[((xs.size : Int) - 1 + (k : Int) * (-1)).toNat]?) = (List.range xs.size).map fun k => xs.toList.reverse.getD k default := by
      rw [← List.filterMap_eq_map]
      exact fm_congr _ fun k hk => by rw [e1 k hk]; rfl
    rw [this]
    refine List.ext_getElem (by simp) fun i h1 h2 => ?_
    have h2' : i < xs.size := by simpa using h2
    simp [h2']
  rw [e]
theorem getItem_tuple_rev {t sl : Addr} {items : Array Value} {vl vu vs : Value} {Q : Value → Shared → Prop} (ht : IsTup s.heap t items) (hs : s.heap.IsSliceOf sl vl vu vs) (pl : IsPart vl none) (pu : IsPart vu none) (ps : IsPart vs (some (-1)))
    (h : Q (.ref s.heap.objs.size) { s with heap := s.heap.push { cls := .type "tuple", data := .seq items.toList.reverse.toArray } })
    (hsz : items.size ≤ sizeLine) : wpAny (model prog w) A (getItem (.ref t) (.ref sl)) Q E s := by
  have htake : sizeOk (.seq items.toList.reverse.toArray) := by
    show items.toList.reverse.toArray.size ≤ sizeLine
    simpa using hsz
  obtain ⟨os, hos, hcs, hds⟩ := id hs
  have hTs : s.TypeIs (.ref sl) "slice" := ⟨os, hos, hcs⟩
  unfold getItem
  try with_reducible refine wpAny_holding ?_
  first | refine wpAny_bind (wpAny_pure ?_) | skip
  refine wpAny_bind (wpAny_sequenceKey ht.typeIs (by decide) ?_)
  refine wpAny_bind (wpAny_callSpecial?_slot (name := Str.ofString "__getitem__") ht.typeIs PyProof.Rows.slot_tuple_getitem
    (wpAny_call_entry PyProof.Rows.slot_tuple_getitem ht.typeIs entry_tuple_getitem ?_ (args_tuple_getitem _ _)))
  show wpAny _ _ (Builtin.Tuple.tupleItemsOf (.ref t) >>= _) _ _ s
  refine wpAny_bind (tupleItemsOf_ ht ?_)
  refine wpAny_bind (wpAny_typeOf hTs ?_)
  rw [if_pos (by decide)]
  refine wpAny_bind (sliceApplied_rev hs pl pu ps ?_)
  have hno : ¬ ((((items.size : Int) - 1 == 0 && (-1 : Int) == 1 && items.size == items.size) = true)) := by
    intro q
    rw [Bool.and_eq_true, Bool.and_eq_true] at q
    exact absurd q.1.2 (by decide)
  show wpAny _ _ (if (((items.size : Int) - 1 == 0 && (-1 : Int) == 1 && items.size == items.size) = true) then _ else _) _ _ s
  rw [if_neg hno, pick_rev]
  first
    | exact wpAny_bind (m := Builtin.Tuple.tupleExact _) (wpAny_newObj_type (wpAny_pure ⟨_, rfl, wpAny_pure h⟩) htake)
    | exact wpAny_bind (m := Builtin.Tuple.tupleExact _) (wpAny_newObj_type (wpAny_bind (wpAny_pure (wpAny_pure ⟨_, rfl, wpAny_pure h⟩))) htake)
    | exact wpAny_bind (wpAny_bind (m := Builtin.Tuple.tupleExact _) (wpAny_newObj_type (wpAny_pure (wpAny_pure ⟨_, rfl, wpAny_pure h⟩)) htake))
    | exact wpAny_bind (wpAny_bind (m := Builtin.Tuple.tupleExact _) (wpAny_newObj_type (wpAny_pure ⟨_, rfl, wpAny_pure h⟩) htake))
end
end HT

namespace L2
open PySem PySem.Spec PyProof.Rows
section
variable {X : Cx}
def tRevT (K : PySem.W.Frag) (te : TE) : TE := fun σ H Q => te σ H fun x H1 => ∃ a xs, x = .ref a ∧ SqT K H1 a xs ∧ ∀ p, H1 p = none → Q (.ref p) (upd H1 p (.tup xs.reverse))
theorem pe_revT {e : Expr} {te : TE} {k : Nat} {p1 p2 p3 pos : Pos} (he : PE X e te) : PE X (.Subscript e (.Slice none none (some (.UnaryOp .USub (.Constant (.int 1) k p1) p2)) p3) pos) (tRevT X.K te) := by
  refine ⟨fun pins s σ H Q I h => ?_⟩
  refine Subscript_ (thn (he.run pins s σ H _ I h) fun v s1 ⟨x, H1, I1, r1, q1⟩ => ?_)
  obtain ⟨a, xs, ex, hx, q⟩ := q1
  subst ex
  cases r1
  have hst : PO X (some (.UnaryOp .USub (.Constant (.int 1) k p1) p2)) (tPart (tUn (rU fun i => .int (-i)) (tC (.int 1)))) := po_some (pe_un un_neg pe_int)
  refine wpAny_Slice (thn (po_none.run pins s1 σ H1 (fun o H2 => o = none ∧ H2 = H1) I1 ⟨rfl, rfl⟩) fun vl s2 ⟨l, H2, I2, pl, el, e2⟩ => ?_)
  subst el e2
  refine thn (po_none.run pins s2 σ H2 (fun o H3 => o = none ∧ H3 = H2) I2 ⟨rfl, rfl⟩) fun vu s3 ⟨u, H3, I3, pu, eu, e3⟩ => ?_
  subst eu e3
  refine thn (hst.run pins s3 σ H3 (fun o H4 => o = some (-1) ∧ H4 = H3) I3 ⟨1, rfl, -1, rfl, rfl, rfl⟩) fun vs s4 ⟨o, H4, I4, ps, eo, e4⟩ => ?_
  subst eo e4
  have I5 : Inv X pins σ H4 { s4 with heap := s4.heap.push { cls := .type "slice", data := .fields #[vl, vu, vs] } } := I4.kept (t' := s4.toks) fun b ob q => Heap.get?_push_of_some _ q
  obtain ⟨its, r, ht, hz⟩ := I5.tuple hx
  have hlen := r.length
  show wpAny (model X.prog X.w) X.A (subscriptTail e (.Slice none none (some (.UnaryOp .USub (.Constant (.int 1) k p1) p2)) p3) (.ref a) (.ref s4.heap.objs.size)) (EP X pins σ Q) X.xe { s4 with heap := s4.heap.push { cls := .type "slice", data := .fields #[vl, vu, vs] } }
  refine tail_any (ops := [.ref a, .ref s4.heap.objs.size]) ht.typeIs (PyProof.Rows.slot_tuple_getitem.lookup) ?_ (by with_unfolding_all rfl)
  refine HT.getItem_tuple_rev ht (Heap.IsSliceOf.new _ vl vu vs) pl pu ps ?_ (by rw [List.size_toArray]; omega)
  refine ⟨.ref _, _, I5.laid (t' := s4.toks) (o := .tup xs.reverse) (fun b ob q => Heap.get?_push_of_some _ q) (Nat.le_refl _) ?_, rfl, q _ (I5.hok.fresh (Nat.le_refl _))⟩
  exact ⟨by rw [List.length_reverse]; exact hz, _, r.reverse, IsTup.new _ _⟩
end
end L2

namespace DL
open L2 PySem PySem.Spec PyProof.Rows
section
variable {X : Cx} {W : WX} {e : Expr} {f : DX} {k : Nat} {p1 p2 p3 pos : Pos}
/-- t[::-1], t a tuple -/
def kRevT : D → Option D
  | .tuple ds => some (.tuple ds.reverse)
  | _ => none
theorem de_revT (he : DE X W e f) : DE X W (.Subscript e (.Slice none none (some (.UnaryOp .USub (.Constant (.int 1) k p1) p2)) p3) pos) (x1 kRevT f) := by
  refine ⟨pe_imp (pe_revT he.pe) fun σ H Q ⟨O, ρ, r, s⟩ => ⟨O, ρ, r, (Sat.bind s).imp fun u H1 ⟨v, ρ1, r1, e1, s1⟩ => ?_⟩⟩
  obtain ⟨d, hd, s2⟩ := optR_sat s1
  obtain ⟨z, hz, s3⟩ := optR_sat s2
  unfold kRevT at hz
  split at hz
  · cases hz
    obtain ⟨p, vs, rfl, t1, a1⟩ := RelE.tup e1 r1 hd
    refine ⟨p, vs, rfl, SqT.mono Gv_sub t1, fun q hq => ?_⟩
    obtain ⟨m1, m2⟩ := dp_new r1 hq (DL.DpAll.reverse a1)
    exact s3 _ _ (.same m1) (r1.same m1) m2
  · cases hz
/-- l[::-1], l a list -/
def xRevL (f : DX) : DEnv → Res Cell := fun ρ => bindR (f ρ) fun a ρ1 => match deref ρ1 a with
  | some (.list ds) => .ok (.lst ds.reverse) ρ1
  | _ => .bad
theorem dl_revL (he : DE X W e f) : DLs X W (.Subscript e (.Slice none none (some (.UnaryOp .USub (.Constant (.int 1) k p1) p2)) p3) pos) (xRevL f) := by
  refine ⟨pe_imp (pe_revL he.pe) fun σ H Q ⟨O, ρ, r, s⟩ => ⟨O, ρ, r, (SatL.bind s).imp fun u H1 ⟨v, ρ1, r1, e1, st1, s1⟩ => ?_⟩⟩
  try dsimp only at s1
  split at s1
  case h_2 => exact s1.elim
  rename_i ds hd
  obtain ⟨p, vs, rfl, t1, a1⟩ := RelE.lst e1 r1 hd
  refine ⟨p, vs, rfl, t1, fun q hq => ?_⟩
  exact s1 q _ (.same (same_upd hq)) hq (.mk' r1 hq (DL.DpAll.reverse a1))
@[simp] theorem kRevT_ap {ds : List D} : kRevT (.tuple ds) = some (.tuple ds.reverse) := (Eq.refl _).trans (Eq.refl _)
def revR (o : Option D) (ρ1 : DEnv) : Res Cell := match o with
  | some (.list ds) => .ok (.lst ds.reverse) ρ1
  | _ => .bad
@[simp] theorem revR_ap {ds : List D} {ρ : DEnv} : revR (some (.list ds)) ρ = .ok (.lst ds.reverse) ρ := (Eq.refl _).trans (Eq.refl _)
@[simp] theorem xRevL_ap {ρ : DEnv} : xRevL f ρ = bindR (f ρ) fun a ρ1 => revR (deref ρ1 a) ρ1 := (Eq.refl _).trans (Eq.refl _)
end

/-! ### sorted -/
def isTup1 : D → Bool
  | .tuple (_ :: _) => true
  | _ => false
def notNT : D → Bool
  | .none => false
  | .tuple _ => false
  | _ => true
def sortableB (ds : List D) : Bool := (ds.all fun d => ds.all fun e => PySem.W.alike d e) && (ds.all isTup1 || ds.all notNT) && ds.all fun d => decide (d.depth ≤ 64)
def kSorted : List D → Option (List D)
  | [.list ds] => if sortableB ds = true then some (ds.mergeSort fun a b => !PySem.W.dataLt b a) else none
  | _ => none
section
variable {X : Cx}
theorem each_of {K : Frg} {G : Hp} : ∀ {ws : List V} {ds : List D} {us : List Value}, DpAll K G ws ds → Vals ws us → PySem.W.EachIs (fun (v : Value) (b : V × D) => RelV b.1 v ∧ Dp K G b.1 b.2) us (ws.zip ds)
  | [], _, _, a, r => by cases a; cases r; exact .nil
  | w :: ws, _, _, a, r => by
    cases a with
    | cons a1 a2 =>
      cases r with
      | cons r1 r2 => exact .cons ⟨r1, a1⟩ (each_of a2 r2)
theorem of_each {K : Frg} {G : Hp} : ∀ {bs : List (V × D)} {us : List Value}, PySem.W.EachIs (fun (v : Value) (b : V × D) => RelV b.1 v ∧ Dp K G b.1 b.2) us bs → Vals (bs.map (·.1)) us ∧ DpAll K G (bs.map (·.1)) (bs.map (·.2))
  | [], _, h => by cases h; exact ⟨.nil, .nil⟩
  | b :: bs, _, h => by
    cases h with
    | cons h1 h2 =>
      obtain ⟨a, c⟩ := of_each h2
      exact ⟨.cons h1.1 a, .cons h1.2 c⟩
theorem zip_snd {K : Frg} {G : Hp} : ∀ {ws : List V} {ds : List D}, DpAll K G ws ds → (ws.zip ds).map (·.2) = ds
  | [], _, a => by cases a; rfl
  | w :: ws, _, a => by
    cases a with
    | cons a1 a2 => rw [List.zip_cons_cons, List.map_cons, zip_snd a2]
theorem sortable_of {ds : List D} (h : sortableB ds = true) : PySem.W.AllAlike ds ∧ PySem.W.Sortable ds ∧ ∀ d ∈ ds, d.depth ≤ 64 := by
  simp only [sortableB, Bool.and_eq_true, List.all_eq_true, Bool.or_eq_true, decide_eq_true_eq] at h
  obtain ⟨⟨h1, h2⟩, h3⟩ := h
  refine ⟨fun d hd e he => h1 d hd e he, ?_, h3⟩
  rcases h2 with h2 | h2
  · refine .inl fun d hd => ?_
    have := h2 d hd
    unfold isTup1 at this
    split at this
    · exact ⟨_, _, rfl⟩
    · cases this
  · refine .inr fun d hd => ?_
    have := h2 d hd
    exact ⟨fun z => (by rw [z] at this; cases this), fun xs z => (by rw [z] at this; cases this)⟩
theorem c_sorted (hu : X.A.units + 200 < cLine) : CallR X (.builtin "sorted") (rDnL X.K kSorted) := by
  intro pins s σ H xs us Q I rs ⟨O, σ', ρ, vs, ds, z, r, e, hd, hk, q⟩
  unfold kSorted at hk
  split at hk
  case h_2 => cases hk
  rename_i l
  split at hk
  case isFalse => cases hk
  rename_i hs
  cases hk
  obtain ⟨u, a, rfl, ea, hda⟩ := one_arg r e hd
  obtain ⟨p, ws, rfl, s1, a1⟩ := RelE.lst ea r hda
  obtain ⟨its, rv, hl, hz⟩ := I.list s1
  rw [Vals.ref1 rs]
  obtain ⟨k1, k2, k3⟩ := sortable_of hs
  have hb := zip_snd a1
  have aH := dpAll_mono (Gv_sub (O := O) (σ := σ') (ρ := ρ) (H := H)) _ _ a1
  have E1 := each_of a1 rv
  have E2 : PySem.W.EachIs (fun (v : Value) (b : V × D) => ∃ as, Reads s.heap v b.2 as) its (ws.zip l) := E1.mono fun v b ⟨h1, h2⟩ => Dp.reads I b.2 b.1 v (dp_mono Gv_sub _ _ h2) h1
  have hlen : (ws.zip l).length = l.length := by
    have := congrArg List.length hb
    simpa using this
  have hll := DL.DpAll.length a1
  refine PySem.W.sorted_data (enc := fun b : V × D => b.2) hl.isList E1 E2 (by rw [hb]; exact k1) (by rw [hb]; exact k2) (by rw [hlen, ← hll]; exact hz) (fun b hbm => ?_) fun out ho eo => ?_
  · have : b.2 ∈ l := by rw [← hb]; exact List.mem_map.mpr ⟨b, hbm, rfl⟩
    have := k3 _ this
    omega
  · obtain ⟨v1, v2⟩ := of_each eo
    obtain ⟨ep, he'⟩ := PyProof.Rows.sortedAll_at s.heap its out.toArray
    have hm : ((ws.zip l).mergeSort (PySem.W.dataLe false fun b : V × D => b.2)).map (·.2) = l.mergeSort fun a b => !PySem.W.dataLt b a := by
      rw [List.map_mergeSort (s := fun a b => !PySem.W.dataLt b a) (fun a _ b _ => by rw [PySem.W.dataLe_eq]; rfl), hb]
    rw [hm] at v2
    have hlen2 : (((ws.zip l).mergeSort (PySem.W.dataLe false fun b : V × D => b.2)).map (·.1)).length ≤ sizeLine := by
      rw [List.length_map, List.length_mergeSort, hlen, ← hll]; exact hz
    exact ⟨.ref _, upd H (s.heap.objs.size + 1) (.lst _), I.laid (t' := s.toks) (fun _ _ => PyProof.Rows.sortedAll_old) (Nat.le_succ _) ⟨hlen2, out, ep, v1, he'⟩, rfl, q _ _ (I.hok.fresh (Nat.le_succ _)) v2⟩
theorem alike_int (a b : Int) : PySem.W.alike (.int a) (.int b) = true := by simp [PySem.W.alike]
theorem sortable_ints (ns : List Int) : sortableB (ns.map PyData.int) = true := by
  simp only [sortableB, Bool.and_eq_true, List.all_eq_true, Bool.or_eq_true, decide_eq_true_eq]
  refine ⟨⟨fun d hd e he => ?_, .inr fun d hd => ?_⟩, fun d hd => ?_⟩
  · obtain ⟨a, _, rfl⟩ := List.mem_map.mp hd
    obtain ⟨b, _, rfl⟩ := List.mem_map.mp he
    exact alike_int a b
  · obtain ⟨a, _, rfl⟩ := List.mem_map.mp hd; rfl
  · obtain ⟨a, _, rfl⟩ := List.mem_map.mp hd; exact Nat.zero_le _
@[simp] theorem kSorted_ints {ns : List Int} : kSorted [.list (ns.map PyData.int)] = some ((ns.mergeSort fun a b => decide (a ≤ b)).map PyData.int) := by
  show (if sortableB (ns.map PyData.int) = true then some ((ns.map PyData.int).mergeSort fun a b => !PySem.W.dataLt b a) else none) = _
  rw [if_pos (sortable_ints ns), List.map_mergeSort (s := fun a b => !PySem.W.dataLt b a) (fun a _ b _ => ?_)]
  have := congrFun (congrFun (PySem.W.dataLe_int fun k : Int => k) a) b
  rw [PySem.W.dataLe_eq] at this
  exact this.symm
end
end DL

namespace DL
open L2 PySem PySem.Spec PyProof.Rows

/-! ### range(i, j, c) -/
section
variable {X : Cx} {W : WX} {tg : Expr}
def rgN (i j c : Int) : Nat := (Builtin.Range.rangeSize i j c).toNat
theorem rgN_eq (i j c : Int) (hc : c ≠ 0) : Builtin.Range.rangeSize i j c = (rgN i j c : Nat) := by
  unfold rgN
  have : 0 ≤ Builtin.Range.rangeSize i j c := by
    unfold Builtin.Range.rangeSize
    split
    · rename_i h
      split
      · have := Int.ediv_nonneg (a := j - i - 1) (b := c) (by omega) (by omega); omega
      · omega
    · split
      · have := Int.ediv_nonneg (a := i - j - 1) (b := -c) (by omega) (by omega); omega
      · omega
  omega
def rg3Ok (i j c : Int) : Bool := decide (c ≠ 0 ∧ c.natAbs < 1073741824) && Builtin.Range.small i j c
def iRange3 (g : DEnv → Res (List EV)) : DEnv → Res (List D) := fun ρ => bindR (g ρ) fun vs ρ1 => match vs with
  | [.val (.int i), .val (.int j), .val (.int c)] => if rg3Ok i j c = true then .ok (rangeCD i c (rgN i j c)) ρ1 else .bad
  | _ => .bad
theorem di_range3 {a b c : Expr} {g : DEnv → Res (List EV)} {p pos : Pos} (hm : X.mg "range" = none) (ha : DA X W [a, b, c] g) (hg : Gl X "range" := by rfl) (hs : starEach [a, b, c] X.env = (false, eval a X.env) :: starEach [b, c] X.env := by rfl)
    (hpl : (backTo pos (starEach [b, c] X.env)).any (·.1) = false := by rfl) : DI X W tg (.Call (.Name "range" p) [a, b, c] [] pos) (iRange3 g) := by
  refine ⟨pi_imp (pi_range3 hg hm ha.pa hs hpl) fun σ H R ⟨O, ρ, r, s⟩ => ⟨O, ρ, r, (sat_bindI s).imp fun us H1 ⟨vs, ρ1, r1, e1, st, s1⟩ => ?_⟩⟩
  try dsimp only at s1
  split at s1
  · rename_i i j c
    split at s1
    · rename_i hj
      match us, e1 with
      | [u, v, w], e1 =>
        have q : Dp X.K _ u (.int i) := e1.1
        have q2 : Dp X.K _ v (.int j) := e1.2.1
        have q3 : Dp X.K _ w (.int c) := e1.2.2.1
        cases q; cases q2; cases q3
        simp only [rg3Ok, Bool.and_eq_true, decide_eq_true_eq] at hj
        exact ⟨i, j, c, rgN i j c, rfl, ⟨hj.1.1, hj.1.2, hj.2, rgN_eq i j c hj.1.1⟩, s1 _ H1 .refl r1 src_rangeC⟩
    · exact s1.elim
  · exact s1.elim

/-! ### list(range(..)) -/
def tLRC (ta : TA) : TE := fun σ H Q => ta σ H fun vs H1 => ∃ (i j c : Int) (n : Nat), vs = [.int i, .int j, .int c] ∧ RgC i j c n ∧ n ≤ 2 ^ 24 ∧ ∀ q, H1 q = none → Q (.ref q) (upd H1 q (.lst ((List.range n).map fun (m : Nat) => V.int (i + m * c))))
theorem vals_rgC {a c : Int} {n : Nat} {acc : Array Value} (h : ItemsOf (fun i v => ∃ t, v = .int (a + i * c) t) acc n) : Vals ((List.range n).map fun (m : Nat) => V.int (a + m * c)) acc.toList := by
  have e : acc.toList.length = n := by rw [Array.length_toList]; exact h.1
  rw [← e]
  refine L2.vals_of_get acc.toList _ fun j u hj => ?_
  obtain ⟨t, rfl⟩ := h.2 j u (by rw [← hj, Array.getElem?_toList])
  exact ⟨t, rfl⟩
theorem pe_listRgC {a b c : Expr} {ta : TA} {p p2 pos pos2 : Pos} (hc : X.calm = true) (hg : Gl X "list") (hm : X.mg "list" = none) (hg2 : Gl X "range") (hm2 : X.mg "range" = none) (ha : PA X [a, b, c] ta)
    (hs : starEach [a, b, c] X.env = (false, eval a X.env) :: starEach [b, c] X.env := by rfl) (hpl : (backTo pos2 (starEach [b, c] X.env)).any (·.1) = false := by rfl)
    (na : starEach [.Call (.Name "range" p2) [a, b, c] [] pos2] X.env = (false, eval (.Call (.Name "range" p2) [a, b, c] [] pos2) X.env) :: starEach [] X.env := by rfl) :
    PE X (.Call (.Name "list" p) [.Call (.Name "range" p2) [a, b, c] [] pos2] [] pos) (tLRC ta) := by
  refine ⟨fun pins s σ H Q I h => ?_⟩
  refine Call_ (ld_blt I hg hm boot_list (PyProof.Rows.callWith_type1 (args_cons ?_ na) na))
  refine Call_ (ld_blt I hg2 hm2 boot_range (PyProof.Rows.callWith_type1 (thn (ha.run pos2 pins s σ H _ I h) fun us s1 ⟨vs, H1, I1, r1, q1⟩ => ?_) hs hpl))
  obtain ⟨i, j, k, n, e, ⟨c0, c1, c2, c3⟩, hn, q⟩ := q1
  subst e
  cases r1 with
  | cons r rr =>
    cases rr with
    | cons r' rr =>
      cases rr with
      | cons r'' rr =>
        cases rr
        obtain ⟨t, rfl⟩ := r
        obtain ⟨t', rfl⟩ := r'
        obtain ⟨t'', rfl⟩ := r''
        refine call_range_3 c0 ?_ (.inl (PyProof.noPylong_small c1))
        have I2 : Inv X pins σ H1 { s1 with heap := s1.heap.push { cls := .type "range", data := .fields #[.int i t, .int j t', .int k t''] } } := I1.kept (t' := s1.toks) fun b o e => Heap.get?_push_of_some _ e
        refine args_nil ?_
        refine call_list_range (n := n) (I2.ok.hd hc) (IsRange.new ..) c2 c3 hn fun h' tk acc c' hk e' hi => ?_
        refine ⟨.ref _, upd H1 _ (.lst ((List.range n).map fun (m : Nat) => V.int (i + m * k))), I2.laid hk (Nat.le_refl _) (show ObjOk X.prog X.w _ _ _ (.lst _) from ⟨?_, acc.toList, c', vals_rgC hi, ?_⟩), rfl, q _ (I2.hok.fresh (Nat.le_refl _))⟩
        · rw [List.length_map, List.length_range, sizeLine_eq]; omega
        · rw [Array.toArray_toList]; exact e'
def xLRg3 (g : DEnv → Res (List EV)) : DEnv → Res Cell := fun ρ => bindR (g ρ) fun vs ρ1 => match vs with
  | [.val (.int i), .val (.int j), .val (.int c)] => if rg3Ok i j c = true ∧ rgN i j c ≤ 16777216 then .ok (.lst (rangeCD i c (rgN i j c))) ρ1 else .bad
  | _ => .bad
def xLRg1 (f : DX) : DEnv → Res Cell := fun ρ => bindR (f ρ) fun v ρ1 => match deref ρ1 v with
  | some (.int j) => if -(2 ^ 62) ≤ j ∧ j ≤ 16777216 then .ok (.lst (rangeD 0 j.toNat)) ρ1 else .bad
  | _ => .bad
theorem dpR {K : Frg} {G : Hp} {i c : Int} {n : Nat} : DpAll K G ((List.range n).map fun (m : Nat) => V.int (i + m * c)) (rangeCD i c n) := by
  have := DL.DpAll.of_ints (K := K) (G := G) ((List.range n).map fun (m : Nat) => i + m * c)
  rw [List.map_map, List.map_map] at this
  exact this
theorem dl_listRg3 {a b c : Expr} {g : DEnv → Res (List EV)} {p p2 pos pos2 : Pos} (hc : X.calm = true) (hm : X.mg "list" = none) (hm2 : X.mg "range" = none) (ha : DA X W [a, b, c] g) (hg : Gl X "list" := by rfl) (hg2 : Gl X "range" := by rfl)
    (hs : starEach [a, b, c] X.env = (false, eval a X.env) :: starEach [b, c] X.env := by rfl) (hpl : (backTo pos2 (starEach [b, c] X.env)).any (·.1) = false := by rfl)
    (na : starEach [.Call (.Name "range" p2) [a, b, c] [] pos2] X.env = (false, eval (.Call (.Name "range" p2) [a, b, c] [] pos2) X.env) :: starEach [] X.env := by rfl) :
    DLs X W (.Call (.Name "list" p) [.Call (.Name "range" p2) [a, b, c] [] pos2] [] pos) (xLRg3 g) := by
  refine ⟨pe_imp (pe_listRgC hc hg hm hg2 hm2 ha.pa hs hpl na) fun σ H Q ⟨O, ρ, r, s⟩ => ⟨O, ρ, r, (SatL.bind s).imp fun us H1 ⟨vs, ρ1, r1, e1, st, s1⟩ => ?_⟩⟩
  try dsimp only at s1
  split at s1
  · rename_i i j c
    split at s1
    case isFalse => exact s1.elim
    rename_i hj
    match us, e1 with
    | [u, v, w], e1 =>
      have q : Dp X.K _ u (.int i) := e1.1
      have q2 : Dp X.K _ v (.int j) := e1.2.1
      have q3 : Dp X.K _ w (.int c) := e1.2.2.1
      cases q; cases q2; cases q3
      obtain ⟨hj, hn⟩ := hj
      simp only [rg3Ok, Bool.and_eq_true, decide_eq_true_eq] at hj
      exact ⟨i, j, c, rgN i j c, rfl, ⟨hj.1.1, hj.1.2, hj.2, rgN_eq i j c hj.1.1⟩, by omega, fun q hq => s1 q _ (.same (same_upd hq)) hq (.mk' r1 hq dpR)⟩
  · exact s1.elim
theorem dpR1 {K : Frg} {G : Hp} {j : Int} : DpAll K G (L2.rgV 0 j) (rangeD 0 j.toNat) := by
  have := DL.DpAll.of_ints (K := K) (G := G) ((List.range j.toNat).map fun (m : Nat) => (0 : Int) + m)
  rw [List.map_map, List.map_map] at this
  unfold L2.rgV rangeD
  rw [show j - 0 = j by omega]
  exact this
theorem dl_listRg1 {a : Expr} {f : DX} {p p2 pos pos2 : Pos} (hc : X.calm = true) (hm : X.mg "list" = none) (hm2 : X.mg "range" = none) (ha : DE X W a f) (hg : Gl X "list" := by rfl) (hg2 : Gl X "range" := by rfl)
    (hs : starEach [a] X.env = (false, eval a X.env) :: starEach [] X.env := by rfl)
    (na : starEach [.Call (.Name "range" p2) [a] [] pos2] X.env = (false, eval (.Call (.Name "range" p2) [a] [] pos2) X.env) :: starEach [] X.env := by rfl) :
    DLs X W (.Call (.Name "list" p) [.Call (.Name "range" p2) [a] [] pos2] [] pos) (xLRg1 f) := by
  refine ⟨pe_imp (L2.pe_listRg hc hg hm (L2.prg_1 hg2 hm2 ha.pe hs) na) fun σ H Q ⟨O, ρ, r, s⟩ => ⟨O, ρ, r, (SatL.bind s).imp fun u H1 ⟨v, ρ1, r1, e1, st, s1⟩ => ?_⟩⟩
  try dsimp only at s1
  split at s1
  case h_2 => exact s1.elim
  rename_i j hd
  split at s1
  case isFalse => exact s1.elim
  rename_i hj
  cases RelE.int e1 r1 hd
  refine ⟨j, rfl, ⟨by decide, by decide, hj.1, by omega, by omega⟩, fun q hq => ?_⟩
  exact s1 q _ (.same (same_upd hq)) hq (.mk' r1 hq dpR1)
def rgR (vs : List EV) (k : Int → Int → Int → Res (List D)) : Res (List D) := match vs with
  | [.val (.int i), .val (.int j), .val (.int c)] => k i j c
  | _ => .bad
def rgC (vs : List EV) (k : Int → Int → Int → Res Cell) : Res Cell := match vs with
  | [.val (.int i), .val (.int j), .val (.int c)] => k i j c
  | _ => .bad
def rgC1 (o : Option D) (k : Int → Res Cell) : Res Cell := match o with
  | some (.int j) => k j
  | _ => .bad
@[simp] theorem rgR_ap {i j c : Int} {k : Int → Int → Int → Res (List D)} : rgR [.val (.int i), .val (.int j), .val (.int c)] k = k i j c := (Eq.refl _).trans (Eq.refl _)
@[simp] theorem rgC_ap {i j c : Int} {k : Int → Int → Int → Res Cell} : rgC [.val (.int i), .val (.int j), .val (.int c)] k = k i j c := (Eq.refl _).trans (Eq.refl _)
@[simp] theorem rgC1_ap {j : Int} {k : Int → Res Cell} : rgC1 (some (.int j)) k = k j := (Eq.refl _).trans (Eq.refl _)
@[simp] theorem iRange3_ap {g : DEnv → Res (List EV)} {ρ : DEnv} : iRange3 g ρ = bindR (g ρ) fun vs ρ1 => rgR vs fun i j c => if rg3Ok i j c = true then .ok (rangeCD i c (rgN i j c)) ρ1 else .bad := by
  unfold iRange3 rgR; rfl
@[simp] theorem xLRg3_ap {g : DEnv → Res (List EV)} {ρ : DEnv} : xLRg3 g ρ = bindR (g ρ) fun vs ρ1 => rgC vs fun i j c => if rg3Ok i j c = true ∧ rgN i j c ≤ 16777216 then .ok (.lst (rangeCD i c (rgN i j c))) ρ1 else .bad := by
  unfold xLRg3 rgC; rfl
@[simp] theorem xLRg1_ap {f : DX} {ρ : DEnv} : xLRg1 f ρ = bindR (f ρ) fun v ρ1 => rgC1 (deref ρ1 v) fun j => if -(2 ^ 62) ≤ j ∧ j ≤ 16777216 then .ok (.lst (rangeD 0 j.toNat)) ρ1 else .bad := by
  unfold xLRg1 rgC1; rfl
/-- small bounds -/
theorem small_of {i j c : Int} (hi : -1000000000 ≤ i) (hi' : i ≤ 1000000000) (hj : -1000000000 ≤ j) (hj' : j ≤ 1000000000) (hc : 0 < c) (hc' : c ≤ 1000000000) : rg3Ok i j c = true := by
  unfold rg3Ok
  have : Builtin.Range.small i j c = true := by
    unfold Builtin.Range.small
    have h1 : Builtin.Range.rangeSize i j c ≤ 4000000000 := by
      unfold Builtin.Range.rangeSize
      rw [if_pos (by omega)]
      split
      · have := Int.ediv_le_self (a := j - i - 1) c (by omega); omega
      · omega
    have h2 := rgN_eq i j c (by omega)
    have hg : c > 0 := hc
    simp only [Builtin.Range.rangeFitsLong, Bool.and_eq_true, Bool.or_eq_true, decide_eq_true_eq, beq_iff_eq, if_pos hg]
    omega
  rw [this, Bool.and_true, decide_eq_true_eq]
  omega
end
/-- a handler's constant, for some classes -/
def hdC (cs : List Str) (d : D) : Exn → Option D := fun y => if y.arg.isSome = true then none else if y.cls ∈ cs then some d else none
theorem hdC_mem {cs : List Str} {d d' : D} {y : Exn} (h : hdC cs d y = some d') : d' = d ∧ y.arg = none ∧ y.cls ∈ cs := by
  unfold hdC at h
  split at h
  · cases h
  · rename_i ha
    split at h
    · rename_i hm
      cases h
      refine ⟨rfl, ?_, hm⟩
      cases q : y.arg with
      | none => rfl
      | some n => rw [q] at ha; exact absurd rfl ha
    · cases h
@[simp] theorem hdC_ap {cs : List Str} {d : D} {x : Str} : hdC cs d ⟨x, none⟩ = if x ∈ cs then some d else none := (Eq.refl _).trans (Eq.refl _)
end DL

namespace DL
open L2 PySem PySem.Spec PyProof.Rows

/-! ### enumerate(list), enumerate(tuple) -/
theorem meets_enum1 {v : Value} {o : Obj} {H : Heap → Prop} (B : Begins v o H) :
    Meets (Builtin.«enumerate.__new__» ⟨[.type "enumerate", v], []⟩) (fun _ R s => H s.heap ∧
      R (.ok (.ret (.ref (s.heap.push o).objs.size))) { s with heap := (s.heap.push o).push { cls := .type "enumerate", data := .fields #[.none, .bool false, .ref s.heap.objs.size, rawInt 0, .none, .none] } }) :=
  .of_wp fun prog w A R s h => by
    obtain ⟨hp, g, d, tk, os⟩ := s; obtain ⟨h1, h⟩ := h
    have hsub := sub_enumerate
    have q1 : ∀ {A' : Around} {E : Value → Shared → Prop} {Q : Value → Shared → Prop}, Q (.ref hp.objs.size) ⟨hp.push o, g, d, tk, os⟩ → wpAny (model prog w) A' (pyIter v) Q E ⟨hp, g, d, tk, os⟩ :=
      fun q => B.iter prog w _ _ ⟨hp, g, d, tk, os⟩ _ h1 q
    wp_walk using q1
    refine wpAny_stack_any fun st => wpAny_pure ?_
    split
    · rename_i c _ _ _ _ _
      cases (c == Value.type "enumerate")
      · wp_walk using q1
        exact ⟨_, rfl, h⟩
      · wp_walk using q1
        exact ⟨_, rfl, h⟩
    · wp_walk using q1
      exact ⟨_, rfl, h⟩
section
variable {prog : Program} {w : World} {A : Around} {E : Value → Shared → Prop} {s : Shared}
theorem enum_begins1 {v : Value} {o : Obj} {H : Heap → Prop} {Q : Value → Shared → Prop} (B : Begins v o H) (h1 : H s.heap)
    (h : ∀ h', IsEnum h' (s.heap.objs.size + 1) s.heap.objs.size 0 .none → h'.get? s.heap.objs.size = some o → h'.objs.size = s.heap.objs.size + 2 →
      (∀ b o, s.heap.get? b = some o → h'.get? b = some o) → Q (.ref (s.heap.objs.size + 1)) { s with heap := h' }) :
    wpAny (model prog w) A (call (.type "enumerate") [v]) Q E s := by
  refine callType_new F.called_enumerate (by decide) (F.typeCall_enumerate_1 _) (F.newCall_enumerate_1 _) (fun obj => F.args_object_init_2 obj _) F.entry_enumerate_new
    (meets_enum1 B) ⟨h1, ?_⟩
  have hz : (s.heap.push o).objs.size = s.heap.objs.size + 1 := Heap.size_push ..
  show _ ∧ _
  rw [hz]
  have he : IsEnum ((s.heap.push o).push { cls := .type "enumerate", data := .fields #[.none, .bool false, .ref s.heap.objs.size, rawInt 0, .none, .none] }) (s.heap.objs.size + 1) s.heap.objs.size 0 .none := by
    have := Heap.get?_push_size (s.heap.push o) (o := { cls := .type "enumerate", data := .fields #[.none, .bool false, .ref s.heap.objs.size, rawInt 0, .none, .none] }) rfl
    rw [hz] at this; exact this
  refine ⟨⟨_, he, rfl⟩, h _ he (Heap.get?_push_of_some _ (Heap.get?_push_size _ B.free)) (by rw [Heap.size_push, hz]) fun b o x => Heap.get?_push_of_some _ (Heap.get?_push_of_some _ x)⟩
end
def IteT (K : PySem.W.Frag) (a : Addr) : It :=
  ⟨fun i H => ∃ (xs : List V) (x : V), SqT K H a xs ∧ xs[i]? = some x, fun i H v H' => ∃ T x, v = .ref T ∧ H T = none ∧ H' = upd H T (.tup [.int (i : Nat), x]) ∧ ∀ xs, SqT K H a xs → xs[i]? = some x, fun i H => ∃ xs : List V, SqT K H a xs ∧ xs.length ≤ i⟩
theorem turn_enumT {P : Program} {w : World} {K : PySem.W.Frag} {elts : List Expr} {kk : Nat} {tpos : Pos} (a e it : Addr) :
    Turn P w K (.Tuple elts kk tpos) (IteT K a) [e, it] e (fun i h => (∃ old, IsEnum h e it ((i : Nat) : Int) old) ∧ h.IsTupleIter it a i ∧ e ≠ it) where
  mem := by simp
  obj := fun i h st b hb => by
    obtain ⟨⟨old, he⟩, ⟨o, ho, hc, hd⟩, _⟩ := st
    have e' : b = e ∨ b = it := by simpa using hb
    rcases e' with z | z
    · rw [z]; exact ⟨_, he, fun v q => nomatch q⟩
    · rw [z]; exact ⟨o, ho, fun v q => by rw [hd] at q; cases q⟩
  keep := fun i h h' st k => let ⟨⟨old, he⟩, hi, hne⟩ := st; ⟨⟨old, k e (by simp) _ he⟩, hi.at fun o q => k it (by simp) o q, hne⟩
  item := by
    intro X hP hw hK hc i pins s σ H E I hf st hg
    subst hP hw hK
    obtain ⟨⟨old, he⟩, hit, hne⟩ := st
    obtain ⟨xs, x, hq, hx⟩ := hg
    obtain ⟨its, rv, p, hz⟩ := I.tuple hq
    obtain ⟨u, hu, ru⟩ := rv.get hx
    have hel : e < s.heap.objs.size := Heap.lt_size he
    have hil : it < s.heap.objs.size := by obtain ⟨_, q, _⟩ := hit; exact Heap.lt_size q
    have hea : e ≠ a := fun z => by
      obtain ⟨o, ho, hc', _⟩ := p
      rw [← z, he] at ho
      cases ho
      have q : Value.type "enumerate" = Value.type "tuple" := hc'
      injection q with q
      exact absurd q (by decide)
    have hia : a ≠ it := fun z => by
      obtain ⟨o, ho, hc', _⟩ := p
      obtain ⟨o2, ho2, hc2, _⟩ := hit
      rw [z, ho2] at ho
      cases ho
      rw [hc2] at hc'
      injection hc' with q
      exact absurd q (by decide)
    have hlt : i < its.toArray.size := by
      have := (List.getElem?_eq_some_iff.mp hu).1
      simpa using this
    refine wpAny_pyNext_enum_itemD (Draws.tuple (prog := X.prog) (w := X.w) (A := X.A.in1) (I.ok.hd hc) it a hia its.toArray) he ⟨hit, p⟩ hlt hne (by simp [hne, hea]) fun x' h' tk hP' ho hst' hT hsz hk => ?_
    obtain rfl : x' = u := by
      rw [show its.toArray[i]? = its[i]? by simp, hu] at hP'
      exact (Option.some.inj hP').symm
    refine ⟨_, rfl, wpAny_letOwnedTupleGo_enum (s := { s with heap := h', toks := tk + 1 }) ho fun h'' he' sb => ?_⟩
    have hT2 : h''.get? s.heap.objs.size = some { cls := .type "tuple", data := .seq #[.int i tk, x'] } := (sb.2 _ (Nat.ne_of_gt hel)).trans hT
    have new : ObjOk X.prog X.w (upd H s.heap.objs.size (.tup [.int (i : Nat), x])) h'' s.heap.objs.size (.tup [.int (i : Nat), x]) :=
      ⟨by show 2 ≤ sizeLine; decide, [.int i tk, x'], .cons ⟨_, rfl⟩ (.cons ru .nil), ⟨_, hT2, rfl, _, rfl⟩⟩
    have I1 : Inv X pins σ (upd H s.heap.objs.size (.tup [.int (i : Nat), x])) { s with heap := h'', toks := tk + 1 } :=
      I.turnedNew (ch := [e, it]) (fun b ob hb q => (sb.2 b (fun z => hb (by simp [z]))).trans (hk b ob (fun z => hb (by simp [z])) (fun z => hb (by simp [z])) q)) hf (Nat.le_refl _) new
    refine ⟨.ref s.heap.objs.size, _, I1, rfl, ⟨_, x, rfl, I.hok.fresh (Nat.le_refl _), rfl, fun ys hy => by rw [I.tuple_inj hy hq]; exact hx⟩, ⟨⟨x', ?_⟩, hst'.1.at fun o q => (sb.2 it (Ne.symm hne)).trans q, hne⟩, fun b hb => ?_⟩
    · have e1 : ((i + 1 : Nat) : Int) = (i : Int) + 1 := by omega
      rw [e1]; exact he'
    · have hb' : b < s.heap.objs.size := by
        have e' : b = e ∨ b = it := by simpa using hb
        rcases e' with z | z
        · rw [z]; exact hel
        · rw [z]; exact hil
      rw [upd_ne (Nat.ne_of_lt hb')]
      exact (hf b hb).1
  done := by
    intro X hP hw hK hc i pins s σ H E I hf st hg
    subst hP hw hK
    obtain ⟨⟨old, he⟩, hit, hne⟩ := st
    obtain ⟨xs, hq, hx⟩ := hg
    obtain ⟨its, rv, p, hz⟩ := I.tuple hq
    obtain ⟨f0, f1, f2, f3, f4, f5⟩ := hf it (by simp)
    have hl := rv.length
    have hT : s.TypeIs (.ref e) "enumerate" := ⟨_, he, rfl⟩
    unfold pyNext
    refine wpAny_bind (wpAny_attempt (wpAny_callSpecial?_slot (name := Str.ofString "__next__") hT F.slot_enumerate_next
      (wpAny_call_entry F.slot_enumerate_next hT F.entry_enumerate_next ?_ (F.args_enumerate_next_1 _))))
    show wpAny _ _ (field (.ref e) 2 >>= _) _ _ _
    refine wpAny_bind (wpAny_field he rfl (x := .ref it) rfl ?_)
    refine wpAny_bind (wpAny_nextOf_tuple_end (I.ok.hd hc) hit p (by simp; omega) fun h' x he' hx' => ?_)
    obtain ⟨o, ho, hc'⟩ := hx'
    refine wpAny_bind (wpAny_isInstance (T := "StopIteration") (b := true) ⟨o, ho, hc'⟩ isSubtype_stop ?_)
    exact wpAny_pure ⟨rfl, I.turned (t' := s.toks) (fun b o hb q => he' b o hb q) f0 f1 f3 f4 f5⟩
  self := fun A i s Q E st h => let ⟨⟨_, he⟩, _⟩ := st; wpAny_pyIter_enum he h
def iEnumA (K : PySem.W.Frag) (ta : TA) : TI := fun σ H R => ta σ H fun vs H1 => ∃ a xs, vs = [.ref a] ∧ ((SqL K H1 a xs ∧ R (Ite K a) H1) ∨ (SqT K H1 a xs ∧ R (IteT K a) H1))
theorem pi_enumA {X : Cx} {e : Expr} {ta : TA} {p pos tpos : Pos} {elts : List Expr} {kk : Nat} (hg : Gl X "enumerate") (hm : X.mg "enumerate" = none) (ha : PA X [e] ta) (hs : starEach [e] X.env = [(false, eval e X.env)] := by rfl) :
    PI X (.Tuple elts kk tpos) (.Call (.Name "enumerate" p) [e] [] pos) (iEnumA X.K ta) := by
  refine ⟨fun pins s σ H R I h => ?_⟩
  refine Call_ (ld_blt I hg hm boot_enumerate (PyProof.Rows.callWith_type1 (thn (ha.run pos pins s σ H _ I h) fun us s1 ⟨vs, H1, I1, r1, q1⟩ => ?_) hs rfl))
  obtain ⟨a, xs, ex, hq⟩ := q1
  subst ex
  cases r1 with
  | cons r rr =>
    cases rr
    cases r
    have fin : ∀ {h' : Heap} {J : It} {tn : Nat → Heap → Prop}, (∀ b o, s1.heap.get? b = some o → h'.get? b = some o) → IsEnum h' (s1.heap.objs.size + 1) s1.heap.objs.size 0 .none →
        Turn X.prog X.w X.K (.Tuple elts kk tpos) J [s1.heap.objs.size + 1, s1.heap.objs.size] (s1.heap.objs.size + 1) tn → tn 0 h' → R J H1 →
        wpAny (model X.prog X.w) X.A (pyIter (.ref (s1.heap.objs.size + 1))) (PIE X pins σ (.Tuple elts kk tpos) R) X.xe { s1 with heap := h' } := by
      intro h' J tn hk he T st q
      refine wpAny_pyIter_enum he ?_
      have I2 : Inv X pins σ H1 { s1 with heap := h' } := I1.kept (t' := s1.toks) hk
      refine ⟨s1.heap.objs.size + 1, [s1.heap.objs.size + 1, s1.heap.objs.size], _, _, H1, rfl, I2, T, st, fun b hb => ?_, q⟩
      have e' : b = s1.heap.objs.size + 1 ∨ b = s1.heap.objs.size := by simpa using hb
      have hle : s1.heap.objs.size ≤ b := by
        rcases e' with z | z
        · rw [z]; exact Nat.le_add_right _ _
        · rw [z]; exact Nat.le_refl _
      exact I1.fpOk hle (I1.hok.fresh hle)
    rcases hq with ⟨hq, q⟩ | ⟨hq, q⟩
    · obtain ⟨its, rv, p', hz⟩ := I1.list hq
      exact call_enumerate_list p'.isList fun h' he hit hsz hk => fin hk he (turn_enum a (s1.heap.objs.size + 1) s1.heap.objs.size) ⟨⟨.none, he⟩, hit, Nat.succ_ne_self _⟩ q
    · obtain ⟨its, rv, p', hz⟩ := I1.tuple hq
      exact enum_begins1 (begins_tuple a its.toArray) p' fun h' he hit hsz hk => fin hk he (turn_enumT a (s1.heap.objs.size + 1) s1.heap.objs.size) ⟨⟨.none, he⟩, ⟨_, hit, rfl, rfl⟩, Nat.succ_ne_self _⟩ q
section
variable {X : Cx} {W : WX} {K : Frg} {G0 : Hp}
theorem walk_enumT {a : Addr} {xs : List V} : Walk (IteT K a) xs.length (fun H => SqT K H a xs) (YPair (fun i => some (.int (i : Nat))) (fun i => xs[i]?)) := by
  refine ⟨fun i _ hi q => ⟨xs, xs[i], q, by simp [hi]⟩, fun _ q => ⟨xs, q, Nat.le_refl _⟩, fun i H v H' _ q y => ?_⟩
  obtain ⟨T, x, h1, h2, h3, h4⟩ := y
  exact ⟨T, .int (i : Nat), x, h1, h2, h3, rfl, h4 xs q⟩
def enumD : Nat → List D → List D
  | _, [] => []
  | k, d :: ds => .tuple [.int (k : Int), d] :: enumD (k + 1) ds
@[simp] theorem enumD_len : ∀ (k : Nat) (ds : List D), (enumD k ds).length = ds.length
  | _, [] => rfl
  | k, _ :: ds => by simp [enumD, enumD_len (k + 1) ds]
theorem enumD_at : ∀ {ds : List D} {k i : Nat} {d : D}, ds[i]? = some d → (enumD k ds)[i]? = some (.tuple [.int ((k + i : Nat) : Int), d])
  | [], _, _, _, h => by simp at h
  | d :: ds, k, 0, d', h => by simp at h; subst h; simp [enumD]
  | d :: ds, k, i + 1, d', h => by
    have := enumD_at (ds := ds) (k := k + 1) (i := i) (d := d') (by simpa using h)
    rw [enumD, List.getElem?_cons_succ, this, show k + 1 + i = k + (i + 1) by omega]
theorem src_enum {a : Addr} {vs : List V} {ds : List D} (s1 : SqL K G0 a vs) (h1 : DpAll K G0 vs ds) : Src K G0 (Ite K a) (enumD 0 ds) := by
  refine src_pair (walk_enum (xs := vs)) (by rw [enumD_len, DL.DpAll.length h1]) (fun H g => SqL.mono g s1) fun i x y hx hy => ?_
  obtain ⟨d, k1, k2⟩ := DL.DpAll.atV h1 hy
  cases hx
  exact ⟨.int (i : Int), d, by rw [enumD_at k1, Nat.zero_add], .int _, k2⟩
theorem src_enumT {a : Addr} {vs : List V} {ds : List D} (s1 : SqT K G0 a vs) (h1 : DpAll K G0 vs ds) : Src K G0 (IteT K a) (enumD 0 ds) := by
  refine src_pair (walk_enumT (xs := vs)) (by rw [enumD_len, DL.DpAll.length h1]) (fun H g => SqT.mono g s1) fun i x y hx hy => ?_
  obtain ⟨d, k1, k2⟩ := DL.DpAll.atV h1 hy
  cases hx
  exact ⟨.int (i : Int), d, by rw [enumD_at k1, Nat.zero_add], .int _, k2⟩
def enR (ds : List D) (k : List D → Res (List D)) : Res (List D) := match ds with
  | [.list ds] => k ds
  | [.tuple ds] => k ds
  | _ => .bad
def iEnumD (g : DEnv → Res (List EV)) : DEnv → Res (List D) := fun ρ => bindR (g ρ) fun vs ρ1 => optR (keeps vs ρ1) fun p => enR p.1 fun ds => .ok (enumD 0 ds) p.2
theorem di_enum {e : Expr} {g : DEnv → Res (List EV)} {p pos tpos : Pos} {elts : List Expr} {kk : Nat} (hm : X.mg "enumerate" = none) (ha : DA X W [e] g) (hg : Gl X "enumerate" := by rfl)
    (hs : starEach [e] X.env = [(false, eval e X.env)] := by rfl) :
    DI X W (.Tuple elts kk tpos) (.Call (.Name "enumerate" p) [e] [] pos) (iEnumD g) := by
  refine ⟨pi_imp (pi_enumA hg hm ha.pa hs) fun σ H R ⟨O, ρ, r, s⟩ => ⟨O, ρ, r, (sat_bindI s).imp fun us H1 ⟨vs, ρ1, r1, e1, st, s1⟩ => ?_⟩⟩
  obtain ⟨⟨ds, ρ2⟩, hk, s2⟩ := optR_satI s1
  obtain ⟨r2, st2, a⟩ := keeps_ok r1 e1 hk
  unfold enR at s2
  try dsimp only at s2
  split at s2
  · cases a with
    | cons a1 a3 =>
        cases a3
        cases a1 with
        | lst s1 b1 => exact ⟨_, _, rfl, .inl ⟨SqL.mono Gv_sub s1, s2 _ H1 st2 r2 (src_enum s1 b1)⟩⟩
  · cases a with
    | cons a1 a3 =>
        cases a3
        cases a1 with
        | tup s1 b1 => exact ⟨_, _, rfl, .inr ⟨SqT.mono Gv_sub s1, s2 _ H1 st2 r2 (src_enumT s1 b1)⟩⟩
  · exact s2.elim
@[simp] theorem enR_l {ds : List D} {k : List D → Res (List D)} : enR [.list ds] k = k ds := (Eq.refl _).trans (Eq.refl _)
@[simp] theorem enR_t {ds : List D} {k : List D → Res (List D)} : enR [.tuple ds] k = k ds := (Eq.refl _).trans (Eq.refl _)
@[simp] theorem iEnumD_ap {g : DEnv → Res (List EV)} {ρ : DEnv} : iEnumD g ρ = bindR (g ρ) fun vs ρ1 => optR (keeps vs ρ1) fun p => enR p.1 fun ds => .ok (enumD 0 ds) p.2 := (Eq.refl _).trans (Eq.refl _)
end
end DL

namespace DL
open L2 PySem PySem.Spec PyProof.Rows

/-! ### {k: v for target in iter} -/
theorem dc_it {J : It} {n : Nat} {G : Hp → Prop} {Y : Nat → Hp → V → Hp → Prop} (w : Walk J n G Y) {g : TG} {tt : TT} {tk tv : TE} {vs : List Nat} {σ : L2.St} {H1 : Hp} {D : Addr} {Qd : Hp → Prop} (Pv : Nat → Hp → Prop) (h0 : Pv 0 (upd H1 D (.dK []))) (hG : ∀ i H, i ≤ n → Pv i H → G H)
    (hs : ∀ i x H H', i < n → Pv i H → Y i H x H' → g x (wipe σ vs) H' fun σ2 H2 => wipe σ2 vs = wipe σ vs ∧ tt σ2 H2 fun b H3 =>
      if b = true then tk σ2 H3 fun y H4 => tv σ2 H4 fun z H5 => ∃ kvs k, y = kV k ∧ H5 D = some (.dK kvs) ∧ kvs.length < sizeLine ∧ Pv (i + 1) (upd H5 D (.dK (putK kvs k z))) else Pv (i + 1) H3) (hd : ∀ H, Pv n H → Qd H) :
    ∃ W : Nat → Nat → Hp → Prop, (∃ m, W 0 m (upd H1 D (.dK []))) ∧ ∀ i m H, W i m H →
      (J.stop i H ∧ Qd H) ∨ (J.go i H ∧ ∃ Nx : Hp → Prop, (∀ H', Nx H' → ∃ m', m' < m ∧ W (i + 1) m' H') ∧ ∀ x H', J.yld i H x H' → g x (wipe σ vs) H' fun σ2 H2 => wipe σ2 vs = wipe σ vs ∧ tt σ2 H2 fun b H3 =>
        if b = true then tk σ2 H3 fun y H4 => tv σ2 H4 fun z H5 => ∃ kvs k, y = kV k ∧ H5 D = some (.dK kvs) ∧ kvs.length < sizeLine ∧ Nx (upd H5 D (.dK (putK kvs k z))) else Nx H3) := by
  refine ⟨fun i m H => m = n - i ∧ i ≤ n ∧ Pv i H, ⟨n, by simp, Nat.zero_le _, h0⟩, ?_⟩
  rintro i m H ⟨rfl, hi, p⟩
  have q := hG i H hi p
  by_cases hlt : i < n
  · refine .inr ⟨w.goes i H hlt q, Pv (i + 1), fun H' p' => ⟨n - (i + 1), by omega, rfl, hlt, p'⟩, fun x H' y => hs i x H H' hlt p (w.yields i H x H' hlt q y)⟩
  · have e : i = n := by omega
    subst e
    exact .inl ⟨w.stops H q, hd H p⟩
def keepD (r : Res EV) (k : D × DEnv → Res Cell) : Res Cell := match r with
  | .ok w ρ4 => optR (keep w ρ4) k
  | _ => .bad
def keyR (r : Res EV) (k : Key → DEnv → Res Cell) : Res Cell := match r with
  | .ok v ρ3 => optR (deref ρ3 v) fun d => optR (keyD d) fun y => k y ρ3
  | _ => .bad
def compK (ow : List Nat) (bind : D → DEnv → Option DEnv) (fk fv : DX) : List D → DEnv → List (Key × D) → Res Cell
  | [], ρ, acc => .ok (.dK acc) ρ
  | d :: ds, ρ, acc => optR (bind d (wipeD ρ ow)) fun ρ2 => keyR (fk ρ2) fun k ρ3 => keepD (fv ρ3) fun p =>
      if acc.length < sizeLine ∧ (ow.all fun i => !isOwn p.2[i]?) = true then compK ow bind fk fv ds (backD ρ p.2 ow) (putKD acc k p.1) else .bad
def xCompK (it : DEnv → Res (List D)) (ow : List Nat) (bind : D → DEnv → Option DEnv) (fk fv : DX) : DEnv → Res Cell := fun ρ => bindR (it ρ) fun ds ρ1 => if (ow.all fun i => !isOwn ρ1[i]?) = true then compK ow bind fk fv ds ρ1 [] else .bad
section
variable {X : Cx} {W : WX}
theorem compK_core {it : DEnv → Res (List D)} {own : List (Str × Nat)} {sl : List Nat} {bind : D → DEnv → Option DEnv} {fk fv : DX} (hsl : ∀ k ∈ sl, k ∈ own.map (·.2)) {σ : L2.St} {H : Hp} {Q : VK}
    (h : tDL X.K X.mg W (xCompK it (own.map (·.2)) bind fk fv) σ H Q) : tDc (tDI X.K X.mg W it) (tDG X.K sl bind) (tDT X.K X.mg W0 tTrue) (tDX X.K X.mg W0 fk) (tDX X.K X.mg W0 fv) (own.map (·.2)) σ H Q := by
  obtain ⟨O, ρ, r, s⟩ := h
  generalize how : own.map (·.2) = ow at *
  refine ⟨O, ρ, r, ?_⟩
  unfold xCompK at s
  cases q : it ρ with
  | err x ρ1 => rw [q] at s; exact s
  | bad => rw [q] at s; exact s
  | ok ds ρ1 =>
    rw [q] at s
    dsimp only [bindR] at s
    split at s
    case isFalse => exact s.elim
    rename_i hno
    have no1 := noOwn_of hno
    intro J H1 st1 r1 src D hD
    have hp : H D = none := st1.none D hD
    refine dc_it src (fun i Hi => ∃ ρi acc vs, RelEnv X.K (fun a => O a ∨ a = D) σ Hi ρi ∧ NoOwn ρi ow ∧ EStp σ ρ1 H1 ρi Hi ∧ Hi D = some (.dK vs) ∧ vs.map (·.1) = acc.map (·.1) ∧ DpAll X.K (Gv (fun a => O a ∨ a = D) σ ρi Hi) (vs.map (·.2)) (acc.map (·.2)) ∧
      SatL X.K X.mg O σ ρ H W Q (compK ow bind fk fv (ds.drop i) ρi acc)) ?_ ?_ ?_ ?_
    · exact ⟨ρ1, [], [], r1.hidden hD, no1, .same (same_upd hD), upd_same, rfl, .nil, by simpa using s⟩
    · rintro i Hi _ ⟨ρi, acc, vs, ri, noi, sti, hDi, hks, hacc, si⟩ a o hg
      exact Gv_sub _ _ (sti.gv a o hg)
    · rintro i x Hi H2 hi ⟨ρi, acc, vs, ri, noi, sti, hDi, hks, hacc, si⟩ ⟨d, hd, sm, hv⟩
      have e : ds.drop i = d :: ds.drop (i + 1) := by
        obtain ⟨h1, h2⟩ := List.getElem?_eq_some_iff.mp hd
        rw [List.drop_eq_getElem_cons h1, h2]
      rw [e] at si
      have r2 := ri.same sm
      have sti2 : EStp σ ρ1 H1 ρi H2 := sti.trans (.same sm)
      obtain ⟨rw', stw⟩ := r2.wiped noi
      have hx : Dp X.K (Gv (fun a => O a ∨ a = D) (wipe σ ow) (wipeD ρi ow) H2) x d := by
        have g1 : ∀ a o, Gv O σ ρ1 H1 a = some o → Gv (fun a => O a ∨ a = D) σ ρi Hi a = some o := fun a o hg => by
          obtain ⟨z1, z2, z3⟩ := of_Gv (sti.gv a o hg)
          refine Gv_of (fun z => z.elim z1 fun z => ?_) z2 z3
          rw [z] at hg
          have := Gv_sub _ _ hg
          rw [hD] at this; cases this
        exact dp_mono stw.gv _ _ (hv _ σ ρi ri g1)
      obtain ⟨ρ3, hb, s2⟩ := optR_satL si
      refine ⟨_, wipeD ρi ow, d, ρ3, rw', hx, hb, fun σ2 st2 r3 l2 k2 => ⟨?_, ?_⟩⟩
      · refine List.ext_getElem? fun k => ?_
        by_cases hk : k ∈ ow
        · have wn : ∀ τ : L2.St, τ.length = σ.length → (wipe τ ow)[k]? = if k < σ.length then some none else none := fun τ hτ => by
            by_cases hkl : k < σ.length
            · rw [if_pos hkl]
              have hkl' : k < (wipe τ ow).length := by rw [wipe_length, hτ]; exact hkl
              cases z : (wipe τ ow)[k]? with
              | none => rw [List.getElem?_eq_none_iff] at z; omega
              | some o =>
                cases o with
                | none => rfl
                | some v => exact absurd hk (wipe_some z).2
            · rw [if_neg hkl, List.getElem?_eq_none (by rw [wipe_length, hτ]; omega)]
          rw [wn σ2 (by rw [l2, wipe_length]), wn σ rfl]
        · rw [wipeS_out hk, wipeS_out hk, k2 k (fun z => hk (hsl k z)), wipeS_out hk]
      refine ⟨_, ρ3, r3, ?_⟩
      have l2' : σ2.length = σ.length := by rw [l2, wipe_length]
      have k2' : ∀ k, k ∉ ow → σ2[k]? = σ[k]? := fun k hk => by rw [k2 k (fun z => hk (hsl k z)), wipeS_out hk]
      have nf2 : ∀ b, Ow σ2 ρ3 b → Ow σ ρi b ∨ H2 b = none := fun b hb => (st2.own b hb).elim (fun z => .inl ((ow_wipe noi b).mp z)) .inr
      rintro kb H3 st3 r4 rfl
      have D3 : ∀ {ρ' : DEnv} {H' : Hp}, EStp σ2 ρ3 H2 ρ' H' → H' D = some (.dK vs) := fun {ρ' H'} st => st.ext D _ (sm D _ hDi) fun z => r3.owO z (.inr rfl)
      have nfz : ∀ {ρ' : DEnv} {H' : Hp}, EStp σ2 ρ3 H2 ρ' H' → ∀ b, Ow σ2 ρ' b → Ow σ ρi b := fun {ρ' H'} st b hb => by
        have z := st.own b hb
        rcases nf2 b z with z' | z'
        · exact z'
        · obtain ⟨o, ho⟩ := r3.owSome z
          rw [z'] at ho; cases ho
      refine iteT ⟨_, ρ3, r4, ?_⟩
      unfold keyR at s2
      cases qe : fk ρ3 with
      | err x ρ5 => rw [qe] at s2; exact s2.elim
      | bad => rw [qe] at s2; exact s2.elim
      | ok v ρ5 =>
        rw [qe] at s2
        intro y H4 st4 r5 ey
        obtain ⟨kd, hkd, s3⟩ := optR_satL s2
        obtain ⟨kk, hkk, s4⟩ := optR_satL s3
        have hyk : y = kV kk := keyD_kV hkk (ey.dp r5 hkd)
        refine ⟨_, ρ5, r5, ?_⟩
        unfold keepD at s4
        dsimp only at s4
        cases qv : fv ρ5 with
        | err x ρ6 => rw [qv] at s4; exact s4.elim
        | bad => rw [qv] at s4; exact s4.elim
        | ok w ρ7 =>
          rw [qv] at s4
          intro z H5 st5 r7 ez
          obtain ⟨⟨zd, ρ6⟩, hkz, s5⟩ := optR_satL s4
          obtain ⟨r6, st6, hz⟩ := keep_ok r7 ez hkz
          try dsimp only at s5
          split at s5
          case isFalse => exact s5.elim
          rename_i hc
          have stA : EStp σ2 ρ3 H2 ρ6 H5 := ((st3.trans st4).trans st5).trans st6
          obtain ⟨rb, eb, gb⟩ := r2.back noi (st2.trans stA.s) r6 l2' k2' (nfz stA) (noOwn_of hc.2)
          have hD5 := D3 stA
          have hlen : vs.length = acc.length := by simpa using congrArg List.length hks
          have hput := putK_rel kk (y := z) (z := zd) (dp_mono gb _ _ hz) hks (dpAll_mono eb.gv _ _ (dpAll_mono (same_gv sm) _ _ hacc))
          have hid : ∀ a o, Gv (fun a => O a ∨ a = D) σ (backD ρi ρ6 ow) H5 a = some o → Gv (fun a => O a ∨ a = D) σ (backD ρi ρ6 ow) (upd H5 D (.dK (putK vs kk z))) a = some o := fun a o hg => by
            obtain ⟨z1, z2, z3⟩ := of_Gv hg
            exact Gv_of z1 z2 (by rw [upd_ne (fun zz => z1 (.inr zz))]; exact z3)
          refine ⟨vs, kk, hyk, hD5, by omega, backD ρi ρ6 ow, putKD acc kk zd, putK vs kk z, ?_, fun j hj b c zz => ?_, ?_, upd_same, hput.1, dpAll_mono hid _ _ hput.2, s5⟩
          · refine ⟨rb.len, fun a ha => ?_, fun j d' hj => ?_, fun j b c hj => ?_, rb.inj, rb.raw⟩
            · by_cases ea : a = D
              · rw [ea, upd_same]; exact fun z => nomatch z
              · rw [upd_ne ea]; exact rb.oa a ha
            · obtain ⟨w, w1, w2⟩ := rb.val j d' hj
              exact ⟨w, w1, dp_mono hid _ _ w2⟩
            · obtain ⟨a, w1, w2, w3⟩ := rb.own j b c hj
              exact ⟨a, w1, w2, w3.mono hid fun o ho => by rw [upd_ne (fun zz => w2 (.inr zz))]; exact ho⟩
          · rw [back_in (by rw [← r2.len, ← l2', r6.len]) hj] at zz
            exact noi j hj b c zz
          · have S := sti2.trans eb
            refine ⟨fun b o hb hn => by rw [upd_ne (ne_of_none hb hD)]; exact S.ext b o hb hn, fun b hb => ?_, S.own, S.io⟩
            by_cases ea : b = D
            · rw [ea, upd_same]; exact fun z => nomatch z
            · rw [upd_ne ea]; exact S.al b hb
    · rintro Hn ⟨ρn, acc, vs, rn, non, stn, hDn, hks, hacc, sn⟩
      rw [List.drop_length] at sn
      refine sn D Hn (st1.trans stn) hp ⟨rn, fun z => ?_, fun z => rn.owO z (.inr rfl), vs, hDn, hks, hacc⟩
      exact r1.oa D z hD
theorem dl_compK {kx vx tg iter : Expr} {scope : Scope} {own : List (Str × Nat)} {pos : Pos} {it : DEnv → Res (List D)} {sl : List Nat} {bind : D → DEnv → Option DEnv} {fk fv : DX} (hc : X.calm = true) (hN : X.N.Nodup) (hi : DI X W tg iter it) (ok : BlkOk X.N X.env.scope scope own)
    (hg : ∀ (s : Shared) (H : Hp) (C : Addr) (cl : List (Str × Addr)) (fp : List Addr), DG (X.blk s H scope (compEnvC scope cl C X.env) fp) tg sl bind)
    (hk : ∀ (s : Shared) (H : Hp) (C : Addr) (cl : List (Str × Addr)) (fp : List Addr), DE (X.blk s H scope (compEnvC scope cl C X.env) fp) W0 kx fk)
    (hv : ∀ (s : Shared) (H : Hp) (C : Addr) (cl : List (Str × Addr)) (fp : List Addr), DE (X.blk s H scope (compEnvC scope cl C X.env) fp) W0 vx fv) (hsl : ∀ k ∈ sl, k ∈ own.map (·.2) := by decide) (hs : ∀ x, foldedSetIterable iter X.env x = pure x := by intro _; rfl) :
    DLs X W (.DictComp kx vx [⟨tg, iter, [], 0⟩] scope pos) (xCompK it (own.map (·.2)) bind fk fv) :=
  ⟨pe_imp (pe_dc hc hN hi.pi ok (fun s H C cl fp => (hg s H C cl fp).pg) (fun s H C cl fp => (dts_nil).pts) (fun s H C cl fp => (hk s H C cl fp).pe) (fun s H C cl fp => (hv s H C cl fp).pe) hs) fun _ _ _ h => compK_core hsl h⟩
/-- len of a new dict -/
def lenK (c : Cell) (k : Int → Res EV) : Res EV := match c with
  | .dK kvs => k kvs.length
  | _ => .bad
def xLenK (f : DEnv → Res Cell) : DX := fun ρ => bindR (f ρ) fun c ρ1 => lenK c fun n => .ok (.val (.int n)) ρ1
theorem de_lenK {e : Expr} {f : DEnv → Res Cell} {p pos : Pos} (hm : X.mg "len" = none) (he : DLs X W e f) (hg : Gl X "len" := by rfl)
    (hs : starEach [e] X.env = (false, eval e X.env) :: starEach [] X.env := by rfl) : DE X W (.Call (.Name "len" p) [e] [] pos) (xLenK f) := by
  refine ⟨pe_imp (pe_callB call_lenD hg hm (by decide +kernel) (pa_cons he.pe pa_nil hs) (by decide) (by decide) hs rfl) fun σ H Q ⟨O, ρ, r, s⟩ => ⟨O, ρ, r, ?_⟩⟩
  unfold xLenK at s
  cases q : f ρ with
  | bad => rw [q] at s; exact s
  | err x ρ1 => rw [q] at s; exact s
  | ok c ρ1 =>
    rw [q, bindR_ok] at s
    intro p H' st hp n
    cases c with
    | dK kvs =>
      obtain ⟨n1, n2, n3, vvs, n4, n5, n6⟩ := n
      refine ⟨p, vvs, rfl, n4, ?_⟩
      have hl : vvs.length = kvs.length := by simpa using congrArg List.length n5
      rw [hl]
      exact s _ H' st n1.unhide (L2.Dp.int _)
    | lst _ => exact s.elim
    | dT _ => exact s.elim
end
end DL

namespace DL
open L2 PySem PySem.Spec PyProof.Rows

/-! ### x[e] = v, x a name with its own list; also within a tuple of targets -/
def tDGw (K : Frg) (bind : D → DEnv → Option DEnv) : TG := fun x σ H Q => ∃ O ρ d ρ1, RelEnv K O σ H ρ ∧ Dp K (Gv O σ ρ H) x d ∧ bind d ρ = some ρ1 ∧
  ∀ σ1 H1, SStp σ ρ H σ1 ρ1 H1 → RelEnv K O σ1 H1 ρ1 → Q σ1 H1
structure DGw (X : Cx) (tg : Expr) (bind : D → DEnv → Option DEnv) : Prop where
  pg : PG X tg (tDGw X.K bind)
def tDGws (K : Frg) (bind : List D → DEnv → Option DEnv) : TGs := fun xs σ H Q => ∃ O ρ ds ρ1, RelEnv K O σ H ρ ∧ DpAll K (Gv O σ ρ H) xs ds ∧ bind ds ρ = some ρ1 ∧
  ∀ σ1 H1, SStp σ ρ H σ1 ρ1 H1 → RelEnv K O σ1 H1 ρ1 → Q σ1 H1
structure DGws (X : Cx) (tg : List Expr) (bind : List D → DEnv → Option DEnv) : Prop where
  pgs : PGs X tg (tDGws X.K bind)
def bixO (o : Option (Option SV)) (k : Option DEnv) : Option DEnv := match o with
  | some (some (.own _ (.lst _))) => k
  | _ => none
def bixR (r : Res EV) (k : EV → DEnv → Option DEnv) : Option DEnv := match r with
  | .ok v ρ1 => k v ρ1
  | _ => none
def bixI (z : Option D) (o : Option (Option SV)) (k : Int → Bool → List D → Option DEnv) : Option DEnv := match z, o with
  | some (.int n), some (some (.own b (.lst ds))) => k n b ds
  | _, _ => none
def bixN (o : Option Nat) (k : Nat → Option DEnv) : Option DEnv := match o with
  | some j => k j
  | none => none
def bIx (i : Nat) (fe : DX) : D → DEnv → Option DEnv := fun d ρ => bixO ρ[i]? (bixR (fe ρ) fun v ρ1 => bixI (deref ρ1 v) ρ1[i]? fun n b ds => bixN (ixN ds.length n) fun j => some (ρ1.set i (some (.own b (.lst (ds.set j d))))))
theorem DpAll.setAt {K : Frg} {G : Hp} {d : D} {v : V} (h : Dp K G v d) : ∀ {vs : List V} {ds : List D} (j : Nat), DpAll K G vs ds → DpAll K G (vs.set j v) (ds.set j d)
  | [], _, j, a => by cases a; exact .nil
  | _ :: _, _, 0, a => by cases a with | cons a1 a2 => exact .cons h a2
  | _ :: _, _, j + 1, a => by cases a with | cons a1 a2 => exact .cons a1 (DpAll.setAt h j a2)
section
variable {X : Cx} {W : WX} {i : Nat} {o e v : Expr} {pos pos' : Pos} {fe : DX}
theorem dgw_ix (ho : PE X o (tVar i)) (he : DE X W0 e fe)
    (ha : ∀ v, assign (.Subscript o e pos) X.env v = (do
      let ov ← holding [v] (eval o X.env)
      let iv ← holding [v, ov] (eval e X.env)
      standAt pos
      holding [v, ov, iv] (setItem ov iv v)
      release [v, ov, iv] []) := by intro _; rfl) : DGw X (.Subscript o e pos) (bIx i fe) := by
  refine ⟨pg_imp (pg_sub ho he.pe set_list ha) fun x σ H Q ⟨O, ρ, d, ρ1, r, hd, hb, q⟩ => ?_⟩
  unfold bIx bixO at hb
  split at hb
  case h_2 => cases hb
  rename_i b0 ds0 e0
  obtain ⟨a, h1, _, _⟩ := r.own i _ _ e0
  refine ⟨_, h1, O, ρ, r, ?_⟩
  unfold bixR at hb
  split at hb
  case h_2 => cases hb
  rename_i v ρ2 ev
  rw [ev]
  intro u H2 st2 r2 e2
  unfold bixI at hb
  try dsimp only at hb
  split at hb
  case h_2 => cases hb
  rename_i n b ds e3 e4
  unfold bixN at hb
  try dsimp only at hb
  split at hb
  case h_2 => cases hb
  rename_i j ej
  cases hb
  obtain ⟨a2, k1, k2, vs, k3, k4⟩ := r2.own i _ _ e4
  rw [h1] at k1
  cases k1
  cases RelE.int e2 r2 e3
  have hl := DL.DpAll.length k4
  have hdu : Dp X.K (Gv O σ ρ2 H2) x d := dp_mono st2.gv _ _ hd
  obtain ⟨r6, st6⟩ := put_own (c' := .lst (ds.set j d)) (o := .lst (vs.set j x)) r2 e4 h1 ⟨_, upd_same, DpAll.setAt hdu j k4⟩
  exact ⟨a, vs, n, j, rfl, rfl, k3, by rw [hl]; exact ej, q σ _ (st2.s.trans st6.s) r6⟩
theorem dgws_nil : DGws X [] bNil := by
  refine ⟨pgs_imp pgs_nil fun v σ H Q ⟨O, ρ, ds, ρ1, r, hd, hb, q⟩ => ?_⟩
  unfold bNil at hb
  split at hb
  · cases hb; cases hd; exact ⟨rfl, q σ H .refl r⟩
  · cases hb
theorem dgws_cons {e : Expr} {es : List Expr} {b : D → DEnv → Option DEnv} {r : List D → DEnv → Option DEnv} (h1 : DGw X e b) (h2 : DGws X es r)
    (hs : (assignEach (e :: es) X.env).map (·.2) = assign e X.env :: (assignEach es X.env).map (·.2) := by rfl) : DGws X (e :: es) (bCons b r) := by
  refine ⟨pgs_imp (pgs_cons h1.pg h2.pgs hs) fun v σ H Q ⟨O, ρ, ds, ρ1, rr, hd, hb, q⟩ => ?_⟩
  unfold bCons at hb
  split at hb
  · rename_i d ds'
    split at hb
    · rename_i ρ2 hb2
      cases hd with
      | cons hd1 hd2 =>
        refine ⟨_, _, rfl, O, ρ, d, ρ2, rr, hd1, hb2, fun σ1 H1 st1 r1 => ?_⟩
        exact ⟨O, ρ2, ds', ρ1, r1, dpAll_mono st1.gv _ _ hd2, hb, fun σ2 H2 st2 r2 => q σ2 H2 (st1.trans st2) r2⟩
    · cases hb
  · cases hb
theorem dgw_tup {es : List Expr} {k n : Nat} {pos : Pos} {r : List D → DEnv → Option DEnv} (hc : X.calm = true) (h : DGws X es r) (hn : (assignEach es X.env).length = n := by rfl) (hst : (assignEach es X.env).findIdx? (·.1) = none := by rfl)
    (hlen : ∀ ds ρ ρ1, r ds ρ = some ρ1 → ds.length = n) : DGw X (.Tuple es k pos) (bTup r) := by
  refine ⟨pg_imp (pg_tup hc h.pgs hn hst) fun v σ H Q ⟨O, ρ, d, ρ1, rr, hd, hb, q⟩ => ?_⟩
  unfold bTup at hb
  split at hb
  · rename_i ds
    cases hd with
    | tup s a => exact ⟨_, _, rfl, SqT.mono Gv_sub s, by rw [DL.DpAll.length a]; exact hlen _ _ _ hb, O, ρ, ds, ρ1, rr, a, hb, q⟩
  · cases hb
theorem ds_asgW {tg e : Expr} {f : DX} {bind : D → DEnv → Option DEnv} {pos : Pos} (he : DE X W e f) (hg : DGw X tg bind) (hs : swapsWithSole [tg] e pos.line X.env = pure false := by rfl) (hw : swappedStores [tg] e X.env = pure none := by rfl)
    (h1 : (assignEach [tg] X.env).map (·.2) = [assign tg X.env] := by rfl) : DS X W (.Assign [tg] e pos) (gAsg f bind) := by
  refine ⟨ps_imp (ps_asg he.pe hg.pg hs hw h1) fun E σ H ⟨O, ρ, r, s⟩ => ⟨O, ρ, r, (SatS.bind s).imp fun u H1 ⟨v, ρ1, r1, e1, st1, s1⟩ => ?_⟩⟩
  obtain ⟨⟨d, ρ2⟩, hk, s2⟩ := optF_sat s1
  obtain ⟨r2, st2, a⟩ := keep_ok r1 e1 hk
  obtain ⟨ρ3, h3, s3⟩ := optF_sat s2
  exact ⟨O, ρ2, d, ρ3, r2, a, h3, fun σ1 H1 st r3 => s3 σ1 H1 (st2.s.trans st) r3⟩
@[simp] theorem bixO_own {b : Bool} {ds : List D} {k : Option DEnv} : bixO (some (some (.own b (.lst ds)))) k = k := (Eq.refl _).trans (Eq.refl _)
@[simp] theorem bixR_ok {v : EV} {ρ : DEnv} {k : EV → DEnv → Option DEnv} : bixR (.ok v ρ) k = k v ρ := (Eq.refl _).trans (Eq.refl _)
@[simp] theorem bixI_ok {n : Int} {b : Bool} {ds : List D} {k : Int → Bool → List D → Option DEnv} : bixI (some (.int n)) (some (some (.own b (.lst ds)))) k = k n b ds := (Eq.refl _).trans (Eq.refl _)
@[simp] theorem bixN_some {j : Nat} {k : Nat → Option DEnv} : bixN (some j) k = k j := (Eq.refl _).trans (Eq.refl _)
@[simp] theorem bIx_ap {d : D} {ρ : DEnv} : bIx i fe d ρ = bixO ρ[i]? (bixR (fe ρ) fun v ρ1 => bixI (deref ρ1 v) ρ1[i]? fun n b ds => bixN (ixN ds.length n) fun j => some (ρ1.set i (some (.own b (.lst (ds.set j d)))))) := (Eq.refl _).trans (Eq.refl _)

/-! ### whole numbers in a tuple; a constant that is a tuple of whole numbers -/
theorem dp_intsV {K : Frg} {G : Hp} : ∀ {ns : List Int} {vs : List V}, DpAll K G vs (ns.map PyData.int) → vs = ns.map V.int
  | [], _, a => by cases a; rfl
  | n :: ns, _, a => by
    cases a with
    | cons a1 a2 => cases a1; rw [dp_intsV a2]; rfl
def kIn2 : D → D → Option Bool
  | d, .list ds => kIn d (.list ds)
  | .int n, .tuple ds => (intsOf ds).map fun ns => decide (n ∈ ns)
  | _, _ => none
theorem inV_ints (n : Int) : ∀ ns : List Int, inV (.int n) (ns.map V.int) = decide (n ∈ ns)
  | [] => rfl
  | m :: ns => by
    have := inV_ints n ns
    unfold inV at this ⊢
    rw [List.map_cons, List.any_cons, this]
    by_cases h : m = n
    · simp [eqV, h]
    · have : n ≠ m := fun z => h z.symm
      simp [eqV, h, this]
theorem o_in2 (hu : X.A.units + 200 < cLine) : OpR X (compareOp .In) (rD2 X.K (kB kIn2)) := by
  intro pins s σ H x y v u Q I rx ry ⟨O, σ', ρ, a, b, d, e, z, r, ea, eb, hd, he, hz, q⟩
  obtain ⟨c, hk, rfl⟩ := kB_some hz
  unfold kIn2 at hk
  split at hk
  · rename_i ds
    exact o_in hu pins s σ H x y v u Q I rx ry ⟨O, σ', ρ, a, b, d, _, _, r, ea, eb, hd, he, by unfold kB; rw [hk]; rfl, q⟩
  · rename_i n ds
    cases hi : intsOf ds with
    | none => rw [hi] at hk; cases hk
    | some ns =>
      rw [hi] at hk
      cases hk
      obtain rfl := intsOf_eq hi
      obtain ⟨p, vs, rfl, s1, a1⟩ := RelE.tup eb r he
      cases RelE.int ea r hd
      obtain rfl := dp_intsV a1
      refine op_in_seq pins s σ H _ _ v u Q I rx ry ⟨p, _, rfl, .inr (SqT.mono Gv_sub s1), rfl, by simp [flatV], ?_⟩
      have := q (.bl (decide (n ∈ ns))) H (Same.refl _) (.bl _)
      simpa [inV_ints] using this
  · cases hk
def CstT (K : Frg) (mg : Mg) (x : Str) (ns : List Int) : Prop := ∃ (a : Addr) (o : Obj) (its : Array Value) (n : Nat), mg x = some (.ref a) ∧ K.lookup a = some o ∧ o.cls = .type "tuple" ∧ o.data = .seq its n ∧ its.size ≤ sizeLine ∧ Vals (ns.map V.int) its.toList
theorem de_ctup {x : Str} {ns : List Int} {ds : List D} {pos : Pos} (c : CstT X.K X.mg x ns) (hds : ns.map PyData.int = ds := by rfl) (hg : Gl X x := by rfl) (hd : (x == ("__debug__" : Str)) = false := by decide) : DE X W (.Name x pos) (xC (.tuple ds)) := by
  subst hds
  obtain ⟨a, o, its, n, h1, h2, h3, h4, h5, h6⟩ := c
  exact de_glob (v := V.ref a) h1 rfl (fun G => L2.Dp.tup (.inr ⟨o, its, n, h2, h3, h4, h5, h6⟩) (DL.DpAll.of_ints ns)) hg hd
end
end DL

namespace DL
open L2 PySem PySem.Spec PyProof.Rows StX

/-! ### *xs in a display -/
def seqOf : Option D → Option (List D)
  | some (.list ds) => some ds
  | some (.tuple ds) => some ds
  | _ => none
def aStar (f : DX) (g : DEnv → Res (List EV)) : DEnv → Res (List EV) := fun ρ => bindR (f ρ) fun v ρ1 => optR (seqOf (deref ρ1 v)) fun ds => bindR (g ρ1) fun vs ρ2 => .ok (ds.map EV.val ++ vs) ρ2
theorem relEs_vals {K : Frg} {O : Addr → Prop} {σ : L2.St} {ρ : DEnv} {H : Hp} : ∀ {us : List V} {ds : List D}, DpAll K (Gv O σ ρ H) us ds → RelEs K O σ ρ H us (ds.map EV.val)
  | [], _, a => by cases a; exact trivial
  | u :: us, _, a => by
    cases a with
    | cons a1 a2 => exact ⟨a1, relEs_vals a2⟩
theorem relEs_append {K : Frg} {O : Addr → Prop} {σ : L2.St} {ρ : DEnv} {H : Hp} : ∀ {us : List V} {vs : List EV} {us' : List V} {vs' : List EV}, RelEs K O σ ρ H us vs → RelEs K O σ ρ H us' vs' → RelEs K O σ ρ H (us ++ us') (vs ++ vs')
  | [], [], _, _, _, h => h
  | u :: us, v :: vs, _, _, h, k => ⟨h.1, relEs_append h.2 k⟩
  | [], _ :: _, _, _, h, _ => h.elim
  | _ :: _, [], _, _, h, _ => h.elim
section
variable {X : Cx} {W : WX}
theorem da_star {e : Expr} {p : Pos} {es : List Expr} {fa : DX} {g : DEnv → Res (List EV)} (ha : DE X W e fa) (hr : DA X W es g) : DA X W (.Starred e p :: es) (aStar fa g) := by
  refine ⟨pa_imp (pa_star ha.pe hr.pa) fun σ H Q ⟨O, ρ, r, s⟩ => ⟨O, ρ, r, (Sat.bind s).imp fun u H1 ⟨v, ρ1, r1, e1, s1⟩ => ?_⟩⟩
  obtain ⟨ds, hd, s2⟩ := optR_sat s1
  have key : ∃ a vs, u = .ref a ∧ (SqT X.K H1 a vs ∨ SqL X.K H1 a vs) ∧ DpAll X.K (Gv O σ ρ1 H1) vs ds := by
    unfold seqOf at hd
    split at hd
    · rename_i ds' e2
      cases hd
      obtain ⟨a, vs, h1, h2, h3⟩ := RelE.lst e1 r1 e2
      exact ⟨a, vs, h1, .inr h2, h3⟩
    · rename_i ds' e2
      cases hd
      obtain ⟨a, vs, h1, h2, h3⟩ := RelE.tup e1 r1 e2
      exact ⟨a, vs, h1, .inl (SqT.mono Gv_sub h2), h3⟩
    · cases hd
  obtain ⟨a, xs, rfl, sq, da⟩ := key
  refine ⟨a, xs, rfl, sq, O, ρ1, r1, ?_⟩
  cases q : g ρ1 with
  | ok vs ρ2 =>
    rw [q] at s2
    intro us H2 st r2 e2
    exact s2 (xs ++ us) H2 st r2 (relEs_append (relEs_vals (dpAll_mono st.gv _ _ da)) e2)
  | err x ρ2 => rw [q] at s2; exact s2
  | bad => rw [q] at s2; exact s2
end
@[simp] theorem seqOf_l {ds : List D} : seqOf (some (.list ds)) = some ds := (Eq.refl _).trans (Eq.refl _)
@[simp] theorem seqOf_t {ds : List D} : seqOf (some (.tuple ds)) = some ds := (Eq.refl _).trans (Eq.refl _)
@[simp] theorem aStar_ap {f : DX} {g : DEnv → Res (List EV)} {ρ : DEnv} : aStar f g ρ = bindR (f ρ) fun v ρ1 => optR (seqOf (deref ρ1 v)) fun ds => bindR (g ρ1) fun vs ρ2 => .ok (ds.map EV.val ++ vs) ρ2 := (Eq.refl _).trans (Eq.refl _)
@[simp] theorem keeps_vals {vs : List EV} {ρ : DEnv} : ∀ {ds : List D}, keeps (ds.map EV.val ++ vs) ρ = (keeps vs ρ).map fun p => (ds ++ p.1, p.2)
  | [] => by cases h : keeps vs ρ <;> simp [h]
  | d :: ds => by
    have ih := keeps_vals (vs := vs) (ρ := ρ) (ds := ds)
    rw [List.map_cons, List.cons_append, keeps]
    show (match keeps (ds.map EV.val ++ vs) ρ with
      | some (ds, ρ2) => some (d :: ds, ρ2)
      | none => none) = _
    rw [ih]
    cases h : keeps vs ρ <;> rfl
end DL

namespace DL
open L2 PySem PySem.Spec PyProof.Rows

/-! ### comprehensions whose turns keep the names, stepped by simp -/
section
variable {α : Type} {ow : List Nat} {bind : D → DEnv → Option DEnv} {test : DEnv → Res Bool} {elt : DX} {it : DEnv → Res (List D)} {ρ : DEnv}
def compE (ow : List Nat) (bind : D → DEnv → Option DEnv) (test : DEnv → Res Bool) (elt : DX) (ds : List D) (ρ : DEnv) : Res Cell := compD ow bind test elt ds ρ []
def compO (ow : List Nat) (bind : D → DEnv → Option DEnv) (test : DEnv → Res Bool) (elt : DX) (ds : List D) (ρ : DEnv) : Res Cell := compD ow bind test elt ds ρ []
open Classical in
noncomputable def compX {α : Type} (o : Res Cell) (ρ : DEnv) (h : α → Option (Option D × DEnv)) (xs : List α) : Res Cell :=
  if (∀ x ∈ xs, ∃ z, h x = some (z, ρ)) ∧ xs.length ≤ sizeLine then .ok (.lst (xs.filterMap fun x => (h x).bind (·.1))) ρ else o
@[simp] theorem xComp_ap : xComp it ow bind test elt ρ = bindR (it ρ) fun ds ρ1 => if (ow.all fun i => !isOwn ρ1[i]?) = true then compE ow bind test elt ds ρ1 else .bad := (Eq.refl _).trans (Eq.refl _)
@[simp] theorem compE_map {e : α → D} {xs : List α} : compE ow bind test elt (xs.map e) ρ = compX (compO ow bind test elt (xs.map e) ρ) ρ (fun x => cstep ow bind test elt (e x) ρ) xs := by
  unfold compX
  split
  · rename_i h
    obtain ⟨h1, h2⟩ := h
    have key : ∀ {xs : List α} {acc : List D}, acc.length + xs.length ≤ sizeLine → (∀ x ∈ xs, ∃ z, cstep ow bind test elt (e x) ρ = some (z, ρ)) → compD ow bind test elt (xs.map e) ρ acc = .ok (.lst (acc ++ xs.filterMap fun x => (cstep ow bind test elt (e x) ρ).bind (·.1))) ρ := by
      intro xs
      induction xs with
      | nil => intro acc _ _; simp [compD]
      | cons x xs ih =>
        intro acc hl h
        obtain ⟨z, hz⟩ := h x List.mem_cons_self
        have hz1 : z.toList.length ≤ 1 := by cases z <;> simp
        have e1 : (cstep ow bind test elt (e x) ρ).bind (·.1) = z := by rw [hz]; rfl
        rw [List.map_cons, compD_step hz (by simp at hl ⊢; omega), ih (by simp at hl ⊢; omega) fun y hy => h y (List.mem_cons_of_mem _ hy), List.filterMap_cons, e1]
        cases z <;> simp
    unfold compE
    rw [key (by simpa using h2) h1]; simp
  · rfl
theorem compX_congr {o o' : Res Cell} {ρ ρ' : DEnv} {h h' : α → Option (Option D × DEnv)} {xs xs' : List α} (e0 : o = o') (e1 : ρ = ρ') (e : xs = xs') (hh : ∀ x ∈ xs', h x = h' x) : compX o ρ h xs = compX o' ρ' h' xs' := by
  subst e0 e1 e
  unfold compX
  have e2 : (∀ x ∈ xs, ∃ z, h x = some (z, ρ)) ↔ ∀ x ∈ xs, ∃ z, h' x = some (z, ρ) := ⟨fun q x hx => by rw [← hh x hx]; exact q x hx, fun q x hx => by rw [hh x hx]; exact q x hx⟩
  have e3 : (xs.filterMap fun x => (h x).bind (·.1)) = xs.filterMap fun x => (h' x).bind (·.1) := HT.fm_congr _ fun x hx => by rw [hh x hx]
  by_cases q : (∀ x ∈ xs, ∃ z, h x = some (z, ρ)) ∧ xs.length ≤ sizeLine
  · rw [if_pos q, if_pos ⟨e2.mp q.1, q.2⟩, e3]
  · rw [if_neg q, if_neg fun q' => q ⟨e2.mpr q'.1, q'.2⟩]
@[simp] theorem compX_some {o : Res Cell} {g : α → D} {xs : List α} : compX o ρ (fun x => some (some (g x), ρ)) xs = if xs.length ≤ sizeLine then .ok (.lst (xs.map g)) ρ else o := by
  unfold compX
  have e : (xs.filterMap fun x => (some (some (g x), ρ) : Option (Option D × DEnv)).bind (·.1)) = xs.map g := by
    rw [← List.filterMap_eq_map]; rfl
  rw [e]
  simp
@[simp] theorem compX_filter {o : Res Cell} {p : α → Prop} [DecidablePred p] {g : α → D} {xs : List α} : compX o ρ (fun x => if p x then some (some (g x), ρ) else some (none, ρ)) xs = if xs.length ≤ sizeLine then .ok (.lst ((xs.filter fun x => decide (p x)).map g)) ρ else o := by
  unfold compX
  have e : (xs.filterMap fun x => ((if p x then some (some (g x), ρ) else some (none, ρ)) : Option (Option D × DEnv)).bind (·.1)) = (xs.filter fun x => decide (p x)).map g := by
    induction xs with
    | nil => rfl
    | cons x xs ih =>
      by_cases h : p x <;> simp [h, ih, List.filterMap_cons, List.filter_cons]
  rw [e]
  have h : ∀ x ∈ xs, ∃ z, (if p x then some (some (g x), ρ) else some (none, ρ)) = some (z, ρ) := fun x _ => by by_cases h : p x <;> simp [h]
  by_cases q : xs.length ≤ sizeLine
  · rw [if_pos ⟨h, q⟩, if_pos q]
  · rw [if_neg fun q' => q q'.2, if_neg q]
theorem compX_eq {o : Res Cell} {g : α → Option D} {h : α → Option (Option D × DEnv)} {xs : List α} (hh : ∀ x ∈ xs, h x = some (g x, ρ)) (hl : xs.length ≤ sizeLine) : compX o ρ h xs = .ok (.lst (xs.filterMap g)) ρ := by
  unfold compX
  rw [if_pos ⟨fun x hx => ⟨_, hh x hx⟩, hl⟩]
  rw [HT.fm_congr (g := g) _ fun x hx => by rw [hh x hx]; rfl]
/-! written lists, item by item -/
def compOD (ow : List Nat) (bind : D → DEnv → Option DEnv) (test : DEnv → Res Bool) (elt : DX) (ds : List D) (ρ : DEnv) (acc : List D) : Res Cell := compD ow bind test elt ds ρ acc
def stepO (o : Res Cell) (r : Option (Option D × DEnv)) (k : Option D → DEnv → Res Cell) : Res Cell := match r with
  | some p => k p.1 p.2
  | none => o
@[simp] theorem stepO_some {o : Res Cell} {z : Option D} {k : Option D → DEnv → Res Cell} : stepO o (some (z, ρ)) k = k z ρ := (Eq.refl _).trans (Eq.refl _)
@[simp] theorem stepO_ite {c : Prop} [Decidable c] {o : Res Cell} {a b : Option (Option D × DEnv)} {k : Option D → DEnv → Res Cell} : stepO o (if c then a else b) k = if c then stepO o a k else stepO o b k := by split <;> rfl
@[simp] theorem compD_nil {acc : List D} : compD ow bind test elt [] ρ acc = .ok (.lst acc) ρ := by rw [compD]
@[simp] theorem compD_cons {d : D} {ds acc : List D} : compD ow bind test elt (d :: ds) ρ acc = if acc.length < 16777216 then stepO (compOD ow bind test elt (d :: ds) ρ acc) (cstep ow bind test elt d ρ) fun z ρ' => compD ow bind test elt ds ρ' (acc ++ z.toList) else compOD ow bind test elt (d :: ds) ρ acc := by
  split
  · rename_i hl
    cases h : cstep ow bind test elt d ρ with
    | none => rfl
    | some p => exact compD_step (z := p.1) (ρ' := p.2) h (by rw [sizeLine_eq]; exact hl)
  · rfl
@[simp] theorem compE_nil : compE ow bind test elt [] ρ = .ok (.lst []) ρ := compD_nil
@[simp] theorem compE_cons {d : D} {ds : List D} : compE ow bind test elt (d :: ds) ρ = compD ow bind test elt (d :: ds) ρ [] := rfl
/-- both ways keep the names -/
@[simp] theorem ite_keep {c : Prop} [Decidable c] {a b : D} : (if c then (some (some a, ρ) : Option (Option D × DEnv)) else some (some b, ρ)) = some (some (if c then a else b), ρ) := by split <;> rfl
@[simp] theorem ite_bool {c : Prop} [Decidable c] {a b : Bool} : (if c then PyData.bool a else PyData.bool b) = .bool (if c then a else b) := by split <;> rfl
@[simp] theorem ite_int {c : Prop} [Decidable c] {a b : Int} : (if c then PyData.int a else PyData.int b) = .int (if c then a else b) := by split <;> rfl
@[simp] theorem range_int (n : Nat) : rangeD 0 n = (List.range n).map fun (k : Nat) => PyData.int (k : Int) := by unfold rangeD; simp
def rg1R (vs : List EV) (k : Int → Res (List D)) : Res (List D) := match vs with
  | [.val (.int j)] => k j
  | _ => .bad
def rg2R (vs : List EV) (k : Int → Int → Res (List D)) : Res (List D) := match vs with
  | [.val (.int i), .val (.int j)] => k i j
  | _ => .bad
@[simp] theorem rg1R_ap {j : Int} {k : Int → Res (List D)} : rg1R [.val (.int j)] k = k j := (Eq.refl _).trans (Eq.refl _)
@[simp] theorem rg2R_ap {i j : Int} {k : Int → Int → Res (List D)} : rg2R [.val (.int i), .val (.int j)] k = k i j := (Eq.refl _).trans (Eq.refl _)
@[simp] theorem iRange1_ap {g : DEnv → Res (List EV)} : DL.iRange1 g ρ = bindR (g ρ) fun vs ρ1 => rg1R vs fun j => if -4611686018427387904 ≤ j ∧ j < 4611686018427387904 then .ok (rangeD 0 j.toNat) ρ1 else .bad := by
  unfold DL.iRange1 rg1R; rfl
@[simp] theorem iRange2_ap {g : DEnv → Res (List EV)} : DL.iRange2 g ρ = bindR (g ρ) fun vs ρ1 => rg2R vs fun i j => if -4611686018427387904 ≤ i ∧ i < 4611686018427387904 ∧ -4611686018427387904 ≤ j ∧ j < 4611686018427387904 then .ok (rangeD i (j - i).toNat) ρ1 else .bad := by
  unfold DL.iRange2 rg2R; rfl
theorem rangeD_map {i : Int} {n : Nat} : rangeD i n = (List.range n).map fun (k : Nat) => PyData.int (i + k) := rfl
theorem rangeCD_map {i c : Int} {n : Nat} : rangeCD i c n = (List.range n).map fun (k : Nat) => PyData.int (i + k * c) := rfl
def zipR (ds : List D) (ρ1 : DEnv) : Res (List D) := match ds with
  | [.list ds, .list es] => .ok (zipD ds es) ρ1
  | [.tuple ds, .tuple es] => .ok (zipD ds es) ρ1
  | _ => .bad
@[simp] theorem zipR_l {ds es : List D} : zipR [.list ds, .list es] ρ = .ok (zipD ds es) ρ := (Eq.refl _).trans (Eq.refl _)
@[simp] theorem zipR_t {ds es : List D} : zipR [.tuple ds, .tuple es] ρ = .ok (zipD ds es) ρ := (Eq.refl _).trans (Eq.refl _)
@[simp] theorem iZip_ap {g : DEnv → Res (List EV)} : DL.iZip g ρ = bindR (g ρ) fun vs ρ1 => optR (keeps vs ρ1) fun p => zipR p.1 p.2 := by
  unfold DL.iZip zipR; rfl
@[simp] theorem zipD_maps {β : Type} {f : α → D} {g : β → D} : ∀ {xs : List α} {ys : List β}, zipD (xs.map f) (ys.map g) = (List.zip xs ys).map fun p => PyData.tuple [f p.1, g p.2]
  | [], _ => by simp [zipD]
  | _ :: _, [] => by simp [zipD]
  | x :: xs, y :: ys => by simp [zipD, zipD_maps (xs := xs) (ys := ys)]
@[simp] theorem bCons_ap {b : D → DEnv → Option DEnv} {r : List D → DEnv → Option DEnv} {d : D} {ds : List D} : bCons b r (d :: ds) ρ = (match b d ρ with
  | some ρ1 => r ds ρ1
  | none => none) := by unfold bCons; rfl
/-- a for over a mapped list, by a fold -/
theorem forD_fold {σ : Type} {bind : D → DEnv → Option DEnv} {body : DSt} {e : α → D} (R : σ → DEnv → Prop) (step : σ → α → σ) : ∀ (xs : List α) (s0 : σ) (ρ0 : DEnv), R s0 ρ0 →
    (∀ s x ρ, x ∈ xs → R s ρ → ∃ ρ1 ρ2, bind (e x) ρ = some ρ1 ∧ (body ρ1 = .nx ρ2 ∨ body ρ1 = .ct ρ2) ∧ R (step s x) ρ2) → ∃ ρ', forD bind body (xs.map e) ρ0 = .nx ρ' ∧ R (xs.foldl step s0) ρ'
  | [], s0, ρ0, h0, _ => ⟨ρ0, rfl, h0⟩
  | x :: xs, s0, ρ0, h0, h => by
    obtain ⟨ρ1, ρ2, h1, h2, h3⟩ := h s0 x ρ0 List.mem_cons_self h0
    obtain ⟨ρ', h4, h5⟩ := forD_fold R step xs (step s0 x) ρ2 h3 fun s y ρ hy => h s y ρ (List.mem_cons_of_mem _ hy)
    refine ⟨ρ', ?_, h5⟩
    rw [List.map_cons, forD, h1]
    show (match body ρ1 with
      | .nx ρ2 => forD bind body (xs.map e) ρ2
      | .ct ρ2 => forD bind body (xs.map e) ρ2
      | .bk ρ2 => .nx ρ2
      | .rt v ρ2 => .rt v ρ2
      | .err x ρ2 => .err x ρ2
      | .bad => .bad) = _
    rcases h2 with h2 | h2 <;> rw [h2] <;> exact h4
end
end DL

namespace DL
open L2 PySem PySem.Spec PyProof.Rows

def Bd (v : List Int) : Prop := v.length ≤ 1000 ∧ ∀ n ∈ v, n.natAbs < 2 ^ 64
def dotI (a b : List Int) : Int := (List.zipWith (fun x y => x * y) a b).sum
theorem mulOk_of {a b : Int} (ha : a.natAbs < 2 ^ 64) (hb : b.natAbs < 2 ^ 64) : mulOk a b = true := by
  have l : ∀ n : Nat, n < 2 ^ 64 → n.log2 < 65 := fun n h => by
    by_cases z : n = 0
    · subst z; decide
    · have := (Nat.log2_lt z).mpr h; omega
  have h1 := l _ ha
  have h2 := l _ hb
  unfold mulOk
  exact decide_eq_true (by omega)
theorem get_row {r : List Int} {k : Nat} (h : k < r.length) : atI (r.map PyData.int) (k : Int) = some (.int (r.getD k 0)) := by
  refine DL.atI_nat ?_
  rw [List.getElem?_map, List.getD_eq_getElem?_getD, List.getElem?_eq_getElem h]
  rfl
def minI (v : List Int) : Int := match v with
  | [] => 0
  | n :: ns => ns.foldl min n
theorem kMin_vec {v : List Int} (h : v ≠ []) : kMin [vec v] = some (.int (minI v)) := by
  cases v with
  | nil => exact absurd rfl h
  | cons n ns =>
    show (match intsOf ((n :: ns).map PyData.int) with
      | some (n :: ns) => some (PyData.int (ns.foldl min n))
      | _ => none) = _
    rw [intsOf_map]; rfl
theorem canLay_ints : ∀ v : List Int, PyData.canLayAll0 (v.map PyData.int) = true
  | [] => rfl
  | n :: v => by simp [PyData.canLayAll0, PyData.canLay0, canLay_ints v]
theorem depth_ints : ∀ v : List Int, PyData.depthAll (v.map PyData.int) = 0
  | [] => rfl
  | n :: v => by simp [PyData.depthAll, PyData.depth, depth_ints v]
theorem shaped_vec (v : List Int) : SeqAt.shaped (vec v) = true := by
  simp [SeqAt.shaped, PyData.canLay0, PyData.depth, canLay_ints, depth_ints]
theorem eqv_ints : ∀ a b : List Int, PyData.eqvAll (a.map PyData.int) (b.map PyData.int) = decide (a = b)
  | [], [] => by simp [PyData.eqvAll]
  | [], _ :: _ => by simp [PyData.eqvAll]
  | _ :: _, [] => by simp [PyData.eqvAll]
  | x :: a, y :: b => by simp [PyData.eqvAll, PyData.eqv, eqv_ints a b]; rfl
theorem kEq_vec (a b : List Int) : kEq (vec a) (vec b) = some (decide (a = b)) := by
  have h : kEq (vec a) (vec b) = some (PyData.eqv (vec a) (vec b)) := if_pos ⟨shaped_vec a, shaped_vec b⟩
  rw [h]
  simp [PyData.eqv, eqv_ints]
theorem alike_ints : ∀ a b : List Int, PySem.W.alikeAll (a.map PyData.int) (b.map PyData.int) = true
  | [], b => by cases b <;> simp [PySem.W.alikeAll]
  | _ :: _, [] => by simp [PySem.W.alikeAll]
  | x :: a, y :: b => by simp [PySem.W.alikeAll, PySem.W.alike, alike_ints a b]
theorem range_dot : ∀ (a b : List Int), a.length ≤ b.length → ((List.range a.length).map fun k => a.getD k 0 * b.getD k 0) = List.zipWith (fun x y => x * y) a b := fun a b h => by
  refine List.ext_getElem (by simp; omega) fun i h1 h2 => ?_
  have l1 : i < a.length := by simpa using h1
  have l2 : i < b.length := by omega
  simp [List.getD_eq_getElem?_getD, List.getElem?_eq_getElem l1, List.getElem?_eq_getElem l2]
theorem getD_mem {a : List Int} {k : Nat} (h : k < a.length) : a.getD k 0 ∈ a := by
  rw [List.getD_eq_getElem?_getD, List.getElem?_eq_getElem h]
  exact List.getElem_mem h
theorem nice_ints : ∀ v : List Int, (∀ n ∈ v, n.natAbs < 2 ^ 64) → niceAll (v.map PyData.int) = true
  | [], _ => rfl
  | n :: v, h => by
    have h1 := h n List.mem_cons_self
    have hl : n.natAbs.log2 < 1920 := by
      by_cases z : n.natAbs = 0
      · rw [z]; decide
      · have := (Nat.log2_lt z).mpr h1; omega
    simp only [List.map_cons, niceAll, nice, decide_eq_true hl, nice_ints v fun m hm => h m (List.mem_cons_of_mem _ hm), Bool.and_self]
theorem log_le {n : Nat} (h : n < 2 ^ 64) : n.log2 < 64 := by
  by_cases z : n = 0
  · rw [z]; decide
  · exact (Nat.log2_lt z).mpr h
theorem weight_int {n : Int} (h : n.natAbs < 2 ^ 64) : PyData.weight (.int n) ≤ 64 := by
  have := log_le h
  simp only [PyData.weight]
  split <;> omega
theorem weight_ints : ∀ v : List Int, (∀ n ∈ v, n.natAbs < 2 ^ 64) → PyData.weightAll (v.map PyData.int) ≤ 65 * v.length
  | [], _ => by simp [PyData.weightAll]
  | n :: v, h => by
    have h1 := weight_ints v fun m hm => h m (List.mem_cons_of_mem _ hm)
    have h2 := weight_int (h n List.mem_cons_self)
    simp only [List.map_cons, PyData.weightAll, List.length_cons]; omega
theorem repr_vec {v : List Int} (hl : v.length ≤ 100) (h : ∀ n ∈ v, n.natAbs < 2 ^ 64) : ∃ z, kRepr [vec v] = some (.str z) :=
  ⟨_, kRepr_nice (by simpa [nice] using nice_ints v h) (by simp [PyData.depth, depth_ints]) (by have := weight_ints v h; simp only [PyData.weight]; omega)⟩
theorem repr_int {n : Int} (h : n.natAbs < 2 ^ 64) : ∃ z, kRepr [.int n] = some (.str z) :=
  ⟨_, kRepr_nice (by have := log_le h; have hl : n.natAbs.log2 < 1920 := by omega
                     simp [nice, hl]) (by simp [PyData.depth]) (by have := weight_int h; omega)⟩
theorem nice_vecs : ∀ C : List (List Int), (∀ v ∈ C, ∀ n ∈ v, n.natAbs < 2 ^ 64) → niceAll (C.map vec) = true
  | [], _ => rfl
  | v :: C, h => by
    have := nice_ints v (h v List.mem_cons_self)
    simp [niceAll, nice, this, nice_vecs C fun w hw => h w (List.mem_cons_of_mem _ hw)]
theorem weight_vecs : ∀ C : List (List Int), (∀ v ∈ C, v.length ≤ 10 ∧ ∀ n ∈ v, n.natAbs < 2 ^ 64) → PyData.weightAll (C.map vec) ≤ 700 * C.length
  | [], _ => by simp [PyData.weightAll]
  | v :: C, h => by
    have h1 := weight_vecs C fun w hw => h w (List.mem_cons_of_mem _ hw)
    have h3 := h v List.mem_cons_self
    have h2 := weight_ints v h3.2
    simp only [List.map_cons, PyData.weightAll, PyData.weight, List.length_cons]; omega
theorem depth_vecs : ∀ C : List (List Int), PyData.depthAll (C.map vec) ≤ 1
  | [] => by simp [PyData.depthAll]
  | v :: C => by
    have := depth_vecs C
    simp [PyData.depthAll, PyData.depth, depth_ints]; omega
theorem dot_le2 (A B : Nat) : ∀ (r a : List Int), (∀ n ∈ r, n.natAbs ≤ A) → (∀ n ∈ a, n.natAbs ≤ B) → (dotI r a).natAbs ≤ A * B * r.length
  | [], _, _, _ => by simp [dotI]
  | x :: r, [], _, _ => by simp [dotI]
  | x :: r, y :: a, h, k => by
    have ih := dot_le2 A B r a (fun n hn => h n (List.mem_cons_of_mem _ hn)) fun n hn => k n (List.mem_cons_of_mem _ hn)
    have p : (x * y).natAbs ≤ A * B := by rw [Int.natAbs_mul]; exact Nat.mul_le_mul (h x List.mem_cons_self) (k y List.mem_cons_self)
    have e : dotI (x :: r) (y :: a) = x * y + dotI r a := by simp [dotI]
    rw [e, List.length_cons, Nat.mul_add, Nat.mul_one]
    have := Int.natAbs_add_le (x * y) (dotI r a)
    omega

abbrev zs (xs : List Int) : List D := xs.map PyData.int
theorem divOk_lit {n : Int} (h0 : n ≠ 0) (h : n.natAbs.log2 < 9000) : divOk n = true := decide_eq_true ⟨h0, h⟩
theorem dk1000 : divOk 1000 = true := by decide
theorem dk7 : divOk 7 = true := by decide
theorem dk2 : divOk 2 = true := by decide
theorem divOk_of {b : Int} (h0 : b ≠ 0) (hb : b.natAbs < 2 ^ 64) : divOk b = true := divOk_lit h0 (by have := log_le hb; omega)
theorem mulOk_small {a b : Int} (ha : 0 ≤ a) (ha' : a < 1000000000000000000) (hb : 0 ≤ b) (hb' : b < 1000000000000000000) : mulOk a b = true := mulOk_of (by omega) (by omega)
def maxI (v : List Int) : Int := match v with
  | [] => 0
  | n :: ns => ns.foldl max n
theorem kMin_list {v : List Int} (h : v ≠ []) : kMin [.list (v.map PyData.int)] = some (.int (minI v)) := by
  cases v with
  | nil => exact absurd rfl h
  | cons n ns =>
    show (match intsOf ((n :: ns).map PyData.int) with
      | some (n :: ns) => some (PyData.int (ns.foldl min n))
      | _ => none) = _
    rw [intsOf_map]; rfl
theorem kMax_vec {v : List Int} (h : v ≠ []) : kMax [vec v] = some (.int (maxI v)) := by
  cases v with
  | nil => exact absurd rfl h
  | cons n ns =>
    show (match intsOf ((n :: ns).map PyData.int) with
      | some (n :: ns) => some (PyData.int (ns.foldl max n))
      | _ => none) = _
    rw [intsOf_map]; rfl
theorem kMax_list {v : List Int} (h : v ≠ []) : kMax [.list (v.map PyData.int)] = some (.int (maxI v)) := by
  cases v with
  | nil => exact absurd rfl h
  | cons n ns =>
    show (match intsOf ((n :: ns).map PyData.int) with
      | some (n :: ns) => some (PyData.int (ns.foldl max n))
      | _ => none) = _
    rw [intsOf_map]; rfl
theorem foldl_min_spec : ∀ (ns : List Int) (n : Int), ns.foldl min n ∈ n :: ns ∧ ∀ m ∈ n :: ns, ns.foldl min n ≤ m
  | [], n => ⟨by simp, fun m hm => by simp at hm; subst hm; exact Int.le_refl _⟩
  | k :: ns, n => by
    obtain ⟨h1, h2⟩ := foldl_min_spec ns (min n k)
    rw [List.foldl_cons]
    refine ⟨?_, fun m hm => ?_⟩
    · rcases List.mem_cons.mp h1 with h | h
      · rw [h]
        by_cases q : n ≤ k
        · rw [Int.min_eq_left q]; exact List.mem_cons_self
        · rw [Int.min_eq_right (by omega)]; exact List.mem_cons_of_mem _ List.mem_cons_self
      · exact List.mem_cons_of_mem _ (List.mem_cons_of_mem _ h)
    · have hk := h2 (min n k) List.mem_cons_self
      rcases List.mem_cons.mp hm with h | h
      · subst h; omega
      · rcases List.mem_cons.mp h with h | h
        · subst h; omega
        · exact h2 m (List.mem_cons_of_mem _ h)
theorem minI_spec {v : List Int} (h : v ≠ []) : minI v ∈ v ∧ ∀ m ∈ v, minI v ≤ m := by
  cases v with
  | nil => exact absurd rfl h
  | cons n ns => exact foldl_min_spec ns n
theorem foldl_max_spec : ∀ (ns : List Int) (n : Int), ns.foldl max n ∈ n :: ns ∧ ∀ m ∈ n :: ns, m ≤ ns.foldl max n
  | [], n => ⟨by simp, fun m hm => by simp at hm; subst hm; exact Int.le_refl _⟩
  | k :: ns, n => by
    obtain ⟨h1, h2⟩ := foldl_max_spec ns (max n k)
    rw [List.foldl_cons]
    refine ⟨?_, fun m hm => ?_⟩
    · rcases List.mem_cons.mp h1 with h | h
      · rw [h]
        by_cases q : n ≤ k
        · rw [Int.max_eq_right q]; exact List.mem_cons_of_mem _ List.mem_cons_self
        · rw [Int.max_eq_left (by omega)]; exact List.mem_cons_self
      · exact List.mem_cons_of_mem _ (List.mem_cons_of_mem _ h)
    · have hk := h2 (max n k) List.mem_cons_self
      rcases List.mem_cons.mp hm with h | h
      · subst h; omega
      · rcases List.mem_cons.mp h with h | h
        · subst h; omega
        · exact h2 m (List.mem_cons_of_mem _ h)
theorem maxI_spec {v : List Int} (h : v ≠ []) : maxI v ∈ v ∧ ∀ m ∈ v, m ≤ maxI v := by
  cases v with
  | nil => exact absurd rfl h
  | cons n ns => exact foldl_max_spec ns n
@[simp] theorem atI_natS {α : Type} {ds : List α} {n : Nat} : atI ds (n : Int) = ds[n]? := by
  unfold atI ixN
  by_cases h : n < ds.length
  · have e : (0 : Int) ≤ (n : Int) := Int.natCast_nonneg n
    have e2 : (n : Int) < (ds.length : Int) := by omega
    simp [e, e2]
  · have e : (0 : Int) ≤ (n : Int) := Int.natCast_nonneg n
    have e2 : ¬ (n : Int) < (ds.length : Int) := by omega
    have e3 : ¬ (n : Int) < 0 := by omega
    simp [e, e2]
    omega
theorem atI_int {α : Type} {ds : List α} {i : Int} (h : 0 ≤ i) : atI ds i = ds[i.toNat]? := by
  obtain ⟨n, rfl⟩ := Int.eq_ofNat_of_zero_le h
  exact atI_natS
@[simp] theorem pSome_ap {f : DX} {ρ : DEnv} : pSome f ρ = bindR (f ρ) fun v ρ1 => match deref ρ1 v with
  | some (.int i) => .ok (some i) ρ1
  | _ => .bad := (Eq.refl _).trans (Eq.refl _)
@[simp] theorem xCut_ap {fa : DX} {fl fh : DEnv → Res (Option Int)} {ρ : DEnv} : xCut fa fl fh ρ = bindR (fa ρ) fun a ρ1 => bindR (fl ρ1) fun lo ρ2 => bindR (fh ρ2) fun hi ρ3 => optR (deref ρ3 a) fun d => optR (kCut d lo hi) fun z => .ok (.val z) ρ3 := (Eq.refl _).trans (Eq.refl _)
theorem kCut_tail {ds : List D} : kCut (.tuple ds) (some 1) none = some (.tuple (ds.drop 1)) := by
  show some (PyData.tuple (DL.cutD ds (some 1) none)) = _
  unfold DL.cutD
  cases ds with
  | nil => rfl
  | cons d ds => simp [HT.sIx]
theorem kCut_head {ds : List D} : kCut (.tuple ds) none (some 1) = some (.tuple (ds.take 1)) := by
  show some (PyData.tuple (DL.cutD ds none (some 1))) = _
  unfold DL.cutD
  cases ds with
  | nil => rfl
  | cons d ds => simp [HT.sIx]
/-! ### repr of data with small ints -/
theorem int_text_66 {a : Int} (h : a.natAbs.log2 < 64) : (PyData.shown (.int a)).length ≤ 66 := by
  have e := int_text_length_le (k := 64) (by decide) h
  show (Str.ofString (toString a)).length ≤ 66
  rw [PySem.ofString_length]; omega

mutual
def tiny : D → Bool
  | .none => true
  | .bool _ => true
  | .int i => decide (i.natAbs.log2 < 64)
  | .str x => x.cps.toList.all fun c => decide (c < 16 ^ 8)
  | .list xs => tinyAll xs
  | .tuple xs => tinyAll xs
  | _ => false
def tinyAll : List D → Bool
  | [] => true
  | x :: xs => tiny x && tinyAll xs
end
mutual
theorem tiny_show : ∀ d : D, tiny d = true → d.showable = true ∧ d.hasDict = false ∧ d.leavesShort 66 = true
  | .none, _ => ⟨rfl, rfl, rfl⟩
  | .bool _, _ => ⟨rfl, rfl, rfl⟩
  | .int i, h => by
    have h' : i.natAbs.log2 < 64 := by simpa [tiny] using h
    refine ⟨by simp [PyData.showable]; omega, rfl, ?_⟩
    simp only [PyData.leavesShort, decide_eq_true_eq]
    exact int_text_66 h'
  | .str x, h => ⟨rfl, rfl, by simpa [tiny, PyData.leavesShort] using h⟩
  | .dict _, h => by simp [tiny] at h
  | .list xs, h => by
    obtain ⟨a, b, c⟩ := tinyAll_show xs (by simpa [tiny] using h)
    exact ⟨by simpa [PyData.showable] using a, by simpa [PyData.hasDict] using b, by simpa [PyData.leavesShort] using c⟩
  | .tuple xs, h => by
    obtain ⟨a, b, c⟩ := tinyAll_show xs (by simpa [tiny] using h)
    exact ⟨by simpa [PyData.showable] using a, by simpa [PyData.hasDict] using b, by simpa [PyData.leavesShort] using c⟩
theorem tinyAll_show : ∀ xs : List D, tinyAll xs = true → PyData.showableAll xs = true ∧ PyData.hasDictAll xs = false ∧ PyData.leavesShortAll 66 xs = true
  | [], _ => ⟨rfl, rfl, rfl⟩
  | x :: xs, h => by
    simp only [tinyAll, Bool.and_eq_true] at h
    obtain ⟨a, b, c⟩ := tiny_show x h.1
    obtain ⟨a2, b2, c2⟩ := tinyAll_show xs h.2
    exact ⟨by simp [PyData.showableAll, a, a2], by simp [PyData.hasDictAll, b, b2], by simp [PyData.leavesShortAll, c, c2]⟩
end
theorem kRepr_tiny {d : D} (h : tiny d = true) (hd : d.depth ≤ 64) (hw : d.weight ≤ 240000) : kRepr [d] = some (.str d.shown) := by
  obtain ⟨a, b, c⟩ := tiny_show d h
  have l := PyData.shown_le 66 (by omega) d c
  have l2 : (66 + 2) * d.weight ≤ 68 * 240000 := Nat.mul_le_mul (by omega) hw
  exact if_pos ⟨a, b, hd, by rw [sizeLine_eq]; omega⟩
theorem tiny_int {n : Int} (h : n.natAbs < 2 ^ 64) : tiny (.int n) = true := by
  have := log_le h
  simp only [tiny, decide_eq_true_eq]; omega
theorem tiny_ints : ∀ v : List Int, (∀ n ∈ v, n.natAbs < 2 ^ 64) → tinyAll (v.map PyData.int) = true
  | [], _ => rfl
  | n :: v, h => by
    rw [List.map_cons, tinyAll, tiny_int (h n List.mem_cons_self), tiny_ints v fun m hm => h m (List.mem_cons_of_mem _ hm)]; rfl
end DL

/-! HN: lattices of lists of ints, stairs form, plain. -/
namespace HN

abbrev Vec := List Int
def ge (v : Vec) (k : Nat) : Int := v.getD k 0
def lessV (v : Vec) (f : Int) (o : Vec) : Vec := List.zipWith (fun a b => a - f * b) v o
def negV (v : Vec) : Vec := v.map fun x => -x
def zeroV (n : Nat) : Vec := List.replicate n 0
theorem ge_lt {v : Vec} {k : Nat} (h : k < v.length) : ge v k = v[k] := by unfold ge; rw [List.getD_eq_getElem?_getD, List.getElem?_eq_getElem h]; rfl
theorem ge_ge {v : Vec} {k : Nat} (h : v.length ≤ k) : ge v k = 0 := by unfold ge; rw [List.getD_eq_getElem?_getD, List.getElem?_eq_none h]; rfl
theorem len_less {v o : Vec} {f : Int} (h : v.length = o.length) : (lessV v f o).length = v.length := by unfold lessV; rw [List.length_zipWith]; omega
theorem ge_less {v o : Vec} {f : Int} (h : v.length = o.length) (k : Nat) : ge (lessV v f o) k = ge v k - f * ge o k := by
  by_cases hk : k < v.length
  · have h1 : k < (lessV v f o).length := by rw [len_less h]; exact hk
    rw [ge_lt h1, ge_lt hk, ge_lt (by omega)]
    simp [lessV]
  · rw [ge_ge (by rw [len_less h]; omega), ge_ge (by omega), ge_ge (by omega)]; simp
theorem len_neg {v : Vec} : (negV v).length = v.length := by simp [negV]
theorem ge_neg {v : Vec} (k : Nat) : ge (negV v) k = -ge v k := by
  by_cases hk : k < v.length
  · rw [ge_lt (by rw [len_neg]; exact hk), ge_lt hk]; simp [negV]
  · rw [ge_ge (by rw [len_neg]; omega), ge_ge (by omega)]; simp
theorem len_zero {n : Nat} : (zeroV n).length = n := by simp [zeroV]
theorem ge_zero {n k : Nat} : ge (zeroV n) k = 0 := by
  by_cases hk : k < n
  · rw [ge_lt (by rw [len_zero]; exact hk)]; simp [zeroV]
  · exact ge_ge (by rw [len_zero]; omega)
theorem ext {v w : Vec} (hl : v.length = w.length) (h : ∀ k, k < v.length → ge v k = ge w k) : v = w := by
  refine List.ext_getElem hl fun k h1 h2 => ?_
  have := h k h1
  rwa [ge_lt h1, ge_lt h2] at this
theorem ext0 {v : Vec} {n : Nat} (hl : v.length = n) (h : ∀ k, k < n → ge v k = 0) : v = zeroV n :=
  ext (by rw [len_zero]; exact hl) fun k hk => by rw [ge_zero]; exact h k (by omega)

/-- all combinations with integers -/
inductive Lat (n : Nat) (G : List Vec) : Vec → Prop
  | zero : Lat n G (zeroV n)
  | step {w g : Vec} (c : Int) (h : Lat n G w) (hg : g ∈ G) : Lat n G (lessV w c g)
def Len (n : Nat) (G : List Vec) : Prop := ∀ g ∈ G, g.length = n
section
variable {n : Nat} {G H : List Vec} {v w : Vec}
theorem Lat.len (hG : Len n G) (h : Lat n G w) : w.length = n := by
  induction h with
  | zero => exact len_zero
  | step c h hg ih => rw [len_less (by rw [ih, hG _ hg]), ih]
theorem Lat.comb (hG : Len n G) (h : Lat n G v) (k : Lat n G w) (c : Int) : Lat n G (lessV v c w) := by
  induction k with
  | zero =>
    have : lessV v c (zeroV n) = v := by
      have hv := h.len hG
      refine ext (len_less (by rw [hv, len_zero])) fun k _ => ?_
      rw [ge_less (by rw [hv, len_zero]), ge_zero]; omega
    rw [this]; exact h
  | @step w g d k hg ih =>
    have hv := h.len hG
    have hw := k.len hG
    have hgl := hG _ hg
    have : lessV v c (lessV w d g) = lessV (lessV v c w) (-(c * d)) g := by
      have l1 : (lessV w d g).length = n := by rw [len_less (by omega), hw]
      have l2 : (lessV v c w).length = n := by rw [len_less (by omega), hv]
      refine ext (by rw [len_less (by omega), len_less (by omega), len_less (by omega)]) fun k _ => ?_
      rw [ge_less (by omega), ge_less (by omega), ge_less (by omega), ge_less (by omega)]
      rw [Int.mul_sub, Int.neg_mul, ← Int.mul_assoc]; omega
    rw [this]
    exact .step _ ih hg
theorem Lat.gen (hG : Len n G) (h : w ∈ G) : Lat n G w := by
  have := Lat.step (n := n) (G := G) (-1) .zero h
  have e : lessV (zeroV n) (-1) w = w := by
    have hw := hG _ h
    refine ext (by rw [len_less (by rw [len_zero, hw]), len_zero, hw]) fun k _ => ?_
    rw [ge_less (by rw [len_zero, hw]), ge_zero]; omega
  rwa [e] at this
theorem Lat.le (hH : Len n H) (h : ∀ g ∈ G, Lat n H g) (k : Lat n G w) : Lat n H w := by
  induction k with
  | zero => exact .zero
  | step c _ hg ih => exact ih.comb hH (h _ hg) c
theorem Lat.neg (hG : Len n G) (h : Lat n G w) : Lat n G (negV w) := by
  have := Lat.comb hG .zero h 1
  have e : lessV (zeroV n) 1 w = negV w := by
    have hw := h.len hG
    refine ext (by rw [len_less (by rw [len_zero, hw]), len_zero, len_neg, hw]) fun k _ => ?_
    rw [ge_less (by rw [len_zero, hw]), ge_zero, ge_neg]; omega
  rwa [e] at this
def LatEq (n : Nat) (G H : List Vec) : Prop := ∀ w, Lat n G w ↔ Lat n H w
theorem latEq_of (hG : Len n G) (hH : Len n H) (h : ∀ g ∈ G, Lat n H g) (k : ∀ g ∈ H, Lat n G g) : LatEq n G H := fun w => ⟨fun q => q.le hH h, fun q => q.le hG k⟩
theorem LatEq.symm (h : LatEq n G H) : LatEq n H G := fun w => (h w).symm
theorem LatEq.trans {K : List Vec} (h : LatEq n G H) (k : LatEq n H K) : LatEq n G K := fun w => (h w).trans (k w)
theorem latEq_mem (hG : Len n G) (hH : Len n H) (h : ∀ g, g ∈ G ↔ g ∈ H) : LatEq n G H := latEq_of hG hH (fun g hg => .gen hH ((h g).mp hg)) fun g hg => .gen hG ((h g).mpr hg)
/-- zeros at a place stay -/
theorem Lat.zeroAt (hG : Len n G) {k : Nat} (h : ∀ g ∈ G, ge g k = 0) (q : Lat n G w) : ge w k = 0 := by
  induction q with
  | zero => exact ge_zero
  | @step w g c q hg ih =>
    rw [ge_less (by rw [q.len hG, hG _ hg]), ih, h _ hg]; omega
theorem Lat.cons_iff {s : Vec} (hs : s.length = n) (hG : Len n G) : Lat n (s :: G) w ↔ ∃ c w', Lat n G w' ∧ w = lessV w' c s := by
  have hsG : Len n (s :: G) := fun g hg => by rcases List.mem_cons.mp hg with h | h; rw [h]; exact hs; exact hG g h
  constructor
  · intro q
    induction q with
    | zero =>
      refine ⟨0, zeroV n, .zero, ?_⟩
      exact (ext0 (by rw [len_less (by rw [len_zero, hs]), len_zero]) fun k _ => by rw [ge_less (by rw [len_zero, hs]), ge_zero]; omega).symm
    | @step w g d q hg ih =>
      obtain ⟨c, w', h1, rfl⟩ := ih
      have lw := h1.len hG
      rcases List.mem_cons.mp hg with h | h
      · subst h
        refine ⟨c + d, w', h1, ?_⟩
        have l2 : (lessV w' c g).length = n := by rw [len_less (by omega), lw]
        refine ext (by rw [len_less (by omega), len_less (by omega), len_less (by omega)]) fun k _ => ?_
        rw [ge_less (by omega), ge_less (by omega), ge_less (by omega), Int.add_mul]; omega
      · refine ⟨c, lessV w' d g, .step d h1 h, ?_⟩
        have lg := hG _ h
        have l2 : (lessV w' c s).length = n := by rw [len_less (by omega), lw]
        have l3 : (lessV w' d g).length = n := by rw [len_less (by omega), lw]
        refine ext (by rw [len_less (by omega), len_less (by omega), len_less (by omega), len_less (by omega)]) fun k _ => ?_
        rw [ge_less (by omega), ge_less (by omega), ge_less (by omega), ge_less (by omega)]; omega
  · rintro ⟨c, w', h1, rfl⟩
    exact .step c (h1.le hsG fun g hg => .gen hsG (List.mem_cons_of_mem _ hg)) List.mem_cons_self
end

/-! ### stairs form -/
/-- zeros ahead of a, more than 0 there -/
structure Step (n : Nat) (s : Vec) (a : Nat) : Prop where
  len : s.length = n
  lt : a < n
  z : ∀ k, k < a → ge s k = 0
  pos : 0 < ge s a
theorem Step.uniq {n : Nat} {s : Vec} {a b : Nat} (h : Step n s a) (k : Step n s b) : a = b := by
  rcases Nat.lt_trichotomy a b with q | q | q
  · have := k.z a q; have := h.pos; omega
  · exact q
  · have := h.z b q; have := k.pos; omega
inductive Stairs (n : Nat) : List Vec → Prop
  | nil : Stairs n []
  | cons {s : Vec} {S : List Vec} {a : Nat} (hs : Step n s a) (hz : ∀ t ∈ S, t.length = n ∧ ∀ k, k ≤ a → ge t k = 0) (hr : ∀ t ∈ S, ∀ b, Step n t b → 0 ≤ ge s b ∧ ge s b < ge t b) (h : Stairs n S) : Stairs n (s :: S)
section
variable {n : Nat} {S T : List Vec}
theorem Stairs.len (h : Stairs n S) : Len n S := by
  cases h with
  | nil => exact fun g hg => by simp at hg
  | cons hs hz hr h => exact fun g hg => by rcases List.mem_cons.mp hg with q | q; rw [q]; exact hs.len; exact (hz g q).1
theorem Stairs.steps (h : Stairs n S) : ∀ t ∈ S, ∃ a, Step n t a := by
  induction h with
  | nil => exact fun t ht => by simp at ht
  | cons hs hz hr h ih =>
    intro t ht
    rcases List.mem_cons.mp ht with q | q
    · rw [q]; exact ⟨_, hs⟩
    · exact ih t q
/-- what is less than all heads, without sign, is 0 -/
theorem Stairs.small (h : Stairs n S) : ∀ {d : Vec}, Lat n S d → (∀ t ∈ S, ∀ a, Step n t a → -ge t a < ge d a ∧ ge d a < ge t a) → d = zeroV n := by
  induction h with
  | nil =>
    intro d q _
    cases q with
    | zero => rfl
    | step c h hg => simp at hg
  | @cons s S a hs hz hr h ih =>
    intro d q b
    obtain ⟨c, w', h1, rfl⟩ := (Lat.cons_iff hs.len h.len).mp q
    have lw := h1.len h.len
    have hb := b s List.mem_cons_self a hs
    have w0 : ge w' a = 0 := h1.zeroAt h.len fun t ht => (hz t ht).2 a (Nat.le_refl _)
    rw [ge_less (by rw [lw, hs.len]), w0] at hb
    have p := hs.pos
    have c0 : c = 0 := by
      by_cases z1 : 1 ≤ c
      · have := Int.mul_le_mul_of_nonneg_right z1 (show 0 ≤ ge s a by omega)
        omega
      · by_cases z2 : c ≤ -1
        · have := Int.mul_le_mul_of_nonneg_right z2 (show 0 ≤ ge s a by omega)
          omega
        · omega
    subst c0
    have e : lessV w' 0 s = w' := ext (len_less (by rw [lw, hs.len])) fun k _ => by rw [ge_less (by rw [lw, hs.len])]; omega
    rw [e] at b ⊢
    exact ih h1 fun t ht a hta => b t (List.mem_cons_of_mem _ ht) a hta
/-- one stairs form for one lattice -/
theorem Stairs.uniq (h : Stairs n S) : ∀ {T : List Vec}, Stairs n T → LatEq n S T → S = T := by
  induction h with
  | nil =>
    intro T k e
    cases k with
    | nil => rfl
    | @cons t T b ht hz hr k =>
      have lT : Len n (t :: T) := (Stairs.cons ht hz hr k).len
      have q := (e t).mpr (.gen lT List.mem_cons_self)
      have : t = zeroV n := by
        cases q with
        | zero => rfl
        | step c h hg => simp at hg
      have p := ht.pos
      rw [this, ge_zero] at p
      omega
  | @cons s S a hs hz hr h ih =>
    intro T k e
    have lS : Len n (s :: S) := (Stairs.cons hs hz hr h).len
    cases k with
    | nil =>
      have q := (e s).mp (.gen lS List.mem_cons_self)
      have : s = zeroV n := by
        cases q with
        | zero => rfl
        | step c h hg => simp at hg
      have p := hs.pos
      rw [this, ge_zero] at p
      omega
    | @cons t T b ht hzt hrt k =>
      have lT : Len n (t :: T) := (Stairs.cons ht hzt hrt k).len
      have zS : ∀ w, Lat n (s :: S) w → ∀ k, k < a → ge w k = 0 := fun w q k hk => q.zeroAt lS fun g hg => by
        rcases List.mem_cons.mp hg with z | z
        · rw [z]; exact hs.z k hk
        · exact (hz g z).2 k (by omega)
      have zT : ∀ w, Lat n (t :: T) w → ∀ k, k < b → ge w k = 0 := fun w q k hk => q.zeroAt lT fun g hg => by
        rcases List.mem_cons.mp hg with z | z
        · rw [z]; exact ht.z k hk
        · exact (hzt g z).2 k (by omega)
      have tS := (e t).mpr (.gen lT List.mem_cons_self)
      have sT := (e s).mp (.gen lS List.mem_cons_self)
      have ab : a = b := by
        rcases Nat.lt_trichotomy a b with q | q | q
        · have := zT s sT a q; have := hs.pos; omega
        · exact q
        · have := zS t tS b q; have := ht.pos; omega
      subst ab
      have mul : ∀ {S : List Vec} {s : Vec}, Step n s a → Stairs n S → (∀ t ∈ S, t.length = n ∧ ∀ k, k ≤ a → ge t k = 0) → ∀ w, Lat n (s :: S) w → ∃ c w', Lat n S w' ∧ w = lessV w' c s ∧ ge w a = -(c * ge s a) := fun hs h hz w q => by
        obtain ⟨c, w', h1, e1⟩ := (Lat.cons_iff hs.len h.len).mp q
        have w0 : ge w' a = 0 := h1.zeroAt h.len fun t ht => (hz t ht).2 a (Nat.le_refl _)
        refine ⟨c, w', h1, e1, ?_⟩
        rw [e1, ge_less (by rw [h1.len h.len, hs.len]), w0]; omega
      obtain ⟨c, w1, p1, p2, p3⟩ := mul hs h hz t tS
      obtain ⟨d, w2, q1, q2, q3⟩ := mul ht k hzt s sT
      have ps := hs.pos
      have pt := ht.pos
      have eq : ge s a = ge t a := by
        have d1 : ge s a ∣ ge t a := ⟨-c, by rw [p3, Int.mul_neg, Int.mul_comm]⟩
        have d2 : ge t a ∣ ge s a := ⟨-d, by rw [q3, Int.mul_neg, Int.mul_comm]⟩
        have := Int.le_of_dvd pt d1
        have := Int.le_of_dvd ps d2
        omega
      -- the rest has the same lattice
      have sub : ∀ {S T : List Vec} {s t : Vec}, Step n s a → Step n t a → Stairs n S → Stairs n T → (∀ t ∈ S, t.length = n ∧ ∀ k, k ≤ a → ge t k = 0) → (∀ t ∈ T, t.length = n ∧ ∀ k, k ≤ a → ge t k = 0) → LatEq n (s :: S) (t :: T) → ∀ w, Lat n S w → Lat n T w := fun {S T s t} hs ht h k hz hzt e w q => by
        have lS : Len n (s :: S) := fun g hg => by
          rcases List.mem_cons.mp hg with z | z
          · rw [z]; exact hs.len
          · exact h.len g z
        have w0 : ge w a = 0 := q.zeroAt h.len fun t ht => (hz t ht).2 a (Nat.le_refl _)
        have qT := (e w).mp (q.le lS fun g hg => .gen lS (List.mem_cons_of_mem _ hg))
        obtain ⟨c, w', h1, e1⟩ := (Lat.cons_iff ht.len k.len).mp qT
        have w0' : ge w' a = 0 := h1.zeroAt k.len fun t ht => (hzt t ht).2 a (Nat.le_refl _)
        have lw := h1.len k.len
        have z : ge w a = -(c * ge t a) := by rw [e1, ge_less (by rw [lw, ht.len]), w0']; omega
        rw [w0] at z
        have c0 : c = 0 := by
          rcases Int.mul_eq_zero.mp (show c * ge t a = 0 by omega) with q | q
          · exact q
          · have := ht.pos; omega
        have e2 : lessV w' 0 t = w' := ext (len_less (by rw [lw, ht.len])) fun k _ => by rw [ge_less (by rw [lw, ht.len])]; omega
        rw [e1, c0, e2]
        exact h1
      have eT : S = T := ih k fun w => ⟨sub hs ht h k hz hzt e w, sub ht hs k h hzt hz e.symm w⟩
      subst eT
      -- and the first ones are the same
      have l1 : (lessV s 1 t).length = n := by rw [len_less (by rw [hs.len, ht.len]), hs.len]
      have g : ∀ k, ge (lessV s 1 t) k = ge s k - ge t k := fun k => by rw [ge_less (by rw [hs.len, ht.len])]; omega
      have dS : Lat n (s :: S) (lessV s 1 t) := (Lat.gen lS List.mem_cons_self).comb lS tS 1
      obtain ⟨c2, w', r1, r2, r3⟩ := mul hs h hz _ dS
      rw [g] at r3
      have c0 : c2 = 0 := by
        rcases Int.mul_eq_zero.mp (show c2 * ge s a = 0 by omega) with q | q
        · exact q
        · omega
      have lw := r1.len h.len
      have e2 : lessV w' 0 s = w' := ext (len_less (by rw [lw, hs.len])) fun k _ => by rw [ge_less (by rw [lw, hs.len])]; omega
      rw [c0, e2] at r2
      rw [← r2] at r1
      have d0 := h.small r1 fun u hu b hub => by
        have h1 := hr u hu b hub
        have h2 := hrt u hu b hub
        rw [g]; omega
      have st : s = t := ext (by rw [hs.len, ht.len]) fun k _ => by
        have := g k
        rw [d0, ge_zero] at this
        omega
      rw [st]
end
end HN

/-! HS: the program's way to the stairs form, plain. -/
namespace HN

theorem natAbs_fmod_lt {a b : Int} (hb : b ≠ 0) : (a - a.fdiv b * b).natAbs < b.natAbs ∧ (0 < b → 0 ≤ a - a.fdiv b * b) ∧ (b < 0 → a - a.fdiv b * b ≤ 0) := by
  have e : a - a.fdiv b * b = a.fmod b := by rw [Int.fmod_def, Int.mul_comm]
  rw [e]
  by_cases p : 0 < b
  · have h1 : 0 ≤ a.fmod b := Int.fmod_nonneg_of_pos a p
    have h2 : a.fmod b < b := Int.fmod_lt_of_pos a p
    exact ⟨by omega, fun _ => h1, fun h => by omega⟩
  · have h1 := Int.emod_nonneg a hb
    have h2 := Int.emod_lt a hb
    rw [Int.fmod_eq_emod]
    split
    · rename_i q
      have : a % b = 0 := by
        rcases q with q | q
        · omega
        · exact Int.emod_eq_zero_of_dvd q
      omega
    · omega
/-- the multiples of two lists, until the second one is 0 at a place -/
def euc (at' : Nat) (one other : Vec) : Vec × Vec :=
  if h : ge other at' = 0 then (one, other) else euc at' other (lessV one ((ge one at').fdiv (ge other at')) other)
termination_by (ge other at').natAbs
decreasing_by
  have h0 : ∀ (v o : Vec) (f : Int) (k : Nat), ge (lessV v f o) k = 0 ∨ ge (lessV v f o) k = ge v k - f * ge o k := fun v o f k => by
    by_cases hk : k < (lessV v f o).length
    · right
      have h1 : k < v.length := by unfold lessV at hk; rw [List.length_zipWith] at hk; omega
      have h2 : k < o.length := by unfold lessV at hk; rw [List.length_zipWith] at hk; omega
      rw [ge_lt hk, ge_lt h1, ge_lt h2]; simp [lessV]
    · left; exact ge_ge (by omega)
  rcases h0 one other ((ge one at').fdiv (ge other at')) at' with q | q
  · rw [q]; simp; omega
  · rw [q]; exact (natAbs_fmod_lt h).1
end HN

namespace HN

def Sz (v : Vec) (F : Nat) : Prop := ∀ k, (ge v k).natAbs ≤ F
theorem Sz.mono {v : Vec} {F G : Nat} (h : Sz v F) (k : F ≤ G) : Sz v G := fun i => Nat.le_trans (h i) k
theorem Sz.mem {v : Vec} {F : Nat} (h : Sz v F) {x : Int} (hx : x ∈ v) : x.natAbs ≤ F := by
  obtain ⟨k, hk, rfl⟩ := List.getElem_of_mem hx
  have := h k
  rwa [ge_lt hk] at this
theorem sz_of {v : Vec} {F : Nat} (h : ∀ x ∈ v, x.natAbs ≤ F) : Sz v F := fun k => by
  by_cases hk : k < v.length
  · rw [ge_lt hk]; exact h _ (List.getElem_mem hk)
  · rw [ge_ge (by omega)]; simp
theorem sz_less {v o : Vec} {f : Int} {A B : Nat} (hl : v.length = o.length) (h : Sz v A) (k : Sz o B) : Sz (lessV v f o) (A + f.natAbs * B) := fun i => by
  rw [ge_less hl]
  have h1 := h i
  have h2 := Nat.mul_le_mul_left f.natAbs (k i)
  have h3 := Int.natAbs_sub_le (ge v i) (f * ge o i)
  rw [Int.natAbs_mul] at h3
  omega
theorem sz_neg {v : Vec} {A : Nat} (h : Sz v A) : Sz (negV v) A := fun i => by rw [ge_neg, Int.natAbs_neg]; exact h i

/-- sizes in the way to a common divisor -/
structure EI (n p F : Nat) (one other : Vec) : Prop where
  l1 : one.length = n
  l2 : other.length = n
  nz : ge one p ≠ 0
  sz : ∃ A B, Sz one A ∧ Sz other B ∧ A ≤ F ∧ B ≤ F ∧ ((A * (ge other p).natAbs + B * (ge one p).natAbs ≤ F ∧ 0 ≤ ge one p * ge other p) ∨ A * (ge other p).natAbs + B * ((ge one p).natAbs + 2 * (ge other p).natAbs) ≤ F)
theorem ei_arith {A B F x y r q : Nat} (y1 : 1 ≤ y) (key : q * y ≤ x + r) (hr : r < y) (hB : y ≤ B) (hyp : (A * y + B * x ≤ F ∧ q * y + r = x) ∨ A * y + B * (x + 2 * y) ≤ F) : B * r + (A + q * B) * y ≤ F ∧ A + q * B ≤ F ∧ q ≤ F := by
  have qx : q ≤ x := by
    by_cases z : q ≤ x
    · exact z
    · exfalso
      have h1 : (x + 1) * y ≤ q * y := Nat.mul_le_mul_right _ (by omega)
      rw [Nat.add_mul, Nat.one_mul] at h1
      have h2 : x ≤ x * y := Nat.le_mul_of_pos_right _ y1
      omega
  have e1 : (A + q * B) * y = A * y + B * (q * y) := by rw [Nat.add_mul, Nat.mul_comm q B, Nat.mul_assoc]
  have Ay : A ≤ A * y := Nat.le_mul_of_pos_right _ y1
  have qB : q * B ≤ B * x := by rw [Nat.mul_comm]; exact Nat.mul_le_mul_left _ qx
  have xB : x ≤ B * x := Nat.le_mul_of_pos_left _ (by omega)
  rw [e1]
  rcases hyp with ⟨h1, h2⟩ | h1
  · have e2 : B * (q * y) + B * r = B * x := by rw [← Nat.mul_add, h2]
    refine ⟨by omega, by omega, by omega⟩
  · have e2 : B * (q * y) + B * r ≤ B * (x + 2 * y) := by rw [← Nat.mul_add]; exact Nat.mul_le_mul_left _ (by omega)
    have e3 : B * x ≤ B * (x + 2 * y) := Nat.mul_le_mul_left _ (by omega)
    refine ⟨by omega, by omega, by omega⟩
theorem EI.step {n p F : Nat} {one other : Vec} (h : EI n p F one other) (hz : ge other p ≠ 0) : EI n p F other (lessV one ((ge one p).fdiv (ge other p)) other) ∧ ((ge one p).fdiv (ge other p)).natAbs ≤ F ∧ (ge (lessV one ((ge one p).fdiv (ge other p)) other) p).natAbs < (ge other p).natAbs := by
  obtain ⟨l1, l2, nz, A, B, sA, sB, hA, hB, hF⟩ := h
  have eg := ge_less (f := (ge one p).fdiv (ge other p)) (l1.trans l2.symm) p
  obtain ⟨r1, r2, r3⟩ := natAbs_fmod_lt (a := ge one p) hz
  rw [← eg] at r1 r2 r3
  have qm : ((ge one p).fdiv (ge other p) * ge other p).natAbs = ((ge one p).fdiv (ge other p)).natAbs * (ge other p).natAbs := Int.natAbs_mul _ _
  have sign : 0 ≤ ge other p * ge (lessV one ((ge one p).fdiv (ge other p)) other) p := by
    by_cases q : 0 < ge other p
    · exact Int.mul_nonneg (by omega) (r2 q)
    · exact Int.mul_nonneg_of_nonpos_of_nonpos (by omega) (r3 (by omega))
  have exact' : 0 ≤ ge one p * ge other p → ((ge one p).fdiv (ge other p)).natAbs * (ge other p).natAbs + (ge (lessV one ((ge one p).fdiv (ge other p)) other) p).natAbs = (ge one p).natAbs := fun sg => by
    rw [← qm]
    by_cases q : 0 < ge other p
    · have x0 : 0 ≤ ge one p := by
        by_cases z : 0 ≤ ge one p
        · exact z
        · have := Int.mul_neg_of_neg_of_pos (show ge one p < 0 by omega) q; omega
      have q0 : 0 ≤ (ge one p).fdiv (ge other p) := Int.fdiv_nonneg x0 (by omega)
      have := Int.mul_nonneg q0 (show 0 ≤ ge other p by omega)
      have := r2 q
      omega
    · have x0 : ge one p ≤ 0 := by
        by_cases z : ge one p ≤ 0
        · exact z
        · have := Int.mul_neg_of_pos_of_neg (show 0 < ge one p by omega) (show ge other p < 0 by omega); omega
      have h3 := r3 (by omega)
      -- q y ≤ 0: it is x less r, and r is above y
      have q0 : (ge one p).fdiv (ge other p) * ge other p ≤ 0 := by
        by_cases z : (ge one p).fdiv (ge other p) * ge other p ≤ 0
        · exact z
        · exfalso
          have q1 : (ge one p).fdiv (ge other p) < 0 := by
            by_cases w : (ge one p).fdiv (ge other p) < 0
            · exact w
            · have := Int.mul_nonpos_of_nonneg_of_nonpos (show 0 ≤ (ge one p).fdiv (ge other p) by omega) (show ge other p ≤ 0 by omega); omega
          have := Int.mul_le_mul_of_nonpos_right (show (ge one p).fdiv (ge other p) ≤ -1 by omega) (show ge other p ≤ 0 by omega)
          omega
      omega
  have key : ((ge one p).fdiv (ge other p)).natAbs * (ge other p).natAbs ≤ (ge one p).natAbs + (ge (lessV one ((ge one p).fdiv (ge other p)) other) p).natAbs := by
    rw [← qm]; omega
  obtain ⟨a1, a2, a3⟩ := ei_arith (A := A) (B := B) (F := F) (by omega) key r1 (sB p) (hF.imp (fun ⟨u, v⟩ => ⟨u, exact' v⟩) id)
  refine ⟨⟨l2, by rw [len_less (by omega)]; exact l1, hz, B, _, sB, sz_less (by omega) sA sB, hB, a2, .inl ⟨a1, sign⟩⟩, a3, r1⟩
theorem EI.sizes {n p F : Nat} {one other : Vec} (h : EI n p F one other) : Sz one F ∧ Sz other F := by
  obtain ⟨_, _, _, A, B, sA, sB, hA, hB, _⟩ := h
  exact ⟨sA.mono hA, sB.mono hB⟩
/-- what comes out -/
structure EO (n p F : Nat) (one other o r : Vec) : Prop where
  l1 : o.length = n
  l2 : r.length = n
  nz : ge o p ≠ 0
  z : ge r p = 0
  s1 : Sz o F
  s2 : Sz r F
  pv : ge other p ≠ 0 → (ge o p).natAbs ≤ (ge other p).natAbs
  keep : ∀ k, ge one k = 0 → ge other k = 0 → ge o k = 0 ∧ ge r k = 0
  into : ∀ G, Len n G → Lat n G one → Lat n G other → Lat n G o ∧ Lat n G r
  back : ∀ G, Len n G → Lat n G o → Lat n G r → Lat n G one ∧ Lat n G other
theorem euc_ok {n p F : Nat} (one other : Vec) (h : EI n p F one other) : EO n p F one other (euc p one other).1 (euc p one other).2 := by
  by_cases hz : ge other p = 0
  · have e : euc p one other = (one, other) := by rw [euc, dif_pos hz]
    rw [e]
    obtain ⟨s1, s2⟩ := h.sizes
    exact ⟨h.l1, h.l2, h.nz, hz, s1, s2, fun q => absurd hz q, fun k a b => ⟨a, b⟩, fun G _ a b => ⟨a, b⟩, fun G _ a b => ⟨a, b⟩⟩
  · have e : euc p one other = euc p other (lessV one ((ge one p).fdiv (ge other p)) other) := by rw [euc, dif_neg hz]
    obtain ⟨h1, h2, h3⟩ := h.step hz
    have ih := euc_ok other (lessV one ((ge one p).fdiv (ge other p)) other) h1
    rw [e]
    have ll : one.length = other.length := by rw [h.l1, h.l2]
    refine ⟨ih.l1, ih.l2, ih.nz, ih.z, ih.s1, ih.s2, fun _ => ?_, fun k a b => ih.keep k b (by rw [ge_less ll, a, b]; simp), fun G hG a b => ih.into G hG b (a.comb hG b _), fun G hG a b => ?_⟩
    · by_cases z : ge (lessV one ((ge one p).fdiv (ge other p)) other) p = 0
      · have e2 : euc p other (lessV one ((ge one p).fdiv (ge other p)) other) = (other, lessV one ((ge one p).fdiv (ge other p)) other) := by rw [euc, dif_pos z]
        rw [e2]; exact Nat.le_refl _
      · have := ih.pv z; omega
    · obtain ⟨c, d⟩ := ih.back G hG a b
      refine ⟨?_, c⟩
      have := d.comb hG c (-((ge one p).fdiv (ge other p)))
      have e3 : lessV (lessV one ((ge one p).fdiv (ge other p)) other) (-((ge one p).fdiv (ge other p))) other = one := by
        have l3 := len_less (f := (ge one p).fdiv (ge other p)) ll
        refine ext (by rw [len_less (by omega), l3]) fun k _ => ?_
        rw [ge_less (by omega), ge_less ll, Int.neg_mul]; omega
      rwa [e3] at this
termination_by (ge other p).natAbs
decreasing_by exact h3
theorem ei_start {n p A B : Nat} {one other : Vec} (l1 : one.length = n) (l2 : other.length = n) (nz : ge one p ≠ 0) (sA : Sz one A) (sB : Sz other B) (hAB : B ≤ A) (B1 : 1 ≤ B) : EI n p (4 * A * B) one other := by
  have e1 : A ≤ A * B := Nat.le_mul_of_pos_right _ B1
  have e2 : B ≤ A * B := Nat.le_mul_of_pos_left _ (by omega)
  have a := sA p
  have b := sB p
  have t1 : A * (ge other p).natAbs ≤ A * B := Nat.mul_le_mul_left _ b
  have t2 : B * ((ge one p).natAbs + 2 * (ge other p).natAbs) ≤ B * (3 * A) := Nat.mul_le_mul_left _ (by omega)
  have e3 : B * (3 * A) = 3 * (A * B) := by rw [Nat.mul_left_comm, Nat.mul_comm B A]
  have e4 : 4 * A * B = 4 * (A * B) := Nat.mul_assoc ..
  exact ⟨l1, l2, nz, A, B, sA, sB, by omega, by omega, .inr (by omega)⟩

/-! ### a column -/
abbrev CS := Option Vec × List Vec
def stepCl (p : Nat) (s : CS) (v : Vec) : CS := if ge v p = 0 then (s.1, s.2 ++ [v]) else match s.1 with
  | none => (some v, s.2)
  | some h => (some (euc p h v).1, s.2 ++ [(euc p h v).2])
def posV (p : Nat) (h : Vec) : Vec := if ge h p < 0 then negV h else h
def clearV (p : Nat) (vs : List Vec) : CS := ((vs.foldl (stepCl p) (none, [])).1.map (posV p), (vs.foldl (stepCl p) (none, [])).2)
/-- what holds of a column's part, of vectors up to 2 ^ E, j of them seen -/
structure CI (n p E : Nat) (pre : List Vec) (s : CS) : Prop where
  lh : ∀ h, s.1 = some h → h.length = n ∧ ge h p ≠ 0 ∧ (ge h p).natAbs ≤ 2 ^ E ∧ Sz h (2 ^ (pre.length * (E + 3))) ∧ 1 ≤ pre.length
  lr : ∀ r ∈ s.2, r.length = n ∧ ge r p = 0 ∧ Sz r (2 ^ ((pre.length + 1) * (E + 3)))
  ct : s.2.length + (if s.1.isSome = true then 1 else 0) = pre.length
  keep : ∀ k, (∀ v ∈ pre, ge v k = 0) → (∀ h, s.1 = some h → ge h k = 0) ∧ ∀ r ∈ s.2, ge r k = 0
  none_ : s.1 = none → s.2 = pre
  eq : LatEq n (s.1.toList ++ s.2) pre
theorem pow_le {a b : Nat} (h : a ≤ b) : 2 ^ a ≤ 2 ^ b := Nat.pow_le_pow_right (by decide) h
theorem CI.step {n p E : Nat} {pre : List Vec} {s : CS} {v : Vec} (hl : Len n pre) (hv : v.length = n) (sv : Sz v (2 ^ E)) (h : CI n p E pre s) : CI n p E (pre ++ [v]) (stepCl p s v) := by
  obtain ⟨lh, lr, ct, keep, none_, eq⟩ := h
  have hl' : Len n (pre ++ [v]) := fun g hg => by
    rcases List.mem_append.mp hg with q | q
    · exact hl g q
    · simp at q; rw [q]; exact hv
  have up : (pre ++ [v]).length = pre.length + 1 := by simp
  have lS : Len n (s.1.toList ++ s.2) := fun g hg => by
    rcases List.mem_append.mp hg with q | q
    · exact (lh g (by simpa using q)).1
    · exact (lr g q).1
  have e0 : E ≤ (pre.length + 1) * (E + 3) := by
    have := Nat.le_mul_of_pos_left (E + 3) (show 0 < pre.length + 1 by omega); omega
  have m1 : pre.length * (E + 3) ≤ (pre.length + 1) * (E + 3) := Nat.mul_le_mul_right _ (by omega)
  have m2 : (pre.length + 1) * (E + 3) ≤ (pre.length + 1 + 1) * (E + 3) := Nat.mul_le_mul_right _ (by omega)
  unfold stepCl
  split
  · rename_i hz
    refine ⟨fun h q => ?_, fun r q => ?_, ?_, fun k q => ?_, fun q => ?_, ?_⟩
    · obtain ⟨a, b, c, d, e⟩ := lh h q
      rw [up]
      exact ⟨a, b, c, d.mono (pow_le m1), by omega⟩
    · rw [up]
      rcases List.mem_append.mp q with q | q
      · obtain ⟨a, b, c⟩ := lr r q
        exact ⟨a, b, c.mono (pow_le m2)⟩
      · simp at q
        subst q
        exact ⟨hv, hz, sv.mono (pow_le (by omega))⟩
    · rw [up]
      dsimp only
      rw [List.length_append, List.length_singleton]; omega
    · obtain ⟨a, b⟩ := keep k fun u hu => q u (List.mem_append_left _ hu)
      refine ⟨a, fun r hr => ?_⟩
      rcases List.mem_append.mp hr with hr | hr
      · exact b r hr
      · simp at hr
        subst hr
        exact q r (by simp)
    · show s.2 ++ [v] = pre ++ [v]
      rw [none_ q]
    · show LatEq n (s.1.toList ++ (s.2 ++ [v])) (pre ++ [v])
      have lS' : Len n (s.1.toList ++ (s.2 ++ [v])) := fun g hg => by
        rw [← List.append_assoc] at hg
        rcases List.mem_append.mp hg with q | q
        · exact lS g q
        · simp at q; rw [q]; exact hv
      refine latEq_of lS' hl' (fun g hg => ?_) fun g hg => ?_
      · rw [← List.append_assoc] at hg
        rcases List.mem_append.mp hg with q | q
        · exact ((eq g).mp (.gen lS q)).le hl' fun u hu => .gen hl' (List.mem_append_left _ hu)
        · exact .gen hl' (List.mem_append_right _ q)
      · rcases List.mem_append.mp hg with q | q
        · exact ((eq g).mpr (.gen hl q)).le lS' fun u hu => .gen lS' (by rw [← List.append_assoc]; exact List.mem_append_left _ hu)
        · exact .gen lS' (by rw [← List.append_assoc]; exact List.mem_append_right _ q)
  · rename_i hz
    cases q1 : s.1 with
    | none =>
      have e2 := none_ q1
      refine ⟨fun h q => ?_, fun r q => ?_, ?_, fun k q => ?_, fun q => (by cases q), ?_⟩
      · dsimp only at q
        cases q
        rw [up]
        exact ⟨hv, hz, sv p, sv.mono (pow_le e0), by omega⟩
      · rw [up]
        obtain ⟨a, b, c⟩ := lr r q
        exact ⟨a, b, c.mono (pow_le m2)⟩
      · rw [up]
        rw [q1] at ct
        simp at ct ⊢
        omega
      · obtain ⟨a, b⟩ := keep k fun u hu => q u (List.mem_append_left _ hu)
        exact ⟨fun h e => by dsimp only at e; cases e; exact q v (by simp), b⟩
      · show LatEq n ([v] ++ s.2) (pre ++ [v])
        rw [e2]
        refine latEq_mem (fun g hg => ?_) hl' fun g => by simp; exact Or.comm
        rcases List.mem_append.mp hg with q | q
        · simp at q; rw [q]; exact hv
        · exact hl g q
    | some h0 =>
      obtain ⟨a1, a2, a3, a4, a5⟩ := lh h0 q1
      have ei := ei_start (p := p) a1 hv a2 a4 sv (pow_le (by have := Nat.le_mul_of_pos_left (E + 3) (show 0 < pre.length by omega); omega)) (Nat.one_le_two_pow)
      have eF : 4 * 2 ^ (pre.length * (E + 3)) * 2 ^ E ≤ 2 ^ ((pre.length + 1) * (E + 3)) := by
        have : 4 * 2 ^ (pre.length * (E + 3)) * 2 ^ E = 2 ^ (2 + pre.length * (E + 3) + E) := by rw [Nat.pow_add, Nat.pow_add]
        rw [this]
        refine pow_le ?_
        rw [Nat.add_mul, Nat.one_mul]; omega
      have eo := euc_ok h0 v ei
      dsimp only
      generalize (euc p h0 v).1 = o at *
      generalize (euc p h0 v).2 = r at *
      have lN : Len n ([o] ++ (s.2 ++ [r])) := fun g hg => by
        rcases List.mem_append.mp hg with q | q
        · simp at q; rw [q]; exact eo.l1
        · rcases List.mem_append.mp q with q | q
          · exact (lr g q).1
          · simp at q; rw [q]; exact eo.l2
      refine ⟨fun h q => ?_, fun r' q => ?_, ?_, fun k q => ?_, fun q => (by cases q), ?_⟩
      · cases q
        rw [up]
        exact ⟨eo.l1, eo.nz, Nat.le_trans (eo.pv hz) (sv p), eo.s1.mono eF, by omega⟩
      · rw [up]
        rcases List.mem_append.mp q with q | q
        · obtain ⟨a, b, c⟩ := lr r' q
          exact ⟨a, b, c.mono (pow_le m2)⟩
        · simp at q
          subst q
          exact ⟨eo.l2, eo.z, eo.s2.mono (Nat.le_trans eF (pow_le m2))⟩
      · rw [up]
        rw [q1] at ct
        simp at ct ⊢
        omega
      · obtain ⟨a, b⟩ := keep k fun u hu => q u (List.mem_append_left _ hu)
        obtain ⟨c, d⟩ := eo.keep k (a h0 q1) (q v (by simp))
        refine ⟨fun h e => by cases e; exact c, fun r' hr => ?_⟩
        rcases List.mem_append.mp hr with hr | hr
        · exact b r' hr
        · simp at hr
          subst hr
          exact d
      · show LatEq n ([o] ++ (s.2 ++ [r])) (pre ++ [v])
        rw [q1] at eq lS
        have inG : ∀ g ∈ [o] ++ (s.2 ++ [r]), Lat n (pre ++ [v]) g := by
          have hh : Lat n (pre ++ [v]) h0 := ((eq h0).mp (.gen lS (by simp))).le hl' fun u hu => .gen hl' (List.mem_append_left _ hu)
          obtain ⟨c, d⟩ := eo.into _ hl' hh (.gen hl' (by simp))
          intro g hg
          rcases List.mem_append.mp hg with q | q
          · simp at q; rw [q]; exact c
          · rcases List.mem_append.mp q with q | q
            · exact ((eq g).mp (.gen lS (List.mem_append_right _ q))).le hl' fun u hu => .gen hl' (List.mem_append_left _ hu)
            · simp at q; rw [q]; exact d
        have outG : ∀ g ∈ pre ++ [v], Lat n ([o] ++ (s.2 ++ [r])) g := by
          obtain ⟨c, d⟩ := eo.back _ lN (.gen lN (by simp)) (.gen lN (by simp))
          intro g hg
          rcases List.mem_append.mp hg with q | q
          · refine ((eq g).mpr (.gen hl q)).le lN fun u hu => ?_
            rcases List.mem_append.mp hu with z | z
            · simp at z; rw [z]; exact c
            · exact .gen lN (List.mem_append_right _ (List.mem_append_left _ z))
          · simp at q; rw [q]; exact d
        exact latEq_of lN hl' inG outG
end HN

namespace HN

theorem ci_fold {n p E : Nat} : ∀ (post pre : List Vec) (s : CS), Len n pre → Len n post → (∀ v ∈ post, Sz v (2 ^ E)) → CI n p E pre s → CI n p E (pre ++ post) (post.foldl (stepCl p) s)
  | [], pre, s, _, _, _, h => by simpa using h
  | v :: post, pre, s, hl, hp, sz, h => by
    rw [List.foldl_cons]
    have hv := hp v List.mem_cons_self
    have hl' : Len n (pre ++ [v]) := fun g hg => by
      rcases List.mem_append.mp hg with q | q
      · exact hl g q
      · simp at q; rw [q]; exact hv
    have := ci_fold post (pre ++ [v]) (stepCl p s v) hl' (fun g hg => hp g (List.mem_cons_of_mem _ hg)) (fun u hu => sz u (List.mem_cons_of_mem _ hu)) (h.step hl hv (sz v List.mem_cons_self))
    rwa [List.append_assoc, List.singleton_append] at this
theorem ci_nil {n p E : Nat} : CI n p E [] (none, []) :=
  ⟨fun h q => (by cases q), fun r q => (by simp at q), rfl, fun k _ => ⟨fun h q => (by cases q), fun r q => (by simp at q)⟩, fun _ => rfl, fun w => Iff.rfl⟩
/-- a column, done -/
structure CO (n p E : Nat) (vs : List Vec) (s : CS) : Prop where
  lh : ∀ h, s.1 = some h → h.length = n ∧ 0 < ge h p ∧ (ge h p).natAbs ≤ 2 ^ E ∧ Sz h (2 ^ (vs.length * (E + 3)))
  lr : ∀ r ∈ s.2, r.length = n ∧ ge r p = 0
  sr : s.1 ≠ none → ∀ r ∈ s.2, Sz r (2 ^ (vs.length * (E + 3)))
  ct : s.2.length + (if s.1.isSome = true then 1 else 0) = vs.length
  keep : ∀ k, (∀ v ∈ vs, ge v k = 0) → (∀ h, s.1 = some h → ge h k = 0) ∧ ∀ r ∈ s.2, ge r k = 0
  none_ : s.1 = none → s.2 = vs
  eq : LatEq n (s.1.toList ++ s.2) vs
/-- rests are no greater than the last head: a second bound, by the number of vectors alone -/
structure CI2 (n p E : Nat) (pre : List Vec) (s : CS) : Prop extends CI n p E pre s where
  sr : s.1 ≠ none → ∀ r ∈ s.2, Sz r (2 ^ (pre.length * (E + 3)))
  sn : ∀ r ∈ s.2, s.1 = none → Sz r (2 ^ E)
theorem CI2.step {n p E : Nat} {pre : List Vec} {s : CS} {v : Vec} (hl : Len n pre) (hv : v.length = n) (sv : Sz v (2 ^ E)) (h : CI2 n p E pre s) : CI2 n p E (pre ++ [v]) (stepCl p s v) := by
  refine ⟨h.toCI.step hl hv sv, fun q r hr => ?_, fun r hr q => ?_⟩
  · have up : (pre ++ [v]).length = pre.length + 1 := by simp
    have m1 : pre.length * (E + 3) ≤ (pre.length + 1) * (E + 3) := Nat.mul_le_mul_right _ (by omega)
    have e0 : E ≤ (pre.length + 1) * (E + 3) := by
      have := Nat.le_mul_of_pos_left (E + 3) (show 0 < pre.length + 1 by omega); omega
    rw [up]
    unfold stepCl at q hr
    split at hr
    · rename_i hz
      rw [if_pos hz] at q
      rcases List.mem_append.mp hr with hr | hr
      · exact (h.sr q r hr).mono (pow_le m1)
      · simp at hr; subst hr; exact sv.mono (pow_le e0)
    · rename_i hz
      cases q1 : s.1 with
      | none =>
        rw [q1] at hr
        exact (h.sn r hr q1).mono (pow_le e0)
      | some h0 =>
        rw [q1] at hr
        rcases List.mem_append.mp hr with hr | hr
        · exact (h.sr (by rw [q1]; exact fun z => nomatch z) r hr).mono (pow_le m1)
        · simp at hr
          subst hr
          obtain ⟨a1, a2, a3, a4, a5⟩ := h.lh h0 q1
          have ei := ei_start (p := p) a1 hv a2 a4 sv (pow_le (by have := Nat.le_mul_of_pos_left (E + 3) (show 0 < pre.length by omega); omega)) (Nat.one_le_two_pow)
          have eF : 4 * 2 ^ (pre.length * (E + 3)) * 2 ^ E ≤ 2 ^ ((pre.length + 1) * (E + 3)) := by
            have : 4 * 2 ^ (pre.length * (E + 3)) * 2 ^ E = 2 ^ (2 + pre.length * (E + 3) + E) := by rw [Nat.pow_add, Nat.pow_add]
            rw [this]
            refine pow_le ?_
            rw [Nat.add_mul, Nat.one_mul]; omega
          exact (euc_ok h0 v ei).s2.mono eF
  · unfold stepCl at q hr
    split at hr
    · rename_i hz
      rw [if_pos hz] at q
      rcases List.mem_append.mp hr with hr | hr
      · exact h.sn r hr q
      · simp at hr; subst hr; exact sv
    · rename_i hz
      rw [if_neg hz] at q
      cases q1 : s.1 with
      | none => rw [q1] at q; cases q
      | some h0 => rw [q1] at q; cases q
theorem ci2_fold {n p E : Nat} : ∀ (post pre : List Vec) (s : CS), Len n pre → Len n post → (∀ v ∈ post, Sz v (2 ^ E)) → CI2 n p E pre s → CI2 n p E (pre ++ post) (post.foldl (stepCl p) s)
  | [], pre, s, _, _, _, h => by simpa using h
  | v :: post, pre, s, hl, hp, sz, h => by
    rw [List.foldl_cons]
    have hv := hp v List.mem_cons_self
    have hl' : Len n (pre ++ [v]) := fun g hg => by
      rcases List.mem_append.mp hg with q | q
      · exact hl g q
      · simp at q; rw [q]; exact hv
    have := ci2_fold post (pre ++ [v]) (stepCl p s v) hl' (fun g hg => hp g (List.mem_cons_of_mem _ hg)) (fun u hu => sz u (List.mem_cons_of_mem _ hu)) (h.step hl hv (sz v List.mem_cons_self))
    rwa [List.append_assoc, List.singleton_append] at this
theorem ci2_nil {n p E : Nat} : CI2 n p E [] (none, []) := ⟨ci_nil, fun q => absurd rfl q, fun r q => (by simp at q)⟩
theorem neg_neg' {v : Vec} : negV (negV v) = v := by simp [negV, Function.comp_def]
theorem clear_ok {n p E : Nat} {vs : List Vec} (hl : Len n vs) (sz : ∀ v ∈ vs, Sz v (2 ^ E)) : CO n p E vs (clearV p vs) := by
  have c := ci2_fold (p := p) vs [] (none, []) (fun g hg => by simp at hg) hl sz ci2_nil
  rw [List.nil_append] at c
  unfold clearV
  generalize vs.foldl (stepCl p) (none, []) = s at *
  have lS : Len n (s.1.toList ++ s.2) := fun g hg => by
    rcases List.mem_append.mp hg with q | q
    · exact (c.lh g (by simpa using q)).1
    · exact (c.lr g q).1
  have pl : ∀ h, (posV p h).length = h.length := fun h => by unfold posV; split; exact len_neg; rfl
  refine ⟨fun h q => ?_, fun r hr => ⟨(c.lr r hr).1, (c.lr r hr).2.1⟩, fun q r hr => c.sr (fun z => q (by simp [z])) r hr, by simpa using c.ct, fun k hk => ?_, fun q => c.none_ (by simpa using q), ?_⟩
  · obtain ⟨h0, e1, rfl⟩ := Option.map_eq_some_iff.mp q
    obtain ⟨a, b, d, e, _⟩ := c.lh h0 e1
    unfold posV
    split
    · rename_i z
      exact ⟨by rw [len_neg]; exact a, by rw [ge_neg]; omega, by rw [ge_neg, Int.natAbs_neg]; exact d, sz_neg e⟩
    · exact ⟨a, by omega, d, e⟩
  · obtain ⟨a, b⟩ := c.keep k hk
    refine ⟨fun h q => ?_, b⟩
    obtain ⟨h0, e1, rfl⟩ := Option.map_eq_some_iff.mp q
    have := a h0 e1
    unfold posV
    split
    · rw [ge_neg, this]; rfl
    · exact this
  · refine LatEq.trans ?_ c.eq
    cases q : s.1 with
    | none => intro w; exact Iff.rfl
    | some h =>
      rw [q] at lS
      show LatEq n ([posV p h] ++ s.2) ([h] ++ s.2)
      have hh : h.length = n := lS h (by simp)
      have lS' : Len n ([posV p h] ++ s.2) := fun g hg => by
        rcases List.mem_append.mp hg with z | z
        · simp at z; rw [z, pl]; exact hh
        · exact lS g (List.mem_append_right _ z)
      refine latEq_of lS' lS (fun g hg => ?_) fun g hg => ?_
      · rcases List.mem_append.mp hg with z | z
        · simp at z
          subst z
          unfold posV
          split
          · exact Lat.neg lS (.gen lS (by simp))
          · exact .gen lS (by simp)
        · exact .gen lS (List.mem_append_right _ z)
      · rcases List.mem_append.mp hg with z | z
        · simp at z
          subst z
          by_cases w : ge g p < 0
          · have e : posV p g = negV g := if_pos w
            have := Lat.neg lS' (Lat.gen (w := posV p g) lS' (by simp))
            rw [e, neg_neg'] at this
            rw [e]
            rw [e] at lS'
            exact this
          · have e : posV p g = g := if_neg w
            rw [e]
            rw [e] at lS'
            exact .gen lS' (by simp)
        · exact .gen lS' (List.mem_append_right _ z)

/-! ### all columns -/
abbrev SS := List Vec × List Vec
def redV (p : Nat) (h one : Vec) : Vec := lessV one ((ge one p).fdiv (ge h p)) h
def stepS (s : SS) (p : Nat) : SS := match (clearV p s.2).1 with
  | none => (s.1, (clearV p s.2).2)
  | some h => (s.1.map (redV p h) ++ [h], (clearV p s.2).2)
def stairsS (vs : List Vec) (n : Nat) : SS := (List.range n).foldl stepS ([], vs)
def stairsV (vs : List Vec) (n : Nat) : List Vec := (stairsS vs n).1
theorem snoc {n p : Nat} {h : Vec} (hh : Step n h p) : ∀ {F : List Vec}, Stairs n F → (∀ t ∈ F, ∀ a, Step n t a → a < p) → Stairs n (F.map (redV p h) ++ [h])
  | [], _, _ => .cons hh (fun t ht => by simp at ht) (fun t ht => by simp at ht) .nil
  | s :: F, hF, lt => by
    cases hF with
    | @cons _ _ a hs hz hr hF =>
      have ap := lt s List.mem_cons_self a hs
      have gr : ∀ (t : Vec), t.length = n → ∀ k, ge (redV p h t) k = ge t k - (ge t p).fdiv (ge h p) * ge h k := fun t ht k => ge_less (by rw [ht, hh.len]) k
      have low : ∀ (t : Vec), t.length = n → ∀ k, k < p → ge (redV p h t) k = ge t k := fun t ht k hk => by rw [gr t ht, hh.z k hk]; omega
      have len : ∀ (t : Vec), t.length = n → (redV p h t).length = n := fun t ht => by unfold redV; rw [len_less (by rw [ht, hh.len]), ht]
      have st : ∀ (t : Vec) b, t.length = n → b < p → (Step n t b ↔ Step n (redV p h t) b) := fun t b ht hb =>
        ⟨fun q => ⟨len t ht, q.lt, fun k hk => by rw [low t ht k (by omega)]; exact q.z k hk, by rw [low t ht b hb]; exact q.pos⟩, fun q => ⟨ht, q.lt, fun k hk => by rw [← low t ht k (by omega)]; exact q.z k hk, by rw [← low t ht b hb]; exact q.pos⟩⟩
      refine .cons ((st s a hs.len ap).mp hs) (fun t ht => ?_) (fun t ht b hb => ?_) (snoc hh hF fun t ht => lt t (List.mem_cons_of_mem _ ht))
      · rcases List.mem_append.mp ht with q | q
        · obtain ⟨t0, h0, rfl⟩ := List.mem_map.mp q
          obtain ⟨z1, z2⟩ := hz t0 h0
          exact ⟨len t0 z1, fun k hk => by rw [low t0 z1 k (by omega)]; exact z2 k hk⟩
        · simp at q
          subst q
          exact ⟨hh.len, fun k hk => hh.z k (by omega)⟩
      · rcases List.mem_append.mp ht with q | q
        · obtain ⟨t0, h0, rfl⟩ := List.mem_map.mp q
          have z1 := (hz t0 h0).1
          obtain ⟨b', hb'⟩ := hF.steps t0 h0
          have lb := lt t0 (List.mem_cons_of_mem _ h0) b' hb'
          have e := hb.uniq ((st t0 b' z1 lb).mp hb')
          subst e
          rw [low s hs.len b lb, low t0 z1 b lb]
          exact hr t0 h0 b hb'
        · simp at q
          subst q
          have e := hb.uniq hh
          subst e
          rw [gr s hs.len]
          have hp := hh.pos
          obtain ⟨x1, x2, _⟩ := natAbs_fmod_lt (a := ge s b) (show ge t b ≠ 0 by omega)
          have := x2 hp
          omega
/-- the sizes, column by column -/
def Eseq (m E : Nat) : Nat → Nat
  | 0 => E
  | k + 1 => (m - k) * (Eseq m E k + 3)
def Dseq (m E : Nat) : Nat → Nat
  | 0 => 0
  | k + 1 => Dseq m E k + Eseq m E (k + 1) + 1
structure SI (n m E : Nat) (vs : List Vec) (p : Nat) (s : SS) : Prop where
  ll : ∀ r ∈ s.2, r.length = n ∧ (∀ k, k < p → ge r k = 0) ∧ Sz r (2 ^ Eseq m E s.1.length)
  ct : s.2.length + s.1.length = m
  st : Stairs n s.1
  lt : ∀ t ∈ s.1, ∀ a, Step n t a → a < p
  sz : ∀ t ∈ s.1, Sz t (2 ^ Dseq m E s.1.length)
  eq : LatEq n (s.1 ++ s.2) vs
theorem SI.step {n m E : Nat} {vs : List Vec} {p : Nat} {s : SS} (hp : p < n) (hl : Len n vs) (h : SI n m E vs p s) : SI n m E vs (p + 1) (stepS s p) := by
  have lL : Len n s.2 := fun r hr => (h.ll r hr).1
  have lS : Len n (s.1 ++ s.2) := fun g hg => by
    rcases List.mem_append.mp hg with q | q
    · exact h.st.len g q
    · exact lL g q
  have c := clear_ok (p := p) lL fun v hv => (h.ll v hv).2.2
  unfold stepS
  generalize clearV p s.2 = r at *
  cases q : r.1 with
  | none =>
    have e := c.none_ q
    dsimp only
    rw [e]
    refine ⟨fun r hr => ?_, h.ct, h.st, fun t ht a ha => by have := h.lt t ht a ha; omega, h.sz, h.eq⟩
    obtain ⟨a, b, d⟩ := h.ll r hr
    refine ⟨a, fun k hk => ?_, d⟩
    by_cases z : k < p
    · exact b k z
    · have : k = p := by omega
      rw [this]; exact (c.lr r (by rw [e]; exact hr)).2
  | some hd =>
    dsimp only
    obtain ⟨h1, h2, h3, h4⟩ := c.lh hd q
    have hz : ∀ k, k < p → ge hd k = 0 := fun k hk => (c.keep k fun v hv => (h.ll v hv).2.1 k hk).1 hd q
    have hs : Step n hd p := ⟨h1, hp, hz, h2⟩
    have up : (s.1.map (redV p hd) ++ [hd]).length = s.1.length + 1 := by simp
    have ct := c.ct
    rw [q] at ct
    simp at ct
    have eE : Eseq m E (s.1.length + 1) = s.2.length * (Eseq m E s.1.length + 3) := by
      show (m - s.1.length) * (Eseq m E s.1.length + 3) = _
      congr 1
      have := h.ct; omega
    have st := snoc hs h.st h.lt
    have redlen : ∀ t ∈ s.1, (redV p hd t).length = n := fun t ht => by unfold redV; rw [len_less (by rw [h.st.len t ht, h1]), h.st.len t ht]
    refine ⟨fun r' hr => ?_, ?_, st, fun t ht a ha => ?_, fun t ht => ?_, ?_⟩
    · obtain ⟨a, b⟩ := c.lr r' hr
      refine ⟨a, fun k hk => ?_, ?_⟩
      · by_cases z : k < p
        · exact (c.keep k fun v hv => (h.ll v hv).2.1 k z).2 r' hr
        · have : k = p := by omega
          rw [this]; exact b
      · rw [up, eE]
        exact c.sr (by rw [q]; exact fun z => nomatch z) r' hr
    · show r.2.length + (s.1.map (redV p hd) ++ [hd]).length = m
      rw [up]
      have := h.ct
      omega
    · rcases List.mem_append.mp ht with z | z
      · obtain ⟨t0, h0, rfl⟩ := List.mem_map.mp z
        obtain ⟨b, hb⟩ := h.st.steps t0 h0
        have lb := h.lt t0 h0 b hb
        have : Step n (redV p hd t0) b := by
          have gr : ∀ k, k < p → ge (redV p hd t0) k = ge t0 k := fun k hk => by
            unfold redV; rw [ge_less (by rw [hb.len, h1]), hz k hk]; omega
          exact ⟨redlen t0 h0, hb.lt, fun k hk => by rw [gr k (by omega)]; exact hb.z k hk, by rw [gr b lb]; exact hb.pos⟩
        have := ha.uniq this
        omega
      · simp at z
        subst z
        have := ha.uniq hs
        omega
    · rw [up]
      have eD : Dseq m E (s.1.length + 1) = Dseq m E s.1.length + s.2.length * (Eseq m E s.1.length + 3) + 1 := by
        show Dseq m E s.1.length + Eseq m E (s.1.length + 1) + 1 = _
        rw [eE]
      rw [eD]
      rcases List.mem_append.mp ht with z | z
      · obtain ⟨t0, h0, rfl⟩ := List.mem_map.mp z
        have s0 := h.sz t0 h0
        have := sz_less (f := (ge t0 p).fdiv (ge hd p)) (by rw [h.st.len t0 h0, h1]) s0 h4
        refine this.mono ?_
        have fq : ((ge t0 p).fdiv (ge hd p)).natAbs ≤ 2 ^ Dseq m E s.1.length := by
          refine Nat.le_trans ?_ (s0 p)
          -- a quotient by a positive number
          rw [Int.fdiv_eq_ediv_of_nonneg _ (by omega)]
          exact Int.natAbs_ediv_le_natAbs _ _
        have m1 := Nat.mul_le_mul_right (2 ^ (s.2.length * (Eseq m E s.1.length + 3))) fq
        rw [← Nat.pow_add] at m1
        have m2 : 2 ^ Dseq m E s.1.length ≤ 2 ^ (Dseq m E s.1.length + s.2.length * (Eseq m E s.1.length + 3)) := pow_le (by omega)
        rw [Nat.pow_succ]
        omega
      · simp at z
        subst z
        exact h4.mono (pow_le (by omega))
    · refine LatEq.trans ?_ h.eq
      have lH : Len n ([hd] ++ r.2) := fun g hg => by
        rcases List.mem_append.mp hg with z | z
        · simp at z; rw [z]; exact h1
        · exact (c.lr g z).1
      have ceq : LatEq n ([hd] ++ r.2) s.2 := by
        have := c.eq
        rwa [q] at this
      have lN : Len n ((s.1.map (redV p hd) ++ [hd]) ++ r.2) := fun g hg => by
        rw [List.append_assoc] at hg
        rcases List.mem_append.mp hg with z | z
        · obtain ⟨t0, h0, rfl⟩ := List.mem_map.mp z
          exact redlen t0 h0
        · exact lH g z
      have rest : ∀ g ∈ [hd] ++ r.2, Lat n (s.1 ++ s.2) g := fun g hg => ((ceq g).mp (.gen lH hg)).le lS fun u hu => .gen lS (List.mem_append_right _ hu)
      refine latEq_of lN lS (fun g hg => ?_) fun g hg => ?_
      · rw [List.append_assoc] at hg
        rcases List.mem_append.mp hg with z | z
        · obtain ⟨t0, h0, rfl⟩ := List.mem_map.mp z
          exact (Lat.gen lS (List.mem_append_left _ h0)).comb lS (rest hd (by simp)) _
        · exact rest g z
      · have hh : Lat n ((s.1.map (redV p hd) ++ [hd]) ++ r.2) hd := .gen lN (by simp)
        rcases List.mem_append.mp hg with z | z
        · have a : Lat n ((s.1.map (redV p hd) ++ [hd]) ++ r.2) (redV p hd g) := .gen lN (by rw [List.append_assoc]; exact List.mem_append_left _ (List.mem_map.mpr ⟨g, z, rfl⟩))
          have := a.comb lN hh (-((ge g p).fdiv (ge hd p)))
          have gl := h.st.len g z
          have e3 : lessV (redV p hd g) (-((ge g p).fdiv (ge hd p))) hd = g := by
            have l3 := redlen g z
            refine ext (by rw [len_less (by omega), l3, gl]) fun k _ => ?_
            unfold redV at l3 ⊢
            rw [ge_less (by omega), ge_less (by omega), Int.neg_mul]; omega
          rwa [e3] at this
        · refine ((ceq g).mpr (.gen lL z)).le lN fun u hu => .gen lN ?_
          rw [List.append_assoc]
          exact List.mem_append_right _ hu
theorem si_fold {n m E : Nat} {vs : List Vec} (hl : Len n vs) : ∀ p, p ≤ n → ∀ s0, SI n m E vs 0 s0 → SI n m E vs p ((List.range p).foldl stepS s0)
  | 0, _, s0, h => h
  | p + 1, hp, s0, h => by
    rw [List.range_succ, List.foldl_append]
    exact (si_fold hl p (by omega) s0 h).step (by omega) hl
theorem si_start {n E : Nat} {vs : List Vec} (hl : Len n vs) (sz : ∀ v ∈ vs, Sz v (2 ^ E)) : SI n vs.length E vs 0 ([], vs) :=
  ⟨fun r hr => ⟨hl r hr, fun k hk => by omega, sz r hr⟩, by simp, .nil, fun t ht => by simp at ht, fun t ht => by simp at ht, fun w => Iff.rfl⟩
theorem stairs_ok {n : Nat} {vs : List Vec} (hl : Len n vs) : Stairs n (stairsV vs n) ∧ LatEq n (stairsV vs n) vs ∧ (stairsV vs n).length ≤ vs.length := by
  -- some size bounds them all
  obtain ⟨E, hE⟩ : ∃ E, ∀ v ∈ vs, Sz v (2 ^ E) := by
    have big : ∀ v : Vec, ∃ E, Sz v (2 ^ E) := fun v => by
      induction v with
      | nil => exact ⟨0, fun k => by rw [ge_ge (by simp)]; simp⟩
      | cons x v ih =>
        obtain ⟨E, h⟩ := ih
        refine ⟨E + x.natAbs, fun k => ?_⟩
        cases k with
        | zero =>
          have : ge (x :: v) 0 = x := rfl
          rw [this]
          exact Nat.le_trans (Nat.le_of_lt (Nat.lt_two_pow_self)) (pow_le (by omega))
        | succ k =>
          have : ge (x :: v) (k + 1) = ge v k := rfl
          rw [this]
          exact Nat.le_trans (h k) (pow_le (by omega))
    clear hl
    induction vs with
    | nil => exact ⟨0, fun v hv => by simp at hv⟩
    | cons v vs ih =>
      obtain ⟨E, h⟩ := ih
      obtain ⟨F, k⟩ := big v
      refine ⟨E + F, fun u hu => ?_⟩
      rcases List.mem_cons.mp hu with q | q
      · rw [q]; exact k.mono (pow_le (by omega))
      · exact (h u q).mono (pow_le (by omega))
  have s := si_fold hl n (Nat.le_refl n) _ (si_start hl hE)
  have e : (List.range n).foldl stepS ([], vs) = stairsS vs n := rfl
  rw [e] at s
  refine ⟨s.st, LatEq.trans ?_ s.eq, by have := s.ct; unfold stairsV; omega⟩
  have lL : Len n (stairsS vs n).2 := fun r hr => (s.ll r hr).1
  have lS : Len n ((stairsS vs n).1 ++ (stairsS vs n).2) := fun g hg => by
    rcases List.mem_append.mp hg with q | q
    · exact s.st.len g q
    · exact lL g q
  refine latEq_of s.st.len lS (fun g hg => .gen lS (List.mem_append_left _ hg)) fun g hg => ?_
  rcases List.mem_append.mp hg with q | q
  · exact .gen s.st.len q
  · have : g = zeroV n := ext0 (lL g q) fun k hk => (s.ll g q).2.1 k hk
    rw [this]; exact .zero
end HN

/-! HB: entries of a stairs form are small. -/
namespace HN

def scaleV (N : Int) (w : Vec) : Vec := w.map fun x => N * x
theorem len_scale {N : Int} {w : Vec} : (scaleV N w).length = w.length := by simp [scaleV]
theorem ge_scale {N : Int} {w : Vec} (k : Nat) : ge (scaleV N w) k = N * ge w k := by
  by_cases hk : k < w.length
  · rw [ge_lt (by rw [len_scale]; exact hk), ge_lt hk]; simp [scaleV]
  · rw [ge_ge (by rw [len_scale]; omega), ge_ge (by omega)]; simp
theorem Lat.scale {n : Nat} {G : List Vec} {w : Vec} (hG : Len n G) (h : Lat n G w) (N : Int) : Lat n G (scaleV N w) := by
  have := Lat.comb hG .zero h (-N)
  have hw := h.len hG
  have e : lessV (zeroV n) (-N) w = scaleV N w := by
    refine ext (by rw [len_less (by rw [len_zero, hw]), len_zero, len_scale, hw]) fun k _ => ?_
    rw [ge_less (by rw [len_zero, hw]), ge_zero, ge_scale, Int.neg_mul]; omega
  rwa [e] at this
/-- in the span with fractions -/
def Qs (n : Nat) (G : List Vec) (w : Vec) : Prop := ∃ N : Int, N ≠ 0 ∧ Lat n G (scaleV N w)
/-- v, crossed with h to have 0 at p -/
def cross (p : Nat) (h v : Vec) : Vec := lessV (scaleV (ge h p) v) (ge v p) h
theorem ge_cross {p k : Nat} {h v : Vec} (hl : h.length = v.length) : ge (cross p h v) k = ge h p * ge v k - ge v p * ge h k := by
  unfold cross
  rw [ge_less (by rw [len_scale]; omega), ge_scale]
theorem len_cross {p : Nat} {h v : Vec} (hl : h.length = v.length) : (cross p h v).length = v.length := by
  unfold cross
  rw [len_less (by rw [len_scale]; omega), len_scale]
theorem sz_cross {p : Nat} {h v : Vec} {X : Nat} (hl : h.length = v.length) (sh : Sz h (2 ^ X)) (sv : Sz v (2 ^ X)) : Sz (cross p h v) (2 ^ (2 * X + 1)) := fun k => by
  rw [ge_cross hl]
  have a := Int.natAbs_sub_le (ge h p * ge v k) (ge v p * ge h k)
  rw [Int.natAbs_mul, Int.natAbs_mul] at a
  have b := Nat.mul_le_mul (sh p) (sv k)
  have c := Nat.mul_le_mul (sv p) (sh k)
  have e : 2 ^ (2 * X + 1) = 2 ^ X * 2 ^ X + 2 ^ X * 2 ^ X := by rw [Nat.pow_succ, Nat.two_mul, Nat.pow_add]; omega
  omega
def Xs (E : Nat) : Nat → Nat
  | 0 => E
  | k + 1 => 2 * Xs E k + 1
theorem Xs_le {E : Nat} : ∀ {a b : Nat}, a ≤ b → Xs E a ≤ Xs E b := by
  intro a b h
  induction b with
  | zero => have : a = 0 := by omega
            rw [this]; exact Nat.le_refl _
  | succ b ih =>
    by_cases z : a = b + 1
    · rw [z]; exact Nat.le_refl _
    · have := ih (by omega)
      show Xs E a ≤ 2 * Xs E b + 1
      omega
/-- vectors with steps that go up -/
inductive Ech (n : Nat) : List (Vec × Nat) → Prop
  | nil : Ech n []
  | cons {u : Vec} {a : Nat} {U : List (Vec × Nat)} (hl : u.length = n) (an : a < n) (hz : ∀ k, k < a → ge u k = 0) (hp : ge u a ≠ 0) (ht : ∀ t ∈ U, t.1.length = n ∧ ∀ k, k ≤ a → ge t.1 k = 0) (h : Ech n U) : Ech n ((u, a) :: U)
theorem Ech.len {n : Nat} {U : List (Vec × Nat)} (h : Ech n U) : Len n (U.map (·.1)) := by
  cases h with
  | nil => exact fun g hg => by simp at hg
  | cons hl an hz hp ht h =>
    intro g hg
    rw [List.map_cons] at hg
    rcases List.mem_cons.mp hg with q | q
    · rw [q]; exact hl
    · obtain ⟨t, ht', rfl⟩ := List.mem_map.mp q
      exact (ht t ht').1
theorem lat_nil {n : Nat} {v : Vec} (h : Lat n [] v) : v = zeroV n := by
  cases h with
  | zero => rfl
  | step c h hg => simp at hg
/-- an element of the span is small if it is so at the steps -/
theorem Ech.small {n X : Nat} {U : List (Vec × Nat)} (h : Ech n U) (sU : ∀ t ∈ U, Sz t.1 (2 ^ X)) : ∀ {w : Vec} {P : Nat}, w.length = n → Qs n (U.map (·.1)) w → (∀ t ∈ U, (ge w t.2).natAbs ≤ P) → Sz w (P * 2 ^ ((X + 2) * U.length)) := by
  induction h with
  | nil =>
    intro w P hw ⟨N, hN, q⟩ _ k
    have : ge (scaleV N w) k = 0 := by
      rw [lat_nil q]; exact ge_zero
    rw [ge_scale] at this
    rcases Int.mul_eq_zero.mp this with z | z
    · exact absurd z hN
    · rw [z]; simp
  | @cons u a U hl an hz hp ht h ih =>
    intro w P hw ⟨N, hN, q⟩ hP k
    have lU := h.len
    have su := sU (u, a) List.mem_cons_self
    have wa := hP (u, a) List.mem_cons_self
    have hul : u.length = w.length := by rw [hl, hw]
    -- crossed with u
    have c1 : Qs n (U.map (·.1)) (cross a u w) := by
      refine ⟨N, hN, ?_⟩
      have lA : Len n (u :: U.map (·.1)) := fun g hg => by rcases List.mem_cons.mp hg with z | z; rw [z]; exact hl; exact lU g z
      have q' : Lat n (u :: U.map (·.1)) (scaleV N w) := q
      have q2 : Lat n (u :: U.map (·.1)) (scaleV N (cross a u w)) := by
        have := (q'.scale lA (ge u a)).comb lA (Lat.gen lA List.mem_cons_self) (N * ge w a)
        have e : lessV (scaleV (ge u a) (scaleV N w)) (N * ge w a) u = scaleV N (cross a u w) := by
          refine ext (by rw [len_less (by rw [len_scale, len_scale, hw, hl]), len_scale, len_scale, len_scale, len_cross hul]) fun k _ => ?_
          rw [ge_less (by rw [len_scale, len_scale, hw, hl]), ge_scale, ge_scale, ge_scale, ge_cross hul, Int.mul_sub]
          rw [Int.mul_left_comm, Int.mul_assoc]
        rwa [e] at this
      obtain ⟨c, w', h1, h2⟩ := (Lat.cons_iff hl lU).mp q2
      have z0 : ge (scaleV N (cross a u w)) a = 0 := by
        rw [ge_scale, ge_cross hul]
        have : ge u a * ge w a - ge w a * ge u a = 0 := by rw [Int.mul_comm]; omega
        rw [this]; simp
      have w0 : ge w' a = 0 := h1.zeroAt lU fun g hg => by
        obtain ⟨t, ht', rfl⟩ := List.mem_map.mp hg
        exact (ht t ht').2 a (Nat.le_refl _)
      have lw := h1.len lU
      rw [h2, ge_less (by rw [lw, hl]), w0] at z0
      have c0 : c = 0 := by
        rcases Int.mul_eq_zero.mp (show c * ge u a = 0 by omega) with z | z
        · exact z
        · exact absurd z hp
      have e2 : lessV w' 0 u = w' := ext (len_less (by rw [lw, hl])) fun k _ => by rw [ge_less (by rw [lw, hl])]; omega
      rw [h2, c0, e2]
      exact h1
    have b1 : ∀ t ∈ U, (ge (cross a u w) t.2).natAbs ≤ P * 2 ^ (X + 1) := fun t ht' => by
      rw [ge_cross hul]
      have x := Int.natAbs_sub_le (ge u a * ge w t.2) (ge w a * ge u t.2)
      rw [Int.natAbs_mul, Int.natAbs_mul] at x
      have y := Nat.mul_le_mul (su a) (hP t (List.mem_cons_of_mem _ ht'))
      have z := Nat.mul_le_mul wa (su t.2)
      have e : P * 2 ^ (X + 1) = 2 ^ X * P + P * 2 ^ X := by rw [Nat.pow_succ, ← Nat.mul_assoc, Nat.mul_comm (2 ^ X) P]; omega
      dsimp only at y z
      omega
    have r := ih (fun t ht' => sU t (List.mem_cons_of_mem _ ht')) (by rw [len_cross hul, hw]) c1 b1 k
    rw [ge_cross hul] at r
    have ua : 1 ≤ (ge u a).natAbs := by omega
    have x1 : (ge u a * ge w k).natAbs ≤ (ge u a * ge w k - ge w a * ge u k).natAbs + (ge w a * ge u k).natAbs := by omega
    rw [Int.natAbs_mul, Int.natAbs_mul] at x1
    have x2 : (ge w k).natAbs ≤ (ge u a).natAbs * (ge w k).natAbs := Nat.le_mul_of_pos_left _ ua
    have x3 := Nat.mul_le_mul wa (su k)
    dsimp only at x3
    have e1 : (X + 2) * (U.length + 1) = (X + 2) + (X + 2) * U.length := by rw [Nat.mul_succ]; omega
    rw [List.length_cons, e1, Nat.pow_add]
    have e2 : P * 2 ^ (X + 1) * 2 ^ ((X + 2) * U.length) = 2 * (P * 2 ^ X * 2 ^ ((X + 2) * U.length)) := by
      rw [Nat.pow_succ, ← Nat.mul_assoc P]
      rw [Nat.mul_comm (P * 2 ^ X) 2, Nat.mul_assoc]
    have e3 : P * (2 ^ (X + 2) * 2 ^ ((X + 2) * U.length)) = 4 * (P * 2 ^ X * 2 ^ ((X + 2) * U.length)) := by
      rw [Nat.pow_add 2 X 2, ← Nat.mul_assoc P, ← Nat.mul_assoc P, Nat.mul_comm (P * 2 ^ X) (2 ^ 2), Nat.mul_assoc]
    have e4 : P * 2 ^ X ≤ P * 2 ^ X * 2 ^ ((X + 2) * U.length) := Nat.le_mul_of_pos_right _ (Nat.two_pow_pos _)
    rw [e3]
    rw [e2] at r
    omega

/-! ### such vectors are there -/
structure XI (n E : Nat) (vs : List Vec) (p : Nat) (U : List (Vec × Nat)) (R : List Vec) : Prop where
  ll : ∀ r ∈ R, r.length = n ∧ (∀ k, k < p → ge r k = 0) ∧ Sz r (2 ^ Xs E U.length) ∧ Lat n vs r
  uu : ∀ t ∈ U, t.1.length = n ∧ t.2 < p ∧ (∀ k, k < t.2 → ge t.1 k = 0) ∧ ge t.1 t.2 ≠ 0 ∧ Sz t.1 (2 ^ Xs E (U.length - 1)) ∧ Lat n vs t.1
  ech : ∀ V, Ech n V → (∀ t ∈ V, ∀ k, k < p → ge t.1 k = 0) → Ech n (U ++ V)
  full : ∀ w, Lat n vs w → (∀ k, k < p → ge w k = 0) → Qs n R w
  steps : ∀ w a, Lat n vs w → a < p → (∀ k, k < a → ge w k = 0) → ge w a ≠ 0 → ∃ t ∈ U, t.2 = a
theorem first_at {p : Nat} : ∀ R : List Vec, (∀ r ∈ R, ge r p = 0) ∨ ∃ A h B, R = A ++ h :: B ∧ ge h p ≠ 0
  | [] => .inl fun r hr => by simp at hr
  | x :: R => by
    by_cases z : ge x p = 0
    · rcases first_at (p := p) R with h | ⟨A, h, B, e, k⟩
      · exact .inl fun r hr => by rcases List.mem_cons.mp hr with q | q; rw [q]; exact z; exact h r q
      · exact .inr ⟨x :: A, h, B, by rw [e]; rfl, k⟩
    · exact .inr ⟨[], x, R, rfl, z⟩
theorem XI.step {n E p : Nat} {vs R : List Vec} {U : List (Vec × Nat)} (hp : p < n) (hl : Len n vs) (h : XI n E vs p U R) : ∃ U' R', XI n E vs (p + 1) U' R' ∧ R'.length + U'.length ≤ R.length + U.length := by
  have lR : Len n R := fun r hr => (h.ll r hr).1
  rcases first_at (p := p) R with z | ⟨A, hd, B, e, z⟩
  · refine ⟨U, R, ⟨fun r hr => ?_, fun t ht => ?_, fun V hV hz => h.ech V hV fun t ht k hk => hz t ht k (by omega), fun w q hz => h.full w q fun k hk => hz k (by omega), fun w a q ha hz nz => ?_⟩, Nat.le_refl _⟩
    · obtain ⟨a, b, c, d⟩ := h.ll r hr
      refine ⟨a, fun k hk => ?_, c, d⟩
      by_cases y : k < p
      · exact b k y
      · have : k = p := by omega
        rw [this]; exact z r hr
    · obtain ⟨a, b, c⟩ := h.uu t ht
      exact ⟨a, by omega, c⟩
    · by_cases y : a < p
      · exact h.steps w a q y hz nz
      · exfalso
        have : a = p := by omega
        subst this
        obtain ⟨N, hN, q2⟩ := h.full w q hz
        have := q2.zeroAt lR (k := a) z
        rw [ge_scale] at this
        rcases Int.mul_eq_zero.mp this with y | y
        · exact hN y
        · exact nz y
  · have hdR : hd ∈ R := by rw [e]; simp
    obtain ⟨h1, h2, h3, h4⟩ := h.ll hd hdR
    have sub : ∀ r ∈ A ++ B, r ∈ R := fun r hr => by
      rw [e]
      rcases List.mem_append.mp hr with q | q
      · exact List.mem_append_left _ q
      · exact List.mem_append_right _ (List.mem_cons_of_mem _ q)
    have cl : ∀ r ∈ A ++ B, hd.length = r.length := fun r hr => by rw [h1, (h.ll r (sub r hr)).1]
    have lR' : Len n ((A ++ B).map (cross p hd)) := fun g hg => by
      obtain ⟨r, hr, rfl⟩ := List.mem_map.mp hg
      rw [len_cross (cl r hr)]; exact (h.ll r (sub r hr)).1
    have up : (U ++ [(hd, p)]).length = U.length + 1 := by simp
    refine ⟨U ++ [(hd, p)], (A ++ B).map (cross p hd), ⟨fun r' hr => ?_, fun t ht => ?_, fun V hV hz => ?_, fun w q hz => ?_, fun w a q ha hz nz => ?_⟩, ?_⟩
    · obtain ⟨r, hr2, rfl⟩ := List.mem_map.mp hr
      clear hr
      have hr := hr2
      obtain ⟨a, b, c, d⟩ := h.ll r (sub r hr)
      refine ⟨by rw [len_cross (cl r hr)]; exact a, fun k hk => ?_, ?_, ?_⟩
      · rw [ge_cross (cl r hr)]
        by_cases y : k < p
        · rw [b k y, h2 k y]; omega
        · have : k = p := by omega
          rw [this, Int.mul_comm]; omega
      · rw [up]; exact sz_cross (cl r hr) h3 c
      · exact (d.scale hl _).comb hl h4 _
    · rw [up]
      rcases List.mem_append.mp ht with q | q
      · obtain ⟨a, b, c, d, f, g⟩ := h.uu t q
        exact ⟨a, by omega, c, d, f.mono (pow_le (Xs_le (by omega))), g⟩
      · simp at q
        subst q
        exact ⟨h1, by show p < p + 1; omega, h2, z, h3, h4⟩
    · rw [List.append_assoc]
      refine h.ech _ (.cons h1 hp h2 z (fun t ht => ?_) hV) fun t ht k hk => ?_
      · have : t.1.length = n := hV.len t.1 (List.mem_map.mpr ⟨t, ht, rfl⟩)
        exact ⟨this, fun k hk => hz t ht k (by omega)⟩
      · rcases List.mem_cons.mp ht with q | q
        · rw [q]; exact h2 k hk
        · exact hz t q k (by omega)
    · -- completeness
      obtain ⟨N, hN, q2⟩ := h.full w q fun k hk => hz k (by omega)
      have hw := q.len hl
      refine ⟨ge hd p * N, Int.mul_ne_zero z hN, ?_⟩
      have key : ∀ x, Lat n R x → Lat n (hd :: (A ++ B).map (cross p hd)) (scaleV (ge hd p) x) ∧ Lat n ((A ++ B).map (cross p hd)) (cross p hd x) := by
        intro x hx
        have lA : Len n (hd :: (A ++ B).map (cross p hd)) := fun g hg => by rcases List.mem_cons.mp hg with y | y; rw [y]; exact h1; exact lR' g y
        have c2 : Lat n ((A ++ B).map (cross p hd)) (cross p hd x) := by
          induction hx with
          | zero =>
            have : cross p hd (zeroV n) = zeroV n := ext0 (by rw [len_cross (by rw [h1, len_zero]), len_zero]) fun k _ => by rw [ge_cross (by rw [h1, len_zero]), ge_zero, ge_zero]; omega
            rw [this]; exact .zero
          | @step x g c hx hg ih =>
            have lx := hx.len lR
            have lg := lR g hg
            have e3 : cross p hd (lessV x c g) = lessV (cross p hd x) c (cross p hd g) := by
              have l1 : hd.length = (lessV x c g).length := by rw [len_less (by omega), lx, h1]
              have l2 : (cross p hd x).length = (cross p hd g).length := by rw [len_cross (by omega), len_cross (by omega)]; omega
              refine ext (by rw [len_cross l1, len_less l2, len_cross (by omega), len_less (by omega)]) fun k _ => ?_
              rw [ge_cross l1, ge_less l2, ge_cross (by omega), ge_cross (by omega), ge_less (by omega), ge_less (by omega), Int.mul_sub, Int.sub_mul, Int.mul_sub, Int.mul_left_comm, Int.mul_assoc]
              omega
            rw [e3]
            rw [e] at hg
            rcases List.mem_append.mp hg with y | y
            · exact .step c ih (List.mem_map.mpr ⟨g, List.mem_append_left _ y, rfl⟩)
            · rcases List.mem_cons.mp y with y | y
              · subst y
                have z0 : cross p g g = zeroV n := ext0 (by rw [len_cross rfl, lg]) fun k _ => by rw [ge_cross rfl, Int.mul_comm]; omega
                rw [z0]
                have lc : (cross p g x).length = n := by rw [len_cross (by omega), lx]
                have : lessV (cross p g x) c (zeroV n) = cross p g x := ext (len_less (by rw [lc, len_zero])) fun k _ => by rw [ge_less (by rw [lc, len_zero]), ge_zero]; omega
                rw [this]; exact ih
              · exact .step c ih (List.mem_map.mpr ⟨g, List.mem_append_right _ y, rfl⟩)
        refine ⟨?_, c2⟩
        have lx := hx.len lR
        have := (c2.le lA fun g hg => .gen lA (List.mem_cons_of_mem _ hg)).comb lA (Lat.gen lA List.mem_cons_self) (-(ge x p))
        have e4 : lessV (cross p hd x) (-(ge x p)) hd = scaleV (ge hd p) x := by
          refine ext (by rw [len_less (by rw [len_cross (by omega)]; omega), len_cross (by omega), len_scale]) fun k _ => ?_
          rw [ge_less (by rw [len_cross (by omega)]; omega), ge_cross (by omega), ge_scale, Int.neg_mul]; omega
        rwa [e4] at this
      have := (key _ q2).2
      have e5 : cross p hd (scaleV N w) = scaleV (ge hd p * N) w := by
        have l1 : hd.length = (scaleV N w).length := by rw [len_scale, h1, hw]
        refine ext (by rw [len_cross l1, len_scale, len_scale]) fun k _ => ?_
        rw [ge_cross l1, ge_scale, ge_scale, ge_scale, hz p (by omega), Int.mul_zero, Int.zero_mul, Int.sub_zero, Int.mul_assoc]
      rwa [e5] at this
    · by_cases y : a < p
      · obtain ⟨t, ht, e2⟩ := h.steps w a q y hz nz
        exact ⟨t, List.mem_append_left _ ht, e2⟩
      · exact ⟨(hd, p), by simp, by show p = a; omega⟩
    · rw [up, List.length_map, List.length_append, e, List.length_append, List.length_cons]; omega
theorem xi_ex {n E : Nat} {vs : List Vec} (hl : Len n vs) (sz : ∀ v ∈ vs, Sz v (2 ^ E)) : ∀ p, p ≤ n → ∃ U R, XI n E vs p U R ∧ R.length + U.length ≤ vs.length
  | 0, _ => ⟨[], vs, ⟨fun r hr => ⟨hl r hr, fun k hk => by omega, sz r hr, .gen hl hr⟩, fun t ht => by simp at ht, fun V hV _ => hV, fun w q _ => ⟨1, by decide, by
      have : scaleV 1 w = w := by simp [scaleV]
      rw [this]; exact q⟩, fun w a _ ha => by omega⟩, by simp⟩
  | p + 1, hp => by
    obtain ⟨U, R, h, hc⟩ := xi_ex hl sz p (by omega)
    obtain ⟨U', R', h', hc'⟩ := h.step (by omega) hl
    exact ⟨U', R', h', by omega⟩
/-- the bound -/
theorem Stairs.bound {n E : Nat} {vs S : List Vec} (hl : Len n vs) (sz : ∀ v ∈ vs, Sz v (2 ^ E)) (hS : Stairs n S) (e : LatEq n S vs) : ∀ t ∈ S, Sz t (2 ^ (Xs E (vs.length - 1) + (Xs E (vs.length - 1) + 2) * vs.length)) := by
  obtain ⟨U, R, h, hc⟩ := xi_ex hl sz n (Nat.le_refl n)
  have ech : Ech n U := by
    have := h.ech [] .nil fun t ht => by simp at ht
    simpa using this
  have ul : U.length ≤ vs.length := by omega
  generalize hX : Xs E (vs.length - 1) = X
  have sU : ∀ t ∈ U, Sz t.1 (2 ^ X) := fun t ht => (h.uu t ht).2.2.2.2.1.mono (pow_le (by rw [← hX]; exact Xs_le (by omega)))
  have lS := hS.len
  -- each element of the lattice is in the span of U
  have span : ∀ w, Lat n vs w → Qs n (U.map (·.1)) w := by
    -- by the number of columns that are 0
    have key : ∀ (d : Nat) (w : Vec), Lat n vs w → (∀ k, k < n - d → ge w k = 0) → Qs n (U.map (·.1)) w := by
      intro d
      induction d with
      | zero =>
        intro w q hz
        refine ⟨1, by decide, ?_⟩
        have : scaleV 1 w = zeroV n := ext0 (by rw [len_scale]; exact q.len hl) fun k hk => by rw [ge_scale, hz k (by omega)]; rfl
        rw [this]; exact .zero
      | succ d ih =>
        intro w q hz
        by_cases y : n ≤ d
        · exact ih w q fun k hk => by omega
        · by_cases z : ge w (n - (d + 1)) = 0
          · refine ih w q fun k hk => ?_
            by_cases y2 : k < n - (d + 1)
            · exact hz k y2
            · have : k = n - (d + 1) := by omega
              rw [this]; exact z
          · obtain ⟨t, ht, e2⟩ := h.steps w (n - (d + 1)) q (by omega) hz z
            obtain ⟨u1, u2, u3, u4, u5, u6⟩ := h.uu t ht
            rw [e2] at u2 u3 u4
            have hw := q.len hl
            have ll : t.1.length = w.length := by rw [u1, hw]
            have lU := ech.len
            obtain ⟨N, hN, q2⟩ := ih (cross (n - (d + 1)) t.1 w) ((q.scale hl _).comb hl u6 _) fun k hk => by
              rw [ge_cross ll]
              by_cases y2 : k < n - (d + 1)
              · rw [hz k y2, u3 k y2]; omega
              · have : k = n - (d + 1) := by omega
                rw [this, Int.mul_comm]; omega
            refine ⟨N * ge t.1 (n - (d + 1)), Int.mul_ne_zero hN u4, ?_⟩
            have := q2.comb lU (Lat.gen (w := t.1) lU (List.mem_map.mpr ⟨t, ht, rfl⟩)) (-(N * ge w (n - (d + 1))))
            have e3 : lessV (scaleV N (cross (n - (d + 1)) t.1 w)) (-(N * ge w (n - (d + 1)))) t.1 = scaleV (N * ge t.1 (n - (d + 1))) w := by
              have l1 : (scaleV N (cross (n - (d + 1)) t.1 w)).length = t.1.length := by rw [len_scale, len_cross ll]; omega
              refine ext (by rw [len_less l1, len_scale, len_scale, len_cross ll]) fun k _ => ?_
              rw [ge_less l1, ge_scale, ge_scale, ge_cross ll, Int.neg_mul, Int.mul_sub, Int.mul_assoc, Int.mul_assoc]; omega
            rwa [e3] at this
    exact fun w q => key n w q fun k hk => by omega
  -- heads are small
  have heads : ∀ t ∈ S, ∀ a, Step n t a → ge t a ≤ 2 ^ X := by
    intro t ht a ha
    obtain ⟨u, hu, e2⟩ := h.steps t a ((e t).mp (.gen lS ht)) ha.lt ha.z (by have := ha.pos; omega)
    obtain ⟨u1, u2, u3, u4, u5, u6⟩ := h.uu u hu
    rw [e2] at u3 u4
    have q := (e u.1).mpr u6
    -- u is a sum of those of S; t's entry divides its own at a
    have dv : ∀ {S : List Vec}, Stairs n S → t ∈ S → ∀ w, Lat n S w → (∀ k, k < a → ge w k = 0) → ge t a ∣ ge w a := by
      intro S hS
      induction hS with
      | nil => intro ht; simp at ht
      | @cons s S b hs hz hr hS ih =>
        intro ht w q hz0
        obtain ⟨c, w', q1, e3⟩ := (Lat.cons_iff hs.len hS.len).mp q
        have lw := q1.len hS.len
        have w0 : ∀ k, k ≤ b → ge w' k = 0 := fun k hk => q1.zeroAt hS.len fun g hg => (hz g hg).2 k hk
        have gw : ∀ k, ge w k = ge w' k - c * ge s k := fun k => by rw [e3, ge_less (by rw [lw, hs.len])]
        rcases List.mem_cons.mp ht with y | y
        · subst y
          have := ha.uniq hs
          subst this
          rw [gw, w0 a (Nat.le_refl _)]
          exact ⟨-c, by rw [Int.mul_neg, Int.mul_comm]; omega⟩
        · have ab : b < a := by
            by_cases y2 : b < a
            · exact y2
            · have := (hz t y).2 a (by omega)
              have := ha.pos
              omega
          have c0 : c = 0 := by
            have := gw b
            rw [hz0 b ab, w0 b (Nat.le_refl _)] at this
            have hp := hs.pos
            rcases Int.mul_eq_zero.mp (show c * ge s b = 0 by omega) with z | z
            · exact z
            · omega
          have e4 : ∀ k, ge w k = ge w' k := fun k => by rw [gw, c0]; omega
          rw [e4]
          exact ih y w' q1 fun k hk => by rw [← e4]; exact hz0 k hk
    have d := dv hS ht u.1 q u3
    have s1 := sU u hu a
    have := Int.le_natAbs (a := ge u.1 a)
    have d2 : (ge t a).natAbs ∣ (ge u.1 a).natAbs := Int.natAbs_dvd_natAbs.mpr d
    have := Nat.le_of_dvd (by omega) d2
    have := ha.pos
    have e5 : ((2 ^ X : Nat) : Int) = (2 : Int) ^ X := by simp
    omega
  intro t ht
  have q := (e t).mp (.gen lS ht)
  have at_ : ∀ u ∈ U, (ge t u.2).natAbs ≤ 2 ^ X := by
    intro u hu
    obtain ⟨u1, u2, u3, u4, u5, u6⟩ := h.uu u hu
    -- u's step is a step of S
    have st : ∃ s ∈ S, Step n s u.2 := by
      have qS := (e u.1).mpr u6
      have key : ∀ {S : List Vec}, Stairs n S → ∀ w a, Lat n S w → a < n → (∀ k, k < a → ge w k = 0) → ge w a ≠ 0 → ∃ s ∈ S, Step n s a := by
        intro S hS
        induction hS with
        | nil =>
          intro w a q _ _ nz
          cases q with
          | zero => exact absurd ge_zero nz
          | step c h hg => simp at hg
        | @cons s S b hs hz hr hS ih =>
          intro w a q an hz0 nz
          obtain ⟨c, w', q1, e3⟩ := (Lat.cons_iff hs.len hS.len).mp q
          have lw := q1.len hS.len
          have w0 : ∀ k, k ≤ b → ge w' k = 0 := fun k hk => q1.zeroAt hS.len fun g hg => (hz g hg).2 k hk
          have gw : ∀ k, ge w k = ge w' k - c * ge s k := fun k => by rw [e3, ge_less (by rw [lw, hs.len])]
          by_cases y : a = b
          · subst y; exact ⟨s, List.mem_cons_self, hs⟩
          · by_cases y2 : a < b
            · exfalso
              apply nz
              rw [gw, w0 a (by omega), hs.z a y2]; omega
            · have c0 : c = 0 := by
                have := gw b
                rw [hz0 b (by omega), w0 b (Nat.le_refl _)] at this
                have hp := hs.pos
                rcases Int.mul_eq_zero.mp (show c * ge s b = 0 by omega) with z | z
                · exact z
                · omega
              have e4 : ∀ k, ge w k = ge w' k := fun k => by rw [gw, c0]; omega
              obtain ⟨s2, h2, h3⟩ := ih w' a q1 an (fun k hk => by rw [← e4]; exact hz0 k hk) (by rw [← e4]; exact nz)
              exact ⟨s2, List.mem_cons_of_mem _ h2, h3⟩
      exact key hS u.1 u.2 qS (by omega) u3 u4
    obtain ⟨s, hs, ss⟩ := st
    have hb := heads s hs u.2 ss
    have e5 : ((2 ^ X : Nat) : Int) = (2 : Int) ^ X := by simp
    -- t's entry there is from 0 to less, or 0, or the head itself
    have low : 0 ≤ ge t u.2 ∧ ge t u.2 ≤ ge s u.2 := by
      have key : ∀ {S : List Vec}, Stairs n S → t ∈ S → s ∈ S → 0 ≤ ge t u.2 ∧ ge t u.2 ≤ ge s u.2 := by
        intro S hS
        induction hS with
        | nil => intro ht; simp at ht
        | @cons x S b hx hz hr hS ih =>
          intro ht hs2
          rcases List.mem_cons.mp ht with y | y
          · subst y
            rcases List.mem_cons.mp hs2 with y | y
            · subst y
              have := ss.pos
              omega
            · have := hr s y u.2 ss
              omega
          · rcases List.mem_cons.mp hs2 with y2 | y2
            · subst y2
              have := ss.uniq hx
              have z := (hz t y).2 u.2 (by omega)
              have := ss.pos
              omega
            · exact ih y y2
      exact key hS ht hs
    omega
  have r := ech.small sU (lS t ht) (span t q) at_
  refine r.mono ?_
  rw [← Nat.pow_add]
  exact pow_le (Nat.add_le_add_left (Nat.mul_le_mul_left _ ul) _)
end HN

/-! CM: amounts that coins pay, plain. -/
namespace CM

/-- a list without repetitions in a range -/
theorem nodup_len : ∀ (n : Nat) (lo : Int) (l : List Int), l.Nodup → (∀ x ∈ l, lo ≤ x ∧ x < lo + n) → l.length ≤ n
  | 0, lo, l, _, h => by
    cases l with
    | nil => simp
    | cons x l => have := h x List.mem_cons_self; omega
  | n + 1, lo, l, hn, h => by
    by_cases q : lo + n ∈ l
    · have h1 := nodup_len n lo (l.erase (lo + n)) (hn.erase _) fun x hx => by
        have hx' := (hn.mem_erase_iff).mp hx
        have := h x hx'.2
        have := hx'.1
        omega
      rw [List.length_erase_of_mem q] at h1
      omega
    · have := nodup_len n lo l hn fun x hx => by
        have h2 := h x hx
        have : x ≠ lo + n := fun z => q (z ▸ hx)
        omega
      omega

inductive Pay (c : List Int) : Int → Prop
  | zero : Pay c 0
  | add {n x : Int} (h : Pay c n) (hx : x ∈ c) : Pay c (n + x)
theorem Pay.sum {c l : List Int} (h : ∀ x ∈ l, x ∈ c) : Pay c l.sum := by
  induction l with
  | nil => exact .zero
  | cons x l ih =>
    rw [List.sum_cons, Int.add_comm]
    exact .add (ih fun y hy => h y (List.mem_cons_of_mem _ hy)) (h x List.mem_cons_self)
theorem Pay.list {c : List Int} {n : Int} (h : Pay c n) : ∃ l : List Int, (∀ x ∈ l, x ∈ c) ∧ l.sum = n := by
  induction h with
  | zero => exact ⟨[], fun _ h => (by simp at h), rfl⟩
  | add h hx ih =>
    obtain ⟨l, h1, h2⟩ := ih
    refine ⟨_ :: l, fun y hy => ?_, by rw [List.sum_cons, h2, Int.add_comm]⟩
    rcases List.mem_cons.mp hy with h | h
    · subst h; exact hx
    · exact h1 y h
theorem Pay.plus {c : List Int} {n m : Int} (h : Pay c n) (k : Pay c m) : Pay c (n + m) := by
  induction k with
  | zero => simpa using h
  | add k hx ih => rw [← Int.add_assoc]; exact .add ih hx
theorem Pay.nonneg {c : List Int} (hc : ∀ x ∈ c, 1 ≤ x) {n : Int} (h : Pay c n) : 0 ≤ n := by
  induction h with
  | zero => omega
  | add h hx ih => have := hc _ hx; omega
theorem Pay.times {c : List Int} {n : Int} (h : Pay c n) : ∀ k : Nat, Pay c (k * n)
  | 0 => by simp; exact .zero
  | k + 1 => by
    have e : ((k + 1 : Nat) : Int) * n = k * n + n := by rw [Int.natCast_add, Int.add_mul]; simp
    rw [e]; exact (h.times k).plus h
theorem Pay.mono {c d : List Int} (h : ∀ x ∈ c, x ∈ d) {n : Int} (p : Pay c n) : Pay d n := by
  induction p with
  | zero => exact .zero
  | add _ hx ih => exact .add ih (h _ hx)

/-! ### the common divisor -/
def gcdL (c : List Int) : Int := c.foldl (fun g x => ((Int.gcd g x : Nat) : Int)) 0
theorem gcd_fold : ∀ (c : List Int) (g : Int), (c.foldl (fun g x => ((Int.gcd g x : Nat) : Int)) g) ∣ g ∧ ∀ x ∈ c, (c.foldl (fun g x => ((Int.gcd g x : Nat) : Int)) g) ∣ x
  | [], g => ⟨by simp, fun x hx => by simp at hx⟩
  | y :: c, g => by
    obtain ⟨h1, h2⟩ := gcd_fold c ((Int.gcd g y : Nat) : Int)
    rw [List.foldl_cons]
    refine ⟨Int.dvd_trans h1 (Int.gcd_dvd_left ..), fun x hx => ?_⟩
    rcases List.mem_cons.mp hx with h | h
    · subst h; exact Int.dvd_trans h1 (Int.gcd_dvd_right ..)
    · exact h2 x h
theorem gcdL_dvd {c : List Int} {x : Int} (h : x ∈ c) : gcdL c ∣ x := (gcd_fold c 0).2 x h
theorem gcd_nonneg : ∀ (c : List Int) (g : Int), 0 ≤ g → 0 ≤ (c.foldl (fun g x => ((Int.gcd g x : Nat) : Int)) g)
  | [], g, h => h
  | y :: c, g, h => gcd_nonneg c _ (Int.natCast_nonneg _)
theorem gcdL_pos {c : List Int} {x : Int} (h : x ∈ c) (hx : 1 ≤ x) : 1 ≤ gcdL c := by
  have h1 := gcd_nonneg c 0 (by omega)
  have h2 := gcdL_dvd h
  have : gcdL c ≠ 0 := fun z => by rw [z] at h2; have := Int.zero_dvd.mp h2; omega
  unfold gcdL at *
  omega
theorem Pay.dvd {c : List Int} {n : Int} (h : Pay c n) : gcdL c ∣ n := by
  induction h with
  | zero => exact Int.dvd_zero _
  | add _ hx ih => exact Int.dvd_add ih (gcdL_dvd hx)
/-- a set of ints closed under sums and opposites contains common divisors -/
theorem closed_gcd {S : Int → Prop} (h0 : S 0) (ha : ∀ a b, S a → S b → S (a + b)) (hn : ∀ a, S a → S (-a)) : ∀ (m n : Nat), S m → S n → S (Nat.gcd m n : Nat) := by
  have hmul : ∀ (k : Nat) a, S a → S (k * a) := by
    intro k a h
    induction k with
    | zero => simpa using h0
    | succ k ih =>
      have e : ((k + 1 : Nat) : Int) * a = k * a + a := by rw [Int.natCast_add, Int.add_mul]; simp
      rw [e]; exact ha _ _ ih h
  intro m n
  induction m, n using Nat.gcd.induction with
  | H0 n => intro _ h; simpa using h
  | H1 m n hm ih =>
    intro h1 h2
    rw [Nat.gcd_rec]
    refine ih ?_ h1
    have e : ((n % m : Nat) : Int) = n + -(((n / m : Nat) : Int) * m) := by
      have := Nat.mod_add_div n m
      have e2 : ((m * (n / m) : Nat) : Int) = ((n / m : Nat) : Int) * m := by rw [Int.natCast_mul, Int.mul_comm]
      omega
    rw [e]
    exact ha _ _ h2 (hn _ (hmul _ _ h1))
theorem closed_fold {S : Int → Prop} (h0 : S 0) (ha : ∀ a b, S a → S b → S (a + b)) (hn : ∀ a, S a → S (-a)) : ∀ (c : List Int) (g : Int), S g → (∀ x ∈ c, S x) → S (c.foldl (fun g x => ((Int.gcd g x : Nat) : Int)) g)
  | [], g, hg, _ => hg
  | y :: c, g, hg, h => by
    rw [List.foldl_cons]
    refine closed_fold h0 ha hn c _ ?_ fun x hx => h x (List.mem_cons_of_mem _ hx)
    have ab : ∀ a, S a → S (a.natAbs : Int) := fun a h => by
      by_cases q : 0 ≤ a
      · rw [Int.natAbs_of_nonneg q]; exact h
      · have : (a.natAbs : Int) = -a := by omega
        rw [this]; exact hn a h
    exact closed_gcd h0 ha hn _ _ (ab _ hg) (ab _ (h y List.mem_cons_self))
/-- each multiple of the common divisor is, up to multiples of a coin, an amount that is paid -/
theorem reach {c : List Int} {L : Int} (hL : L ∈ c) (h1 : ∀ x ∈ c, 1 ≤ x) {r : Int} (hr : gcdL c ∣ r) : ∃ n, Pay c n ∧ n % L = r % L := by
  have L1 := h1 L hL
  let S : Int → Prop := fun a => ∃ n, Pay c n ∧ n % L = a % L
  have h0 : S 0 := ⟨0, .zero, rfl⟩
  have ha : ∀ a b, S a → S b → S (a + b) := fun a b ⟨n, p, e⟩ ⟨m, q, f⟩ => ⟨n + m, p.plus q, by rw [Int.add_emod, e, f, ← Int.add_emod]⟩
  have hn : ∀ a, S a → S (-a) := fun a ⟨n, p, e⟩ => by
    refine ⟨((L - 1).toNat : Int) * n, p.times _, ?_⟩
    have e1 : ((L - 1).toNat : Int) = L - 1 := by omega
    rw [e1, Int.sub_mul, Int.one_mul]
    have e2 : (L * n - n) % L = (-n) % L := by
      have : L * n - n = -n + L * n := by omega
      rw [this, Int.add_mul_emod_self_left]
    rw [e2]
    have e3 : (-n) % L = (-a) % L := by
      have : (n - a) % L = 0 := by rw [Int.sub_emod, e]; simp
      have d : L ∣ (n - a) := Int.dvd_of_emod_eq_zero this
      obtain ⟨k, hk⟩ := d
      have : -a = -n + L * k := by omega
      rw [this, Int.add_mul_emod_self_left]
    exact e3
  have hc : ∀ x ∈ c, S x := fun x hx => ⟨x, by simpa using Pay.add .zero hx, rfl⟩
  have hg : S (gcdL c) := closed_fold h0 ha hn c 0 h0 hc
  have hmul : ∀ (k : Nat) a, S a → S (k * a) := by
    intro k a h
    induction k with
    | zero => simpa using h0
    | succ k ih =>
      have e : ((k + 1 : Nat) : Int) * a = k * a + a := by rw [Int.natCast_add, Int.add_mul]; simp
      rw [e]; exact ha _ _ ih h
  obtain ⟨k, hk⟩ := hr
  have : S r := by
    rw [hk, Int.mul_comm]
    by_cases q : 0 ≤ k
    · have := hmul k.toNat _ hg
      rwa [show ((k.toNat : Nat) : Int) = k by omega] at this
    · have := hn _ (hmul (-k).toNat _ hg)
      rw [show (((-k).toNat : Nat) : Int) = -k by omega, Int.neg_mul, Int.neg_neg] at this
      exact this
  exact this

/-! ### the least amount of a rest -/
structure Least (c : List Int) (L r v : Int) : Prop where
  pay : Pay c v
  rest : v % L = r
  le : ∀ n, Pay c n → n % L = r → v ≤ n
theorem Least.uniq {c : List Int} {L r v w : Int} (h : Least c L r v) (k : Least c L r w) : v = w := by
  have h1 := h.le w k.pay k.rest
  have h2 := k.le v h.pay h.rest
  omega
theorem least_ex {c : List Int} {L r n : Int} (h1 : ∀ x ∈ c, 1 ≤ x) (h : Pay c n) (hr : n % L = r) : ∃ v, Least c L r v := by
  have key : ∀ (k : Nat) (n : Int), n.toNat ≤ k → Pay c n → n % L = r → ∃ v, Least c L r v := by
    intro k
    induction k with
    | zero =>
      intro n hn p e
      exact ⟨n, p, e, fun m q _ => by have := q.nonneg h1; omega⟩
    | succ k ih =>
      intro n hn p e
      by_cases q : ∃ m, Pay c m ∧ m % L = r ∧ m < n
      · obtain ⟨m, p2, e2, lt⟩ := q
        exact ih m (by have := p2.nonneg h1; omega) p2 e2
      · exact ⟨n, p, e, fun m p2 e2 => by
          by_cases lt : m < n
          · exact absurd ⟨m, p2, e2, lt⟩ q
          · omega⟩
  exact key n.toNat n (Nat.le_refl _) h hr
/-- two equal rests among the first sums -/
theorem two_equal {α : Type} (f : Nat → α) : ∀ n : Nat, ¬ ((List.range n).map f).Nodup → ∃ i j, i < j ∧ j < n ∧ f i = f j
  | 0, h => absurd (by simp) h
  | n + 1, h => by
    by_cases q : ((List.range n).map f).Nodup
    · have : f n ∈ (List.range n).map f := by
        by_cases z : f n ∈ (List.range n).map f
        · exact z
        · refine absurd ?_ h
          rw [List.range_succ, List.map_append, List.nodup_append]
          refine ⟨q, by simp, fun a ha b hb => ?_⟩
          simp at hb
          subst hb
          exact fun e => z (e ▸ ha)
      obtain ⟨i, hi, e⟩ := List.mem_map.mp this
      exact ⟨i, n, List.mem_range.mp hi, by omega, e⟩
    · obtain ⟨i, j, h1, h2, h3⟩ := two_equal f n q
      exact ⟨i, j, h1, by omega, h3⟩
theorem sum_pos {c : List Int} (h1 : ∀ x ∈ c, 1 ≤ x) : (c.length : Int) ≤ c.sum := by
  induction c with
  | nil => simp
  | cons x c ih =>
    have := ih fun y hy => h1 y (List.mem_cons_of_mem _ hy)
    have := h1 x List.mem_cons_self
    rw [List.sum_cons, List.length_cons]; omega
theorem sum_le {c : List Int} {M : Int} (h1 : ∀ x ∈ c, x ≤ M) : c.sum ≤ c.length * M := by
  induction c with
  | nil => simp
  | cons x c ih =>
    have h2 := ih fun y hy => h1 y (List.mem_cons_of_mem _ hy)
    have := h1 x List.mem_cons_self
    have e : ((c.length + 1 : Nat) : Int) * M = c.length * M + M := by rw [Int.natCast_add, Int.add_mul]; simp
    rw [List.sum_cons, List.length_cons, e]; omega
/-- fewer coins than the least one -/
theorem Least.few {c : List Int} {L r v : Int} (h1 : ∀ x ∈ c, 1 ≤ x) (L1 : 1 ≤ L) (h : Least c L r v) : ∃ l : List Int, (∀ x ∈ l, x ∈ c) ∧ l.sum = v ∧ (l.length : Int) < L := by
  obtain ⟨l, hl, e⟩ := h.pay.list
  refine ⟨l, hl, e, ?_⟩
  by_cases q : (l.length : Int) < L
  · exact q
  · exfalso
    let f : Nat → Int := fun i => (l.take i).sum % L
    have nn : ¬ ((List.range (l.length + 1)).map f).Nodup := fun nd => by
      have := nodup_len L.toNat 0 _ nd fun x hx => by
        obtain ⟨i, _, rfl⟩ := List.mem_map.mp hx
        have a1 := Int.emod_nonneg (l.take i).sum (show L ≠ 0 by omega)
        have a2 := Int.emod_lt_of_pos (l.take i).sum (show 0 < L by omega)
        show 0 ≤ (l.take i).sum % L ∧ (l.take i).sum % L < 0 + (L.toNat : Int)
        omega
      rw [List.length_map, List.length_range] at this
      omega
    obtain ⟨i, j, hij, hj, ef⟩ := two_equal f _ nn
    have ef' : (l.take i).sum % L = (l.take j).sum % L := ef
    have e1 : l.sum = (l.take j).sum + (l.drop j).sum := by rw [← List.sum_append, List.take_append_drop]
    have tj : l.take j = l.take i ++ (l.drop i).take (j - i) := by
      rw [← List.take_add]; congr 1; omega
    have e2 : (l.take j).sum = (l.take i).sum + ((l.drop i).take (j - i)).sum := by rw [tj, List.sum_append]
    have sub : ∀ x ∈ l.take i ++ l.drop j, x ∈ c := fun x hx => by
      rcases List.mem_append.mp hx with hx | hx
      · exact hl x (List.mem_of_mem_take hx)
      · exact hl x (List.mem_of_mem_drop hx)
    have p := Pay.sum sub
    have er : (l.take i ++ l.drop j).sum % L = r := by
      rw [List.sum_append, Int.add_emod, ef', ← Int.add_emod, ← e1, e]; exact h.rest
    have le := h.le _ p er
    have pos := sum_pos (c := (l.drop i).take (j - i)) fun x hx => h1 x (hl x (List.mem_of_mem_drop (List.mem_of_mem_take hx)))
    have len : ((l.drop i).take (j - i)).length = j - i := by rw [List.length_take, List.length_drop]; omega
    rw [len] at pos
    rw [List.sum_append] at le
    omega
theorem Least.bound {c : List Int} {L r v M : Int} (h1 : ∀ x ∈ c, 1 ≤ x) (hM : ∀ x ∈ c, x ≤ M) (L1 : 1 ≤ L) (M0 : 0 ≤ M) (h : Least c L r v) : v ≤ (L - 1) * M := by
  obtain ⟨l, hl, e, hlen⟩ := h.few h1 L1
  have := sum_le (c := l) (M := M) fun x hx => hM x (hl x hx)
  have : (l.length : Int) * M ≤ (L - 1) * M := Int.mul_le_mul_of_nonneg_right (by omega) M0
  omega
/-- an amount is paid if it is the least one of its rest, or greater -/
theorem pay_iff {c : List Int} {L r v n : Int} (hL : L ∈ c) (L1 : 1 ≤ L) (h : Least c L r v) (hr : n % L = r) : Pay c n ↔ v ≤ n := by
  refine ⟨fun p => h.le n p hr, fun le => ?_⟩
  have : (n - v) % L = 0 := by rw [Int.sub_emod, hr, h.rest]; simp
  obtain ⟨k, hk⟩ := Int.dvd_of_emod_eq_zero this
  have k0 : 0 ≤ k := by
    by_cases q : 0 ≤ k
    · exact q
    · have : L * k < 0 := Int.mul_neg_of_pos_of_neg (by omega) (by omega)
      omega
  have e : n = v + (k.toNat : Int) * L := by rw [show ((k.toNat : Nat) : Int) = k by omega, Int.mul_comm]; omega
  rw [e]
  exact h.pay.plus (Pay.times (by simpa using Pay.add .zero hL) _)
end CM

/-! CR: the least row, reckoned by a list of waiting amounts, plain. -/
namespace CM

abbrev FW := List (Int × Int) × List Int
def getF (F : List (Int × Int)) (r : Int) : Option Int := (F.find? fun p => decide (p.1 = r)).map (·.2)
def putF (F : List (Int × Int)) (r v : Int) : List (Int × Int) := if (F.any fun p => decide (p.1 = r)) = true then F.map (fun p => if p.1 = r then (p.1, v) else p) else F ++ [(r, v)]
theorem getF_nil (r : Int) : getF [] r = none := rfl
theorem getF_cons (p : Int × Int) (F : List (Int × Int)) (r : Int) : getF (p :: F) r = if p.1 = r then some p.2 else getF F r := by
  unfold getF
  rw [List.find?_cons]
  by_cases h : p.1 = r <;> simp [h]
theorem any_getF : ∀ (F : List (Int × Int)) (r : Int), (F.any fun p => decide (p.1 = r)) = (getF F r).isSome
  | [], r => rfl
  | p :: F, r => by
    rw [List.any_cons, getF_cons, any_getF F r]
    by_cases h : p.1 = r <;> simp [h]
theorem getF_map (F : List (Int × Int)) (r v q : Int) : getF (F.map fun p => if p.1 = r then (p.1, v) else p) q = if q = r then (getF F q).map fun _ => v else getF F q := by
  induction F with
  | nil => simp [getF_nil]
  | cons p F ih =>
    rw [List.map_cons, getF_cons, getF_cons, ih]
    by_cases h : p.1 = r
    · by_cases h2 : r = q
      · subst h2; simp [h]
      · have h3 : ¬ q = r := fun z => h2 z.symm
        simp [h, h2, h3]
    · by_cases h2 : p.1 = q
      · have h3 : ¬ q = r := fun z => h (h2.trans z)
        simp [h, h2, h3]
      · simp [h, h2]
theorem getF_app (F : List (Int × Int)) (r v q : Int) (h : getF F r = none) : getF (F ++ [(r, v)]) q = if q = r then some v else getF F q := by
  induction F with
  | nil =>
    rw [List.nil_append, getF_cons, getF_nil]
    by_cases e : q = r
    · simp [e]
    · have : ¬ r = q := fun z => e z.symm
      simp [e, this]
  | cons p F ih =>
    rw [getF_cons] at h
    split at h
    · cases h
    · rename_i hp
      rw [List.cons_append, getF_cons, getF_cons, ih h]
      by_cases e : q = r
      · have : ¬ p.1 = q := fun z => hp (z.trans e)
        simp [e, hp]
      · simp [e]
theorem getF_put (F : List (Int × Int)) (r v q : Int) : getF (putF F r v) q = if q = r then some v else getF F q := by
  unfold putF
  split
  · rename_i h
    rw [any_getF] at h
    rw [getF_map]
    by_cases e : q = r
    · subst e
      obtain ⟨z, hz⟩ := Option.isSome_iff_exists.mp h
      simp [hz]
    · simp [e]
  · rename_i h
    rw [any_getF] at h
    refine getF_app F r v q ?_
    cases z : getF F r with
    | none => rfl
    | some u => rw [z] at h; simp at h
theorem mem_getF {F : List (Int × Int)} (hn : (F.map (·.1)).Nodup) {p : Int × Int} (hp : p ∈ F) : getF F p.1 = some p.2 := by
  induction F with
  | nil => simp at hp
  | cons q F ih =>
    rw [List.map_cons, List.nodup_cons] at hn
    rw [getF_cons]
    rcases List.mem_cons.mp hp with h | h
    · subst h; simp
    · have : q.1 ≠ p.1 := fun z => hn.1 (by rw [z]; exact List.mem_map.mpr ⟨p, h, rfl⟩)
      rw [if_neg this]; exact ih hn.2 h
theorem getF_mem {F : List (Int × Int)} {r v : Int} (h : getF F r = some v) : (r, v) ∈ F := by
  induction F with
  | nil => cases h
  | cons q F ih =>
    rw [getF_cons] at h
    split at h
    · rename_i e
      cases h
      subst e
      exact List.mem_cons_self
    · exact List.mem_cons_of_mem _ (ih h)
theorem keys_map (F : List (Int × Int)) (r v : Int) : (F.map fun p => if p.1 = r then (p.1, v) else p).map (·.1) = F.map (·.1) := by
  rw [List.map_map]
  refine List.map_congr_left fun p _ => ?_
  show (if p.1 = r then (p.1, v) else p).1 = p.1
  split <;> rfl
theorem nodup_put {F : List (Int × Int)} (r v : Int) (hn : (F.map (·.1)).Nodup) : ((putF F r v).map (·.1)).Nodup := by
  unfold putF
  split
  · rw [keys_map]; exact hn
  · rename_i h
    rw [List.map_append, List.nodup_append]
    refine ⟨hn, by simp, fun a ha b hb => ?_⟩
    simp at hb
    subst hb
    rintro rfl
    apply h
    obtain ⟨p, hp, e⟩ := List.mem_map.mp ha
    exact List.any_eq_true.mpr ⟨p, hp, by simpa using e⟩
theorem len_put (F : List (Int × Int)) (r v : Int) : (putF F r v).length = if (getF F r).isSome = true then F.length else F.length + 1 := by
  unfold putF
  rw [any_getF]
  split <;> simp
def sumF (F : List (Int × Int)) : Nat := (F.map fun p => p.2.toNat).sum
theorem sum_map_lt {F : List (Int × Int)} {r v u : Int} (hn : (F.map (·.1)).Nodup) (h : getF F r = some u) (h0 : 0 ≤ v) (hl : v < u) : sumF (F.map fun p => if p.1 = r then (p.1, v) else p) < sumF F := by
  induction F with
  | nil => cases h
  | cons q F ih =>
    rw [List.map_cons, List.nodup_cons] at hn
    rw [getF_cons] at h
    unfold sumF at ih ⊢
    split at h
    · rename_i e
      cases h
      have same : (F.map fun p => if p.1 = r then (p.1, v) else p) = F := by
        refine (List.map_congr_left fun p hp => ?_).trans (List.map_id F)
        have : p.1 ≠ r := fun z => hn.1 (by rw [e, ← z]; exact List.mem_map.mpr ⟨p, hp, rfl⟩)
        rw [if_neg this]; rfl
      rw [List.map_cons, same, List.map_cons, List.map_cons, List.sum_cons, List.sum_cons, if_pos e]
      show v.toNat + _ < _
      omega
    · rename_i e
      have := ih hn.2 h
      rw [List.map_cons, List.map_cons, List.map_cons, List.sum_cons, List.sum_cons, if_neg e]
      omega

/-- a coin's turn -/
def stepC (L a : Int) (s : FW) (x : Int) : FW := if (getF s.1 ((a + x) % L)).all (fun v => decide (a + x < v)) = true then (putF s.1 ((a + x) % L) (a + x), s.2 ++ [a + x]) else s
def turnC (c : List Int) (L a : Int) (s : FW) : FW := c.foldl (stepC L a) (s.1, s.2.erase a)

/-- what holds between the coins of a turn -/
structure InvI (c : List Int) (L a : Int) (pre : List Int) (F0 : List (Int × Int)) (W0 : List Int) (s : FW) : Prop where
  k : ∀ r v, getF s.1 r = some v → 0 ≤ v ∧ v % L = r ∧ Pay c v
  k0 : getF s.1 0 = some 0
  kn : (s.1.map (·.1)).Nodup
  w1 : s.2.Nodup
  w2 : ∀ w ∈ s.2, a ≤ w ∧ w ≤ a + 200 ∧ ∃ v, getF s.1 (w % L) = some v ∧ v ≤ w
  w5 : ∀ w ∈ s.2, Pay c w
  cl : ∀ r v, getF s.1 r = some v → v ∈ s.2 ∨ (v = a ∧ ∀ x ∈ pre, ∃ u, getF s.1 ((v + x) % L) = some u ∧ u ≤ v + x) ∨ ∀ x ∈ c, ∃ u, getF s.1 ((v + x) % L) = some u ∧ u ≤ v + x
  ms : (s.1 = F0 ∧ s.2 = W0) ∨ F0.length < s.1.length ∨ (F0.length = s.1.length ∧ sumF s.1 < sumF F0)
/-- what holds between turns -/
structure InvO (c : List Int) (L : Int) (s : FW) : Prop where
  k : ∀ r v, getF s.1 r = some v → 0 ≤ v ∧ v % L = r ∧ Pay c v
  k0 : getF s.1 0 = some 0
  kn : (s.1.map (·.1)).Nodup
  w1 : s.2.Nodup
  w2 : ∀ w ∈ s.2, ∃ v, getF s.1 (w % L) = some v ∧ v ≤ w
  w3 : ∀ w ∈ s.2, ∀ w' ∈ s.2, w ≤ w' + 200
  w5 : ∀ w ∈ s.2, Pay c w
  cl : ∀ r v, getF s.1 r = some v → v ∈ s.2 ∨ ∀ x ∈ c, ∃ u, getF s.1 ((v + x) % L) = some u ∧ u ≤ v + x
section
variable {c : List Int} {L a : Int} {s : FW}
theorem InvO.len (L1 : 1 ≤ L) (h : InvO c L s) : s.1.length ≤ L.toNat ∧ s.2.length ≤ 201 := by
  constructor
  · have := nodup_len L.toNat 0 _ h.kn fun x hx => by
      obtain ⟨p, hp, rfl⟩ := List.mem_map.mp hx
      obtain ⟨_, e, _⟩ := h.k _ _ (mem_getF h.kn hp)
      have a1 := Int.emod_nonneg p.2 (show L ≠ 0 by omega)
      have a2 := Int.emod_lt_of_pos p.2 (show 0 < L by omega)
      omega
    simpa using this
  · cases hs : s.2 with
    | nil => simp
    | cons w ws =>
      -- all lie within 200 of the least one
      rw [← hs]
      have hne : s.2 ≠ [] := by rw [hs]; exact fun z => nomatch z
      obtain ⟨m, hm, hle⟩ : ∃ m ∈ s.2, ∀ w ∈ s.2, m ≤ w := by
        have key : ∀ l : List Int, l ≠ [] → ∃ m ∈ l, ∀ w ∈ l, m ≤ w := by
          intro l
          induction l with
          | nil => intro h; exact absurd rfl h
          | cons x l ih =>
            intro _
            by_cases q : l = []
            · subst q; exact ⟨x, List.mem_cons_self, fun w hw => by simp at hw; omega⟩
            · obtain ⟨m, hm, hle⟩ := ih q
              by_cases z : x ≤ m
              · exact ⟨x, List.mem_cons_self, fun w hw => by rcases List.mem_cons.mp hw with h | h; omega; have := hle w h; omega⟩
              · exact ⟨m, List.mem_cons_of_mem _ hm, fun w hw => by rcases List.mem_cons.mp hw with h | h; omega; exact hle w h⟩
        exact key s.2 hne
      exact nodup_len 201 m s.2 h.w1 fun x hx => by have := hle x hx; have := h.w3 x hx m hm; omega
theorem InvI.start (ha : a ∈ s.2) (hm : ∀ w ∈ s.2, a ≤ w) (h : InvO c L s) : InvI c L a [] s.1 (s.2.erase a) (s.1, s.2.erase a) := by
  refine ⟨h.k, h.k0, h.kn, h.w1.erase _, fun w hw => ?_, fun w hw => ?_, fun r v hv => ?_, .inl ⟨rfl, rfl⟩⟩
  · have hw' := List.mem_of_mem_erase hw
    exact ⟨hm w hw', h.w3 w hw' a ha, h.w2 w hw'⟩
  · exact h.w5 w (List.mem_of_mem_erase hw)
  · rcases h.cl r v hv with h1 | h1
    · by_cases e : v = a
      · exact .inr (.inl ⟨e, fun x hx => by simp at hx⟩)
      · exact .inl ((h.w1.mem_erase_iff).mpr ⟨e, h1⟩)
    · exact .inr (.inr h1)
theorem InvI.step {pre : List Int} {F0 : List (Int × Int)} {W0 : List Int} {x : Int} (L1 : 1 ≤ L) (hx : x ∈ c) (x1 : 1 ≤ x) (x2 : x ≤ 200) (pa : Pay c a) (a0 : 0 ≤ a) (h : InvI c L a pre F0 W0 s) : InvI c L a (pre ++ [x]) F0 W0 (stepC L a s x) := by
  unfold stepC
  split
  · rename_i hc
    have mono : ∀ q u, getF s.1 q = some u → ∃ u', getF (putF s.1 ((a + x) % L) (a + x)) q = some u' ∧ u' ≤ u := fun q u hu => by
      rw [getF_put]
      by_cases e : q = (a + x) % L
      · rw [if_pos e]
        rw [e] at hu
        rw [hu] at hc
        simp at hc
        exact ⟨_, rfl, by omega⟩
      · rw [if_neg e]; exact ⟨u, hu, Int.le_refl _⟩
    have up : ∀ z, (∃ u, getF s.1 (z % L) = some u ∧ u ≤ z) → ∃ u, getF (putF s.1 ((a + x) % L) (a + x)) (z % L) = some u ∧ u ≤ z := fun z ⟨u, h1, h2⟩ => by
      obtain ⟨u', h3, h4⟩ := mono _ _ h1
      exact ⟨u', h3, by omega⟩
    have self : ∃ u, getF (putF s.1 ((a + x) % L) (a + x)) ((a + x) % L) = some u ∧ u ≤ a + x := ⟨a + x, by rw [getF_put, if_pos rfl], Int.le_refl _⟩
    refine ⟨fun r v hv => ?_, ?_, nodup_put _ _ h.kn, ?_, fun w hw => ?_, fun w hw => ?_, fun r v hv => ?_, ?_⟩
    · dsimp only at hv
      rw [getF_put] at hv
      split at hv
      · rename_i e
        cases hv
        exact ⟨by omega, e.symm, pa.add hx⟩
      · exact h.k r v hv
    · dsimp only
      rw [getF_put]
      split
      · rename_i e
        exfalso
        rw [← e, h.k0] at hc
        simp at hc
        omega
      · exact h.k0
    · rw [List.nodup_append]
      refine ⟨h.w1, by simp, fun u hu b hb => ?_⟩
      simp at hb
      subst hb
      rintro rfl
      obtain ⟨_, _, v, hv, hle⟩ := h.w2 _ hu
      rw [hv] at hc
      simp at hc
      omega
    · rcases List.mem_append.mp hw with hw | hw
      · obtain ⟨h1, h2, h3⟩ := h.w2 w hw
        exact ⟨h1, h2, up w h3⟩
      · simp at hw
        subst hw
        exact ⟨by omega, by omega, self⟩
    · rcases List.mem_append.mp hw with hw | hw
      · exact h.w5 w hw
      · simp at hw
        subst hw
        exact pa.add hx
    · dsimp only at hv ⊢
      rw [getF_put] at hv
      split at hv
      · cases hv
        exact .inl (by simp)
      · rcases h.cl r v hv with h1 | ⟨h1, h2⟩ | h1
        · exact .inl (List.mem_append_left _ h1)
        · refine .inr (.inl ⟨h1, fun y hy => ?_⟩)
          rcases List.mem_append.mp hy with hy | hy
          · exact up _ (h2 y hy)
          · simp at hy
            subst hy
            rw [h1]; exact self
        · exact .inr (.inr fun y hy => up _ (h1 y hy))
    · right
      dsimp only
      rw [len_put]
      by_cases q : (getF s.1 ((a + x) % L)).isSome = true
      · rw [if_pos q]
        obtain ⟨u, hu⟩ := Option.isSome_iff_exists.mp q
        rw [hu] at hc
        simp at hc
        have lt := sum_map_lt (v := a + x) h.kn hu (by omega) hc
        have e : putF s.1 ((a + x) % L) (a + x) = s.1.map fun p => if p.1 = (a + x) % L then (p.1, a + x) else p := by
          unfold putF
          rw [any_getF, if_pos q]
        rw [e]
        rcases h.ms with ⟨m1, m2⟩ | m | ⟨m1, m2⟩
        · right; rw [← m1]; exact ⟨rfl, lt⟩
        · left; exact m
        · right; exact ⟨m1, by omega⟩
      · rw [if_neg q]
        rcases h.ms with ⟨m1, m2⟩ | m | ⟨m1, m2⟩
        · left; rw [← m1]; omega
        · left; omega
        · left; omega
  · rename_i hc
    have ex : ∃ u, getF s.1 ((a + x) % L) = some u ∧ u ≤ a + x := by
      cases q : getF s.1 ((a + x) % L) with
      | none => rw [q] at hc; simp at hc
      | some u => rw [q] at hc; simp at hc; exact ⟨u, rfl, hc⟩
    refine ⟨h.k, h.k0, h.kn, h.w1, h.w2, h.w5, fun r v hv => ?_, h.ms⟩
    rcases h.cl r v hv with h1 | ⟨h1, h2⟩ | h1
    · exact .inl h1
    · refine .inr (.inl ⟨h1, fun y hy => ?_⟩)
      rcases List.mem_append.mp hy with hy | hy
      · exact h2 y hy
      · simp at hy
        subst hy
        rw [h1]; exact ex
    · exact .inr (.inr h1)
theorem InvI.fold {F0 : List (Int × Int)} {W0 : List Int} (L1 : 1 ≤ L) (pa : Pay c a) (a0 : 0 ≤ a) (hc : ∀ x ∈ c, 1 ≤ x ∧ x ≤ 200) : ∀ (post pre : List Int) (s : FW), (∀ x ∈ post, x ∈ c) → InvI c L a pre F0 W0 s → InvI c L a (pre ++ post) F0 W0 (post.foldl (stepC L a) s)
  | [], pre, s, _, h => by simpa using h
  | x :: post, pre, s, hp, h => by
    have hx := hp x List.mem_cons_self
    have := InvI.fold L1 pa a0 hc post (pre ++ [x]) (stepC L a s x) (fun y hy => hp y (List.mem_cons_of_mem _ hy)) (h.step L1 hx (hc x hx).1 (hc x hx).2 pa a0)
    rw [List.foldl_cons]
    rwa [List.append_assoc, List.singleton_append] at this
theorem InvI.done {F0 : List (Int × Int)} {W0 : List Int} (h : InvI c L a c F0 W0 s) : InvO c L s := by
  refine ⟨h.k, h.k0, h.kn, h.w1, fun w hw => (h.w2 w hw).2.2, fun w hw w' hw' => ?_, h.w5, fun r v hv => ?_⟩
  · have := h.w2 w hw; have := h.w2 w' hw'; omega
  · rcases h.cl r v hv with h1 | ⟨_, h2⟩ | h1
    · exact .inl h1
    · exact .inr h2
    · exact .inr h1
/-- a turn -/
theorem turn_ok (L1 : 1 ≤ L) (hc : ∀ x ∈ c, 1 ≤ x ∧ x ≤ 200) (ha : a ∈ s.2) (hm : ∀ w ∈ s.2, a ≤ w) (h : InvO c L s) : InvO c L (turnC c L a s) ∧
    (((turnC c L a s).1 = s.1 ∧ (turnC c L a s).2.length + 1 = s.2.length) ∨ s.1.length < (turnC c L a s).1.length ∨ (s.1.length = (turnC c L a s).1.length ∧ sumF (turnC c L a s).1 < sumF s.1)) := by
  have pa := h.w5 a ha
  have a0 := pa.nonneg fun x hx => (hc x hx).1
  have q := InvI.fold L1 pa a0 hc c [] _ (fun x hx => hx) (InvI.start ha hm h)
  rw [List.nil_append] at q
  refine ⟨q.done, ?_⟩
  rcases q.ms with ⟨m1, m2⟩ | m | m
  · left
    refine ⟨m1, ?_⟩
    show (List.foldl (stepC L a) (s.1, s.2.erase a) c).2.length + 1 = _
    rw [m2, List.length_erase_of_mem ha]
    have := List.length_pos_of_mem ha
    omega
  · exact .inr (.inl m)
  · exact .inr (.inr m)
/-- at the end -/
theorem InvO.last (h : InvO c L s) (hw : s.2 = []) : (∀ n, Pay c n → ∃ v, getF s.1 (n % L) = some v ∧ v ≤ n) ∧ ∀ r v, getF s.1 r = some v → Least c L r v := by
  have key : ∀ n, Pay c n → ∃ v, getF s.1 (n % L) = some v ∧ v ≤ n := by
    intro n p
    induction p with
    | zero => exact ⟨0, by rw [Int.zero_emod]; exact h.k0, Int.le_refl _⟩
    | @add n x p hx ih =>
      obtain ⟨v, h1, h2⟩ := ih
      rcases h.cl _ _ h1 with h3 | h3
      · rw [hw] at h3; simp at h3
      · obtain ⟨u, h4, h5⟩ := h3 x hx
        refine ⟨u, ?_, by omega⟩
        have := (h.k _ _ h1).2.1
        rw [Int.add_emod n x, ← this, ← Int.add_emod]
        exact h4
  refine ⟨key, fun r v hv => ?_⟩
  obtain ⟨_, e, p⟩ := h.k r v hv
  refine ⟨p, e, fun n q er => ?_⟩
  obtain ⟨u, h1, h2⟩ := key n q
  rw [er, hv] at h1
  cases h1
  exact h2
theorem InvO.init (c : List Int) (L : Int) : InvO c L ([(0, 0)], [0]) := by
  have g : ∀ r v, getF [(0, 0)] r = some v → r = 0 ∧ v = 0 := fun r v h => by
    rw [getF_cons, getF_nil] at h
    split at h
    · rename_i e
      cases h
      exact ⟨e.symm, rfl⟩
    · cases h
  refine ⟨fun r v h => ?_, rfl, by simp, by simp, fun w hw => ?_, fun w hw w' hw' => ?_, fun w hw => ?_, fun r v h => ?_⟩
  · obtain ⟨rfl, rfl⟩ := g r v h
    exact ⟨Int.le_refl _, Int.zero_emod _, .zero⟩
  · simp at hw
    subst hw
    exact ⟨0, by rw [Int.zero_emod]; rfl, Int.le_refl _⟩
  · simp at hw hw'
    omega
  · simp at hw
    subst hw
    exact .zero
  · obtain ⟨rfl, rfl⟩ := g r v h
    exact .inl (by simp)
end
end CM

namespace K03
open L2 PySem PySem.Spec PyProof.Rows DL
/-! ### the text by places -/
def top (i : Nat) : Stmt := PySem.Challenge.pw_tallyhull_k03_coordinates_and_orthogonal.main.body.getD i (.Pass ⟨0, 0, 0, 0⟩)
abbrev s_check_vectors : Stmt := top 14
abbrev s_step_of : Stmt := top 15
abbrev s_less : Stmt := top 16
abbrev s_cleared : Stmt := top 17
abbrev s_stairs_of : Stmt := top 18
abbrev s_size_of : Stmt := top 19
abbrev s_stairs : Stmt := top 20
abbrev s_is_stairs : Stmt := top 21
abbrev s_coordinates_in : Stmt := top 22
abbrev s_coordinates : Stmt := top 23
abbrev s_orthogonal_to : Stmt := top 24
abbrev s_orthogonal : Stmt := top 25
abbrev s_u_law_number : Stmt := top 27
abbrev s_u_law_draws : Stmt := top 28
abbrev s_u_law_next : Stmt := top 29
abbrev s_u_law_more : Stmt := top 30
abbrev s_u_law_dot : Stmt := top 31
abbrev s_u_law_vector : Stmt := top 32
abbrev s_u_law_step : Stmt := top 33
abbrev s_u_law_in : Stmt := top 34
abbrev s_u_law_reduced : Stmt := top 35
abbrev s_u_law_kind : Stmt := top 36
abbrev s_u_law_told : Stmt := top 37
abbrev s_u_law_orthogonal : Stmt := top 38
abbrev s_law : Stmt := top 39
abbrev N_check_vectors : List Str := ["vectors", "sizes", "vector"]
abbrev N_step_of : List Str := ["vector", "at", "entry"]
abbrev N_less : List Str := ["vector", "factor", "other", "one", "second"]
abbrev N_cleared : List Str := ["vectors", "at", "head", "rest", "vector", "one", "other", "entry"]
abbrev N_stairs_of : List Str := ["vectors", "size", "found", "left", "at", "head", "one"]
abbrev N_size_of : List Str := ["vectors"]
abbrev N_stairs : List Str := ["vectors"]
abbrev N_is_stairs : List Str := ["vectors", "vector"]
abbrev N_coordinates_in : List Str := ["basis", "vector", "found", "one", "at", "factor", "entry"]
abbrev N_coordinates : List Str := ["vectors", "vector"]
abbrev N_orthogonal_to : List Str := ["vectors", "many", "width", "long", "at", "unit", "rows", "place", "vector", "row"]
abbrev N_orthogonal : List Str := ["vectors", "many"]
abbrev N_u_law_number : List Str := ["cell"]
abbrev N_u_law_draws : List Str := ["script", "draws", "cell", "rest", "k", "once", "twice"]
abbrev N_u_law_next : List Str := ["draws"]
abbrev N_u_law_more : List Str := ["draws", "many", "seed", "grown", "k"]
abbrev N_u_law_dot : List Str := ["one", "other", "k"]
abbrev N_u_law_vector : List Str := ["draws", "many", "low", "high", "k"]
abbrev N_u_law_step : List Str := ["vector", "k"]
abbrev N_u_law_in : List Str := ["basis", "vector", "found", "one", "at", "factor", "k", "entry"]
abbrev N_u_law_reduced : List Str := ["vectors", "size", "rows", "found", "at", "turn", "row", "some", "least", "rest", "weight", "factor", "head", "vector", "k", "entry"]
abbrev N_u_law_kind : List Str := ["error", "kinds"]
abbrev N_u_law_told : List Str := ["which", "vectors", "given", "error"]
abbrev N_u_law_orthogonal : List Str := ["vectors", "many", "rows", "long", "found", "j", "i", "k", "row"]
abbrev N_law : List Str := ["script", "draws", "size", "basis", "turn", "vector", "one", "factor", "vectors", "told", "k", "other", "many"]
/-! ### what the defs compute -/
def b_check_vectors : DSt := gSeq (gIf (xtOr (xt2 kGt (xCB kLen (aCons (xVar 0) (aNil))) (xC (.int 40))) (xt2 kGt (xLenK (xCompK (iSeq (xVar 0)) [2] (bName 2) (xCB kLen (aCons (xVar 2) (aNil))) (xC (.bool true)))) (xC (.int 1)))) (gRaise "BadNumber") (gNext)) (gIf (xtNot (xTr (xCB kAll (aCons (ofL (xComp (iSeq (xVar 0)) [2] (bName 2) (tTrue) (x2 (kB kIn2) (xCB kLen (aCons (xVar 2) (aNil))) (xVar 1)))) (aNil))))) (gRaise "BadNumber") (gNext))
def f_check_vectors : Fn := runF N_check_vectors.length b_check_vectors
def b_step_of : DSt := gSeq (gFor (iEnumD (aCons (xVar 0) (aNil))) (bTup (bCons (bName 1) (bCons (bName 2) (bNil)))) (gIf (xt2 kNe (xVar 2) (xC (.int 0))) (gRet (xVar 1)) (gNext))) (gRet (xCB kLen (aCons (xVar 0) (aNil))))
def f_step_of : Fn := runF N_step_of.length b_step_of
def b_less : DSt := gRet (xCB kTuple (aCons (ofL (xComp (iZip (aCons (xVar 0) (aCons (xVar 2) (aNil)))) [3, 4] (bTup (bCons (bName 3) (bCons (bName 4) (bNil)))) (tTrue) (x2 kSub (xVar 3) (x2 kMul (xVar 1) (xVar 4))))) (aNil)))
def f_less : Fn := runF N_less.length b_less
noncomputable def b_cleared : DSt := gSeq (gSet 2 (xC .none)) (gSeq (gSetL 3 (xLst (aNil))) (gSeq (gFor (iSeq (xVar 0)) (bName 4) (gSeq (gIf (xt2 kEq (x2 kIx (xVar 4) (xVar 1)) (xC (.int 0))) (gSeq (gExpr (xM 3 mAppend (aCons (xVar 4) (aNil)))) (gCont)) (gNext)) (gSeq (gPar 5 6 (aCons (xVar 2) (aCons (xVar 4) (aNil)))) (gSeq (gWhile (xtAnd (xt2 kIsNot (xVar 5) (xC .none)) (xt2 kNe (x2 kIx (xVar 6) (xVar 1)) (xC (.int 0)))) (gPar 5 6 (aCons (xVar 6) (aCons (xCall f_less (aCons (xVar 5) (aCons (x2 kDiv (x2 kIx (xVar 5) (xVar 1)) (x2 kIx (xVar 6) (xVar 1))) (aCons (xVar 6) (aNil))))) (aNil))))) (gIf (xt2 kIs (xVar 5) (xC .none)) (gSet 2 (xVar 6)) (gSeq (gSet 2 (xVar 5)) (gExpr (xM 3 mAppend (aCons (xVar 6) (aNil)))))))))) (gSeq (gIf (xtAnd (xt2 kIsNot (xVar 2) (xC .none)) (xt2 kLt (x2 kIx (xVar 2) (xVar 1)) (xC (.int 0)))) (gSet 2 (xCB kTuple (aCons (ofL (xComp (iSeq (xVar 2)) [7] (bName 7) (tTrue) (x1 kNeg (xVar 7)))) (aNil)))) (gNext)) (gRet (xTup (aCons (xVar 2) (aCons (xVar 3) (aNil))))))))
noncomputable def f_cleared : Fn := runF N_cleared.length b_cleared
noncomputable def b_stairs_of : DSt := gSeq (gSet 2 (ofL (xLst (aNil)))) (gSeq (gSet 3 (ofL (xCBL kList (aCons (xVar 0) (aNil))))) (gSeq (gFor (iRange1 (aCons (xVar 1) (aNil))) (bName 4) (gSeq (gAsg (xCall f_cleared (aCons (xVar 3) (aCons (xVar 4) (aNil)))) (bTup (bCons (bName 5) (bCons (bName 3) (bNil))))) (gIf (xt2 kIsNot (xVar 5) (xC .none)) (gSet 2 (ofL (x2L kAddL (ofL (xComp (iSeq (xVar 2)) [6] (bName 6) (tTrue) (xCall f_less (aCons (xVar 6) (aCons (x2 kDiv (x2 kIx (xVar 6) (xVar 4)) (x2 kIx (xVar 5) (xVar 4))) (aCons (xVar 5) (aNil))))))) (ofL (xLst (aCons (xVar 5) (aNil))))))) (gNext)))) (gRet (xCB kTuple (aCons (xVar 2) (aNil))))))
noncomputable def f_stairs_of : Fn := runF N_stairs_of.length b_stairs_of
def b_size_of : DSt := gRet (xIf (xTr (xVar 0)) (xCB kLen (aCons (x2 kIx (xVar 0) (xC (.int 0))) (aNil))) (xC (.int 0)))
def f_size_of : Fn := runF N_size_of.length b_size_of
noncomputable def b_stairs : DSt := gSeq (gExpr (xCall f_check_vectors (aCons (xVar 0) (aCons (xC (.tuple [.int 1, .int 2, .int 3, .int 4, .int 5, .int 6])) (aNil))))) (gRet (xCall f_stairs_of (aCons (xVar 0) (aCons (xCall f_size_of (aCons (xVar 0) (aNil))) (aNil)))))
noncomputable def f_stairs : Fn := runF N_stairs.length b_stairs
noncomputable def b_is_stairs : DSt := gSeq (gExpr (xCall f_check_vectors (aCons (xVar 0) (aCons (xC (.tuple [.int 1, .int 2, .int 3, .int 4, .int 5, .int 6])) (aNil))))) (gRet (xAnd (xCB kAll (aCons (ofL (xComp (iSeq (xVar 0)) [1] (bName 1) (tTrue) (x2 (kB kLt) (xCall f_step_of (aCons (xVar 1) (aNil))) (xCB kLen (aCons (xVar 1) (aNil)))))) (aNil))) (x2 (kB kEq) (xCB kTuple (aCons (xVar 0) (aNil))) (xCall f_stairs (aCons (xVar 0) (aNil))))))
noncomputable def f_is_stairs : Fn := runF N_is_stairs.length b_is_stairs
def b_coordinates_in : DSt := gSeq (gSetL 2 (xLst (aNil))) (gSeq (gFor (iSeq (xVar 0)) (bName 3) (gSeq (gSet 4 (xCall f_step_of (aCons (xVar 3) (aNil)))) (gSeq (gSet 5 (x2 kDiv (x2 kIx (xVar 1) (xVar 4)) (x2 kIx (xVar 3) (xVar 4)))) (gSeq (gExpr (xM 2 mAppend (aCons (xVar 5) (aNil)))) (gSeq (gSet 1 (xCall f_less (aCons (xVar 1) (aCons (xVar 5) (aCons (xVar 3) (aNil)))))) (gIf (xt2 kNe (x2 kIx (xVar 1) (xVar 4)) (xC (.int 0))) (gRet (xC .none)) (gNext))))))) (gRet (xIf (xTr (xCB kAny (aCons (ofL (xComp (iSeq (xVar 1)) [6] (bName 6) (tTrue) (x2 (kB kNe) (xVar 6) (xC (.int 0))))) (aNil)))) (xC .none) (xCB kTuple (aCons (xVar 2) (aNil))))))
def f_coordinates_in : Fn := runF N_coordinates_in.length b_coordinates_in
noncomputable def b_coordinates : DSt := gSeq (gIf (xtOr (xtNot (xTr (xCall f_is_stairs (aCons (xVar 0) (aNil))))) (xtNot (xChain kLe kLe (xC (.int 1)) (xCB kLen (aCons (xVar 1) (aNil))) (xC (.int 6))))) (gRaise "BadNumber") (gNext)) (gSeq (gIf (xtAnd (xTr (xVar 0)) (xt2 kNe (xCB kLen (aCons (xVar 1) (aNil))) (xCall f_size_of (aCons (xVar 0) (aNil))))) (gRaise "BadNumber") (gNext)) (gRet (xCall f_coordinates_in (aCons (xVar 0) (aCons (xVar 1) (aNil))))))
noncomputable def f_coordinates : Fn := runF N_coordinates.length b_coordinates
noncomputable def b_orthogonal_to : DSt := gSeq (gSet 2 (xCB kLen (aCons (xVar 0) (aNil)))) (gSeq (gSetL 3 (xLst (aNil))) (gSeq (gFor (iRange1 (aCons (xVar 1) (aNil))) (bName 4) (gSeq (gSet 5 (xCB kTuple (aCons (ofL (xComp (iRange1 (aCons (xVar 1) (aNil))) [7] (bName 7) (tTrue) (xCB kInt (aCons (x2 (kB kEq) (xVar 7) (xVar 4)) (aNil))))) (aNil)))) (gExpr (xM 3 mAppend (aCons (xTup (aStar (ofL (xComp (iSeq (xVar 0)) [8] (bName 8) (tTrue) (x2 kIx (xVar 8) (xVar 4)))) (aStar (xVar 5) (aNil)))) (aNil)))))) (gSeq (gSet 6 (xCall f_stairs_of (aCons (xVar 3) (aCons (x2 kAdd (xVar 2) (xVar 1)) (aNil))))) (gRet (xCall f_stairs_of (aCons (ofL (xComp (iSeq (xVar 6)) [9] (bName 9) (xt2 kGe (xCall f_step_of (aCons (xVar 9) (aNil))) (xVar 2)) (xCut (xVar 9) (pSome (xVar 2)) (pNo)))) (aCons (xVar 1) (aNil))))))))
noncomputable def f_orthogonal_to : Fn := runF N_orthogonal_to.length b_orthogonal_to
noncomputable def b_orthogonal : DSt := gSeq (gIf (xtNot (xChain kLe kLe (xC (.int 1)) (xVar 1) (xC (.int 6)))) (gRaise "BadNumber") (gNext)) (gSeq (gExpr (xCall f_check_vectors (aCons (xVar 0) (aCons (xTup (aCons (xVar 1) (aNil))) (aNil))))) (gRet (xCall f_orthogonal_to (aCons (xVar 0) (aCons (xVar 1) (aNil))))))
noncomputable def f_orthogonal : Fn := runF N_orthogonal.length b_orthogonal
def b_u_law_number : DSt := gSeq (gIf (xt2 kLt (xVar 0) (xC (.int 0))) (gRet (x2 kSub (xC (.int 0)) (xVar 0))) (gNext)) (gRet (xVar 0))
def f_u_law_number : Fn := runF N_u_law_number.length b_u_law_number
def b_u_law_draws : DSt := gSeq (gSetL 1 (xLst (aNil))) (gSeq (gFor (iSeq (xVar 0)) (bName 2) (gSeq (gSet 3 (xCall f_u_law_number (aCons (xVar 2) (aNil)))) (gIf (xt2 kGe (xVar 3) (xC (.int 1000000000000000000))) (gFor (iRange1 (aCons (xC (.int 60)) (aNil))) (bName 4) (gSeq (gIf (xt2 kEq (xVar 3) (xC (.int 0))) (gBreak) (gNext)) (gSeq (gExpr (xM 1 mAppend (aCons (x2 kMod (xCB kInt (aCons (xVar 3) (aNil))) (xC (.int 1000))) (aNil)))) (gSet 3 (x2 kDiv (xVar 3) (xC (.int 1000))))))) (gSeq (gSet 5 (x2 kMod (xCB kInt (aCons (x2 kAdd (x2 kMul (xVar 3) (xC (.int 48271))) (xC (.int 11))) (aNil))) (xC (.int 2147483647)))) (gSeq (gSet 6 (x2 kMod (xCB kInt (aCons (x2 kAdd (x2 kMul (xVar 5) (xC (.int 69621))) (xVar 3)) (aNil))) (xC (.int 2147483629)))) (gExtend 1 (xLst (aCons (x2 kMod (xCB kInt (aCons (xVar 3) (aNil))) (xC (.int 1000))) (aCons (x2 kMod (xCB kInt (aCons (xVar 5) (aNil))) (xC (.int 1000))) (aCons (x2 kMod (xCB kInt (aCons (xVar 6) (aNil))) (xC (.int 1000))) (aNil))))))))))) (gSeq (gExpr (xM 1 mReverse aNil)) (gRetOwn 1)))
def f_u_law_draws : Fn := runF N_u_law_draws.length b_u_law_draws
def b_u_law_next : DSt := gSeq (gIf (xTr (xVar 0)) (gRet (xM 0 mPop aNil)) (gNext)) (gRet (xC (.int 0)))
def f_u_law_next : IFn := runI N_u_law_next.length b_u_law_next
def b_u_law_more : DSt := gSeq (gSet 2 (x2 kAdd (x2 kAdd (x2 kMul (xC (.int 1000)) (xCallI f_u_law_next (aCons (xVar 0) (aNil)))) (xCallI f_u_law_next (aCons (xVar 0) (aNil)))) (xC (.int 1)))) (gSeq (gSetL 3 (xLst (aNil))) (gSeq (gFor (iRange1 (aCons (xVar 1) (aNil))) (bName 4) (gSeq (gSet 2 (x2 kMod (xCB kInt (aCons (x2 kAdd (x2 kMul (xVar 2) (xC (.int 48271))) (xC (.int 12345))) (aNil))) (xC (.int 2147483647)))) (gExpr (xM 3 mAppend (aCons (x2 kMod (xCB kInt (aCons (x2 kDiv (xVar 2) (xC (.int 7))) (aNil))) (xC (.int 1000))) (aNil)))))) (gRetL (x2L kAddL (xVar 3) (xVar 0)))))
def f_u_law_more : IFn := runI N_u_law_more.length b_u_law_more
def b_u_law_dot : DSt := gRet (xCB kSum (aCons (ofL (xComp (iRange1 (aCons (xCB kLen (aCons (xVar 0) (aNil))) (aNil))) [2] (bName 2) (tTrue) (x2 kMul (x2 kIx (xVar 0) (xVar 2)) (x2 kIx (xVar 1) (xVar 2))))) (aNil)))
def f_u_law_dot : Fn := runF N_u_law_dot.length b_u_law_dot
def b_u_law_vector : DSt := gRet (xCB kTuple (aCons (ofL (xComp (iRange1 (aCons (xVar 1) (aNil))) [4] (bName 4) (tTrue) (x2 kAdd (xVar 2) (x2 kMod (xCB kInt (aCons (xCallI f_u_law_next (aCons (xVar 0) (aNil))) (aNil))) (x2 kAdd (x2 kSub (xVar 3) (xVar 2)) (xC (.int 1))))))) (aNil)))
def f_u_law_vector : IFn := runI N_u_law_vector.length b_u_law_vector
def b_u_law_step : DSt := gRet (xCB kMin (aCons (ofL (x2L kAddL (ofL (xComp (iRange1 (aCons (xCB kLen (aCons (xVar 0) (aNil))) (aNil))) [1] (bName 1) (xt2 kNe (x2 kIx (xVar 0) (xVar 1)) (xC (.int 0))) (xVar 1))) (ofL (xLst (aCons (xCB kLen (aCons (xVar 0) (aNil))) (aNil)))))) (aNil)))
def f_u_law_step : Fn := runF N_u_law_step.length b_u_law_step
def b_u_law_in : DSt := gSeq (gSetL 2 (xLst (aNil))) (gSeq (gFor (iSeq (xVar 0)) (bName 3) (gSeq (gSet 4 (xCall f_u_law_step (aCons (xVar 3) (aNil)))) (gSeq (gSet 5 (x2 kDiv (x2 kIx (xVar 1) (xVar 4)) (x2 kIx (xVar 3) (xVar 4)))) (gSeq (gExpr (xM 2 mAppend (aCons (xVar 5) (aNil)))) (gSet 1 (xCB kTuple (aCons (ofL (xComp (iRange1 (aCons (xCB kLen (aCons (xVar 1) (aNil))) (aNil))) [6] (bName 6) (tTrue) (x2 kSub (x2 kIx (xVar 1) (xVar 6)) (x2 kMul (xVar 5) (x2 kIx (xVar 3) (xVar 6)))))) (aNil)))))))) (gRet (xIf (xTr (xCB kAny (aCons (ofL (xComp (iSeq (xVar 1)) [7] (bName 7) (tTrue) (x2 (kB kNe) (xVar 7) (xC (.int 0))))) (aNil)))) (xC .none) (xCB kTuple (aCons (xVar 2) (aNil))))))
def f_u_law_in : Fn := runF N_u_law_in.length b_u_law_in
def b_u_law_reduced : DSt := gSeq (gSetL 2 (xComp (iSeq (xVar 0)) [13] (bName 13) (tTrue) (ofL (xCBL kList (aCons (xVar 13) (aNil)))))) (gSeq (gSet 3 (ofL (xLst (aNil)))) (gSeq (gFor (iRange1 (aCons (xVar 1) (aNil))) (bName 4) (gSeq (gFor (iRange1 (aCons (x2 kPow (xC (.int 10)) (xC (.int 6))) (aNil))) (bName 5) (gSeq (gSetL 7 (xComp (iSeq (xVar 2)) [6] (bName 6) (xt2 kNe (x2 kIx (xVar 6) (xVar 4)) (xC (.int 0))) (xVar 6))) (gSeq (gIf (xt2 kLt (xCB kLen (aCons (xVar 7) (aNil))) (xC (.int 2))) (gBreak) (gNext)) (gSeq (gSet 7 (ofL (xCBL kSorted (aCons (ofL (xComp (iSeq (xVar 7)) [6] (bName 6) (tTrue) (xTup (aCons (xCB kAbs (aCons (x2 kIx (xVar 6) (xVar 4)) (aNil))) (aCons (xVar 6) (aNil)))))) (aNil))))) (gSeq (gSet 8 (x2 kIx (x2 kIx (xVar 7) (xC (.int 0))) (xC (.int 1)))) (gSeq (gSetL 9 (xComp (iSeq (xVar 2)) [6] (bName 6) (xt2 kEq (x2 kIx (xVar 6) (xVar 4)) (xC (.int 0))) (xVar 6))) (gSeq (gFor (iSeq (ofL (xCutL (xVar 7) (pSome (xC (.int 1))) (pNo)))) (bTup (bCons (bName 10) (bCons (bName 6) (bNil)))) (gSeq (gSet 11 (x2 kDiv (x2 kIx (xVar 6) (xVar 4)) (x2 kIx (xVar 8) (xVar 4)))) (gExpr (xM 9 mAppend (aCons (ofL (xComp (iRange1 (aCons (xVar 1) (aNil))) [14] (bName 14) (tTrue) (x2 kSub (x2 kIx (xVar 6) (xVar 14)) (x2 kMul (xVar 11) (x2 kIx (xVar 8) (xVar 14)))))) (aNil)))))) (gSet 2 (ofL (x2L kAddL (xVar 9) (ofL (xLst (aCons (xVar 8) (aNil)))))))))))))) (gSeq (gSetL 7 (xComp (iSeq (xVar 2)) [6] (bName 6) (xt2 kNe (x2 kIx (xVar 6) (xVar 4)) (xC (.int 0))) (xVar 6))) (gIf (xTr (xVar 7)) (gSeq (gSet 12 (xIf (xt2 kGt (x2 kIx (x2 kIx (xVar 7) (xC (.int 0))) (xVar 4)) (xC (.int 0))) (x2 kIx (xVar 7) (xC (.int 0))) (ofL (xComp (iSeq (x2 kIx (xVar 7) (xC (.int 0)))) [15] (bName 15) (tTrue) (x2 kSub (xC (.int 0)) (xVar 15)))))) (gSeq (gSetL 2 (xComp (iSeq (xVar 2)) [6] (bName 6) (xt2 kEq (x2 kIx (xVar 6) (xVar 4)) (xC (.int 0))) (xVar 6))) (gSet 3 (ofL (x2L kAddL (ofL (xComp (iSeq (xVar 3)) [6] (bName 6) (tTrue) (ofL (xComp (iRange1 (aCons (xVar 1) (aNil))) [14] (bName 14) (tTrue) (x2 kSub (x2 kIx (xVar 6) (xVar 14)) (x2 kMul (x2 kDiv (x2 kIx (xVar 6) (xVar 4)) (x2 kIx (xVar 12) (xVar 4))) (x2 kIx (xVar 12) (xVar 14)))))))) (ofL (xLst (aCons (xVar 12) (aNil))))))))) (gNext))))) (gRet (xCB kTuple (aCons (ofL (xComp (iSeq (xVar 3)) [6] (bName 6) (tTrue) (xCB kTuple (aCons (xVar 6) (aNil))))) (aNil))))))
def f_u_law_reduced : Fn := runF N_u_law_reduced.length b_u_law_reduced
def b_u_law_kind (z_NotMatrix z_NotPointed z_NotSide z_NotVector z_NotCost z_BadNumber z_NoAnswer z_TooLarge : Bool) (a : Addr) : DSt := gSeq (gSet 1 (ofL (xLst (aCons (xIs 0 a z_NotMatrix) (aCons (xIs 0 a z_NotPointed) (aCons (xIs 0 a z_NotSide) (aCons (xIs 0 a z_NotVector) (aNil)))))))) (gSeq (gSet 1 (ofL (x2L kAddL (xVar 1) (ofL (xLst (aCons (xIs 0 a z_NotCost) (aCons (xIs 0 a z_BadNumber) (aCons (xIs 0 a z_NoAnswer) (aCons (xIs 0 a z_TooLarge) (aNil)))))))))) (gSeq (gIf (xt2 kNe (xMr mCount (xVar 1) (aCons (xC (.bool true)) (aNil))) (xC (.int 1))) (gRet (xC (.str "!other"))) (gNext)) (gRet (x2 kIx (ofL (xLst (aCons (xC (.str "!matrix")) (aCons (xC (.str "!pointed")) (aCons (xC (.str "!side")) (aCons (xC (.str "!vector")) (aCons (xC (.str "!cost")) (aCons (xC (.str "!number")) (aCons (xC (.str "!none")) (aCons (xC (.str "!large")) (aNil))))))))))) (xMr mIndex (xVar 1) (aCons (xC (.bool true)) (aNil)))))))
def t_u_law_kind : List (Str × Str) := [("BadNumber", "!number")]
def h_u_law_kind : Exn → Option D := kindD t_u_law_kind
noncomputable def b_u_law_told : DSt := gTry 3 (gRet (xSel [f_coordinates, f_orthogonal] (xVar 0) (aCons (xVar 1) (aCons (xVar 2) (aNil))))) h_u_law_kind
noncomputable def f_u_law_told : Fn := runF N_u_law_told.length b_u_law_told
def b_u_law_orthogonal : DSt := gSeq (gSet 2 (xCB kLen (aCons (xVar 0) (aNil)))) (gSeq (gSetL 3 (xComp (iRange1 (aCons (xVar 1) (aNil))) [5] (bName 5) (tTrue) (x2 kAdd (xCB kTuple (aCons (ofL (xComp (iRange1 (aCons (xVar 2) (aNil))) [6] (bName 6) (tTrue) (x2 kIx (x2 kIx (xVar 0) (xVar 6)) (xVar 5)))) (aNil))) (xCB kTuple (aCons (ofL (xComp (iRange1 (aCons (xVar 1) (aNil))) [7] (bName 7) (tTrue) (xCB kInt (aCons (x2 (kB kEq) (xVar 7) (xVar 5)) (aNil))))) (aNil)))))) (gSeq (gSet 4 (xCall f_u_law_reduced (aCons (xVar 3) (aCons (x2 kAdd (xVar 2) (xVar 1)) (aNil))))) (gRet (xCall f_u_law_reduced (aCons (ofL (xComp (iSeq (xVar 4)) [8] (bName 8) (xt2 kGe (xCall f_u_law_step (aCons (xVar 8) (aNil))) (xVar 2)) (xCut (xVar 8) (pSome (xVar 2)) (pNo)))) (aCons (xVar 1) (aNil)))))))
def f_u_law_orthogonal : Fn := runF N_u_law_orthogonal.length b_u_law_orthogonal
noncomputable def b_law : DSt := gSeq (gSetL 1 (xCallL f_u_law_draws (aCons (xVar 0) (aNil)))) (gSeq (gExpr (xM 1 mReverse aNil)) (gSeq (gSetL 1 (xCallIL f_u_law_more (aCons (xVar 1) (aCons (xC (.int 120)) (aNil))))) (gSeq (gSet 2 (x2 kAdd (xC (.int 1)) (x2 kMod (xCB kInt (aCons (xCallI f_u_law_next (aCons (xVar 1) (aNil))) (aNil))) (xC (.int 5))))) (gSeq (gSet 3 (xCall f_u_law_reduced (aCons (ofL (xComp (iRange1 (aCons (x2 kMod (xCB kInt (aCons (xCallI f_u_law_next (aCons (xVar 1) (aNil))) (aNil))) (xC (.int 4))) (aNil))) [10] (bName 10) (tTrue) (xCallI f_u_law_vector (aCons (xVar 1) (aCons (xVar 2) (aCons (x1 kNeg (xC (.int 9))) (aCons (xC (.int 9)) (aNil)))))))) (aCons (xVar 2) (aNil))))) (gSeq (gFor (iRange1 (aCons (xC (.int 4)) (aNil))) (bName 4) (gSeq (gSet 5 (xCallI f_u_law_vector (aCons (xVar 1) (aCons (xVar 2) (aCons (x1 kNeg (xC (.int 9))) (aCons (xC (.int 9)) (aNil))))))) (gSeq (gIf (xt2 kEq (x2 kMod (xCB kInt (aCons (xCallI f_u_law_next (aCons (xVar 1) (aNil))) (aNil))) (xC (.int 2))) (xC (.int 0))) (gSeq (gSet 5 (x2 kMulT (xTup (aCons (xC (.int 0)) (aNil))) (xVar 2))) (gFor (iSeq (xVar 3)) (bName 6) (gSeq (gSet 7 (x2 kSub (x2 kMod (xCB kInt (aCons (xCallI f_u_law_next (aCons (xVar 1) (aNil))) (aNil))) (xC (.int 9))) (xC (.int 4)))) (gSet 5 (xCB kTuple (aCons (ofL (xComp (iRange1 (aCons (xVar 2) (aNil))) [10] (bName 10) (tTrue) (x2 kAdd (x2 kIx (xVar 5) (xVar 10)) (x2 kMul (xVar 7) (x2 kIx (xVar 6) (xVar 10)))))) (aNil))))))) (gNext)) (gIf (xt2 kNe (xCB kRepr (aCons (xCall f_u_law_told (aCons (xC (.int 0)) (aCons (ofL (xCBL kList (aCons (xVar 3) (aNil)))) (aCons (xVar 5) (aNil))))) (aNil))) (xCB kRepr (aCons (xCall f_u_law_in (aCons (xVar 3) (aCons (xVar 5) (aNil)))) (aNil)))) (gRet (xC (.bool false))) (gNext))))) (gSeq (gSet 8 (ofL (xComp (iRange1 (aCons (x2 kMod (xCB kInt (aCons (xCallI f_u_law_next (aCons (xVar 1) (aNil))) (aNil))) (xC (.int 5))) (aNil))) [10] (bName 10) (tTrue) (xCallI f_u_law_vector (aCons (xVar 1) (aCons (xVar 2) (aCons (x1 kNeg (xC (.int 4))) (aCons (xC (.int 4)) (aNil))))))))) (gSeq (gSet 9 (xCall f_u_law_told (aCons (xC (.int 1)) (aCons (xVar 8) (aCons (xVar 2) (aNil)))))) (gSeq (gIf (xtOr (xt2 kNe (xCB kRepr (aCons (xVar 9) (aNil))) (xCB kRepr (aCons (xCall f_u_law_orthogonal (aCons (xVar 8) (aCons (xVar 2) (aNil)))) (aNil)))) (xTr (xCB kAny (aCons (ofL (xComp (iSeq (xVar 9)) [6] (bName 6) (tTrue) (xCB kAny (aCons (ofL (xComp (iSeq (xVar 8)) [11] (bName 11) (tTrue) (x2 (kB kNe) (xCall f_u_law_dot (aCons (xVar 6) (aCons (xVar 11) (aNil)))) (xC (.int 0))))) (aNil))))) (aNil))))) (gRet (xC (.bool false))) (gNext)) (gSeq (gFor (iRange1 (aCons (xC (.int 6)) (aNil))) (bName 4) (gSeq (gSet 6 (xCallI f_u_law_vector (aCons (xVar 1) (aCons (xVar 2) (aCons (x1 kNeg (xC (.int 2))) (aCons (xC (.int 2)) (aNil))))))) (gIf (xtAnd (xTr (xCB kAll (aCons (ofL (xComp (iSeq (xVar 8)) [11] (bName 11) (tTrue) (x2 (kB kEq) (xCall f_u_law_dot (aCons (xVar 6) (aCons (xVar 11) (aNil)))) (xC (.int 0))))) (aNil)))) (xt2 kIs (xCall f_u_law_in (aCons (xVar 9) (aCons (xVar 6) (aNil)))) (xC .none))) (gRet (xC (.bool false))) (gNext)))) (gSeq (gIf (xt2 kNe (ofL (xLst (aCons (xCall f_u_law_told (aCons (xC (.int 0)) (aCons (ofL (xLst (aCons (xTup (aCons (xC (.int 0)) (aCons (xC (.int 1)) (aNil)))) (aCons (xTup (aCons (xC (.int 1)) (aCons (xC (.int 0)) (aNil)))) (aNil))))) (aCons (xTup (aCons (xC (.int 0)) (aCons (xC (.int 0)) (aNil)))) (aNil))))) (aCons (xCall f_u_law_told (aCons (xC (.int 0)) (aCons (ofL (xLst (aCons (xTup (aCons (xC (.int 2)) (aCons (xC (.int 1)) (aNil)))) (aNil)))) (aCons (xTup (aCons (xC (.int 0)) (aNil))) (aNil))))) (aCons (xCall f_u_law_told (aCons (xC (.int 0)) (aCons (ofL (xLst (aCons (xTup (aCons (xC (.int 0)) (aCons (xC (.int 0)) (aNil)))) (aNil)))) (aCons (xTup (aCons (xC (.int 0)) (aCons (xC (.int 0)) (aNil)))) (aNil))))) (aCons (xCall f_u_law_told (aCons (xC (.int 0)) (aCons (ofL (xLst (aCons (xTup (aCons (x1 kNeg (xC (.int 1))) (aCons (xC (.int 0)) (aNil)))) (aNil)))) (aCons (xTup (aCons (xC (.int 0)) (aCons (xC (.int 0)) (aNil)))) (aNil))))) (aNil))))))) (ofL (xRepL (xLst (aCons (xC (.str "!number")) (aNil))) (xC (.int 4))))) (gRet (xC (.bool false))) (gNext)) (gSeq (gIf (xtOr (xt2 kNe (ofL (xComp (iSeq (ofL (xLst (aCons (xC (.int 0)) (aCons (xC (.int 7)) (aNil)))))) [12] (bName 12) (tTrue) (xCall f_u_law_told (aCons (xC (.int 1)) (aCons (ofL (xLst (aNil))) (aCons (xVar 12) (aNil))))))) (ofL (xRepL (xLst (aCons (xC (.str "!number")) (aNil))) (xC (.int 2))))) (xtOr (xt2 kNe (xCall f_u_law_told (aCons (xC (.int 1)) (aCons (ofL (xLst (aCons (xTup (aCons (xC (.int 1)) (aCons (xC (.int 2)) (aNil)))) (aNil)))) (aCons (xC (.int 3)) (aNil))))) (xC (.str "!number"))) (xt2 kNe (xCall f_u_law_told (aCons (xC (.int 1)) (aCons (ofL (xRepL (xLst (aCons (xTup (aCons (xC (.int 1)) (aNil))) (aNil))) (xC (.int 41)))) (aCons (xC (.int 1)) (aNil))))) (xC (.str "!number"))))) (gRet (xC (.bool false))) (gNext)) (gRet (xAnd (x2 (kB kEq) (xCB kRepr (aCons (xCall f_u_law_told (aCons (xC (.int 1)) (aCons (ofL (xLst (aNil))) (aCons (xC (.int 2)) (aNil))))) (aNil))) (xCB kRepr (aCons (xTup (aCons (xTup (aCons (xC (.int 1)) (aCons (xC (.int 0)) (aNil)))) (aCons (xTup (aCons (xC (.int 0)) (aCons (xC (.int 1)) (aNil)))) (aNil)))) (aNil)))) (xAnd (x2 (kB kEq) (xCB kRepr (aCons (xCall f_u_law_told (aCons (xC (.int 1)) (aCons (ofL (xLst (aCons (xTup (aCons (xC (.int 2)) (aCons (xC (.int 4)) (aNil)))) (aNil)))) (aCons (xC (.int 2)) (aNil))))) (aNil))) (xCB kRepr (aCons (xTup (aCons (xTup (aCons (xC (.int 2)) (aCons (x1 kNeg (xC (.int 1))) (aNil)))) (aNil))) (aNil)))) (x2 (kB kEq) (xCB kRepr (aCons (xCall f_u_law_told (aCons (xC (.int 0)) (aCons (ofL (xLst (aCons (xTup (aCons (xC (.int 2)) (aCons (xC (.int 1)) (aNil)))) (aCons (xTup (aCons (xC (.int 0)) (aCons (xC (.int 3)) (aNil)))) (aNil))))) (aCons (xTup (aCons (xC (.int 2)) (aCons (x1 kNeg (xC (.int 5))) (aNil)))) (aNil))))) (aNil))) (xCB kRepr (aCons (xTup (aCons (xC (.int 1)) (aCons (x1 kNeg (xC (.int 2))) (aNil)))) (aNil))))))))))))))))))
noncomputable def f_law : Fn := runF N_law.length b_law
/-! ### what the top has made -/
variable {P : Program} {w : World} {K : Frg} {mg : Mg} {base : Heap} {C_TallyError C_NotMatrix C_NotPointed C_NotSide C_NotVector C_NotCost C_BadNumber C_NoAnswer C_TooLarge : Addr}
structure Txt (K : Frg) (mg : Mg) (C_TallyError C_NotMatrix C_NotPointed C_NotSide C_NotVector C_NotCost C_BadNumber C_NoAnswer C_TooLarge : Addr) : Prop where
  b_abs : mg "abs" = none
  b_all : mg "all" = none
  b_any : mg "any" = none
  b_enumerate : mg "enumerate" = none
  b_int : mg "int" = none
  b_isinstance : mg "isinstance" = none
  b_len : mg "len" = none
  b_list : mg "list" = none
  b_min : mg "min" = none
  b_range : mg "range" = none
  b_repr : mg "repr" = none
  b_sorted : mg "sorted" = none
  b_sum : mg "sum" = none
  b_tuple : mg "tuple" = none
  b_zip : mg "zip" = none
  c_MOST_ENTRIES : Cst mg "MOST_ENTRIES" 6
  c_MOST_VECTORS : Cst mg "MOST_VECTORS" 40
  c_SIZES : CstT K mg "SIZES" [1, 2, 3, 4, 5, 6]
  g_TallyError : mg "TallyError" = some (.ref C_TallyError)
  g_NotMatrix : mg "NotMatrix" = some (.ref C_NotMatrix)
  g_NotPointed : mg "NotPointed" = some (.ref C_NotPointed)
  g_NotSide : mg "NotSide" = some (.ref C_NotSide)
  g_NotVector : mg "NotVector" = some (.ref C_NotVector)
  g_NotCost : mg "NotCost" = some (.ref C_NotCost)
  g_BadNumber : mg "BadNumber" = some (.ref C_BadNumber)
  g_NoAnswer : mg "NoAnswer" = some (.ref C_NoAnswer)
  g_TooLarge : mg "TooLarge" = some (.ref C_TooLarge)
  o_BadNumber : Own K mg "BadNumber" C_BadNumber
  e_BadNumber : ExcC K C_BadNumber
  m_BadNumber_TallyError : PySem.W.exmOne K (.ref C_BadNumber) (.ref C_TallyError) = some true
  k_BadNumber_NotMatrix : PySem.W.kitOne K (.ref C_BadNumber) (.ref C_NotMatrix) = some false
  k_BadNumber_NotPointed : PySem.W.kitOne K (.ref C_BadNumber) (.ref C_NotPointed) = some false
  k_BadNumber_NotSide : PySem.W.kitOne K (.ref C_BadNumber) (.ref C_NotSide) = some false
  k_BadNumber_NotVector : PySem.W.kitOne K (.ref C_BadNumber) (.ref C_NotVector) = some false
  k_BadNumber_NotCost : PySem.W.kitOne K (.ref C_BadNumber) (.ref C_NotCost) = some false
  k_BadNumber_BadNumber : PySem.W.kitOne K (.ref C_BadNumber) (.ref C_BadNumber) = some true
  k_BadNumber_NoAnswer : PySem.W.kitOne K (.ref C_BadNumber) (.ref C_NoAnswer) = some false
  k_BadNumber_TooLarge : PySem.W.kitOne K (.ref C_BadNumber) (.ref C_TooLarge) = some false
theorem bt_abs : bootBuiltins "abs" = some (.builtin "abs") := by decide +kernel
theorem bt_all : bootBuiltins "all" = some (.builtin "all") := by decide +kernel
theorem bt_any : bootBuiltins "any" = some (.builtin "any") := by decide +kernel
theorem bt_enumerate : bootBuiltins "enumerate" = some (.type "enumerate") := by decide +kernel
theorem bt_int : bootBuiltins "int" = some (.type "int") := by decide +kernel
theorem bt_isinstance : bootBuiltins "isinstance" = some (.builtin "isinstance") := by decide +kernel
theorem bt_len : bootBuiltins "len" = some (.builtin "len") := by decide +kernel
theorem bt_list : bootBuiltins "list" = some (.type "list") := by decide +kernel
theorem bt_min : bootBuiltins "min" = some (.builtin "min") := by decide +kernel
theorem bt_range : bootBuiltins "range" = some (.type "range") := by decide +kernel
theorem bt_repr : bootBuiltins "repr" = some (.builtin "repr") := by decide +kernel
theorem bt_sorted : bootBuiltins "sorted" = some (.builtin "sorted") := by decide +kernel
theorem bt_sum : bootBuiltins "sum" = some (.builtin "sum") := by decide +kernel
theorem bt_tuple : bootBuiltins "tuple" = some (.type "tuple") := by decide +kernel
theorem bt_zip : bootBuiltins "zip" = some (.type "zip") := by decide +kernel
/-! ### the derivations -/
theorem sc_check_vectors : FnScope N_check_vectors ["vectors", "sizes"] (defScope s_check_vectors) := ⟨rfl, rfl, rfl, by decide +kernel, rfl, by decide +kernel, by decide +kernel⟩
theorem bi_check_vectors : BindOk "check_vectors" s_check_vectors ["vectors", "sizes"] := fun _ _ _ _ _ _ us hl => match us, hl with | [_, _], _ => rfl
theorem ok_check_vectors (T : Txt K mg C_TallyError C_NotMatrix C_NotPointed C_NotSide C_NotVector C_NotCost C_BadNumber C_NoAnswer C_TooLarge) (D : Def K mg "check_vectors" s_check_vectors)  : FOk P w K mg base "check_vectors" 1 ["vectors", "sizes"] (spP K mg 2 f_check_vectors) := by
  refine fok_data (k := 0) D sc_check_vectors bi_check_vectors fun f cdv A outer s H E hr tk po => ?_
  have hu := room_u hr
  have nd : N_check_vectors.Nodup := by decide +kernel
  exact dss_cons (ds_if (dt_w (dw_or (dt_cmp (o_gt hu) (de_cb c_len T.b_len bt_len (da_cons (dv 0) (da_nil))) (de_cint T.c_MOST_VECTORS)) (dw_or1 (dt_cmp (o_gt hu) (de_lenK T.b_len (dl_compK (own := [("vector", 2)]) rfl nd (di_seq (dv 0)) (blkOk_by (by first | decide +kernel | exact rfl)) (fun _ _ _ _ _ => dg_name nd) (fun _ _ _ _ _ => de_cb c_len T.b_len bt_len (da_cons (dv 2) (da_nil))) (fun _ _ _ _ _ => de_bl))) (de_int))))) (dss_one (ds_raise T.o_BadNumber rfl tk)) (dss_nil)) (dss_one (ds_if (dt_not (dt_of (de_cb (c_all rfl) T.b_all bt_all (da_cons (de_of (dl_comp (own := [("vector", 2)]) rfl nd (di_seq (dv 0)) (blkOk_by (by first | decide +kernel | exact rfl)) (fun _ _ _ _ _ => dg_name nd) (fun _ _ _ _ _ => dts_nil) (fun _ _ _ _ _ => de_cmp (o_in2 hu) (de_cb c_len T.b_len bt_len (da_cons (dv 2) (da_nil))) (dv 1)))) (da_nil))))) (dss_one (ds_raise T.o_BadNumber rfl tk)) (dss_nil)))
theorem sc_step_of : FnScope N_step_of ["vector"] (defScope s_step_of) := ⟨rfl, rfl, rfl, by decide +kernel, rfl, by decide +kernel, by decide +kernel⟩
theorem bi_step_of : BindOk "step_of" s_step_of ["vector"] := fun _ _ _ _ _ _ us hl => match us, hl with | [_], _ => rfl
theorem ok_step_of (T : Txt K mg C_TallyError C_NotMatrix C_NotPointed C_NotSide C_NotVector C_NotCost C_BadNumber C_NoAnswer C_TooLarge) (D : Def K mg "step_of" s_step_of)  : FOk P w K mg base "step_of" 1 ["vector"] (spP K mg 1 f_step_of) := by
  refine fok_data (k := 0) D sc_step_of bi_step_of fun f cdv A outer s H E hr tk po => ?_
  have hu := room_u hr
  have nd : N_step_of.Nodup := by decide +kernel
  exact dss_cons (ds_for po rfl (di_enum T.b_enumerate (da_cons (dv 0) (da_nil))) (dg_tup rfl (dgs_cons (dg_name nd) (dgs_cons (dg_name nd) (dgs_nil))) (hlen := bLen2)) (dss_one (ds_if (dt_cmp (o_ne hu) (dv 2) (de_int)) (dss_one (ds_ret (dv 1))) (dss_nil)))) (dss_one (ds_ret (de_cb c_len T.b_len bt_len (da_cons (dv 0) (da_nil)))))
theorem sc_less : FnScope N_less ["vector", "factor", "other"] (defScope s_less) := ⟨rfl, rfl, rfl, by decide +kernel, rfl, by decide +kernel, by decide +kernel⟩
theorem bi_less : BindOk "less" s_less ["vector", "factor", "other"] := fun _ _ _ _ _ _ us hl => match us, hl with | [_, _, _], _ => rfl
theorem ok_less (T : Txt K mg C_TallyError C_NotMatrix C_NotPointed C_NotSide C_NotVector C_NotCost C_BadNumber C_NoAnswer C_TooLarge) (D : Def K mg "less" s_less)  : FOk P w K mg base "less" 1 ["vector", "factor", "other"] (spP K mg 3 f_less) := by
  refine fok_data (k := 0) D sc_less bi_less fun f cdv A outer s H E hr tk po => ?_
  have hu := room_u hr
  have nd : N_less.Nodup := by decide +kernel
  exact dss_one (ds_ret (de_ct c_tuple T.b_tuple bt_tuple (da_cons (de_of (dl_comp (own := [("one", 3), ("second", 4)]) rfl nd (di_zip T.b_zip (da_cons (dv 0) (da_cons (dv 2) (da_nil)))) (blkOk_by (by first | decide +kernel | exact rfl)) (fun _ _ _ _ _ => dg_tup rfl (dgs_cons (dg_name nd) (dgs_cons (dg_name nd) (dgs_nil))) (hlen := bLen2)) (fun _ _ _ _ _ => dts_nil) (fun _ _ _ _ _ => de_bin o_sub (dv 3) (de_bin o_mul (dv 1) (dv 4))))) (da_nil))))
theorem sc_cleared : FnScope N_cleared ["vectors", "at"] (defScope s_cleared) := ⟨rfl, rfl, rfl, by decide +kernel, rfl, by decide +kernel, by decide +kernel⟩
theorem bi_cleared : BindOk "cleared" s_cleared ["vectors", "at"] := fun _ _ _ _ _ _ us hl => match us, hl with | [_, _], _ => rfl
theorem ok_cleared (T : Txt K mg C_TallyError C_NotMatrix C_NotPointed C_NotSide C_NotVector C_NotCost C_BadNumber C_NoAnswer C_TooLarge) (D : Def K mg "cleared" s_cleared) (C_less : FOk P w K mg base "less" 1 ["vector", "factor", "other"] (spP K mg 3 f_less)) : FOk P w K mg base "cleared" 2 ["vectors", "at"] (spP K mg 2 f_cleared) := by
  refine fok_data (k := 1) D sc_cleared bi_cleared fun f cdv A outer s H E hr tk po => ?_
  have hu := room_u hr
  have nd : N_cleared.Nodup := by decide +kernel
  exact dss_cons (ds_set (i := 2) (de_non) nd) (dss_cons (ds_setL (i := 3) (dl_lst (da_nil)) nd) (dss_cons (ds_for po rfl (di_seq (dv 0)) (dg_name nd) (dss_cons (ds_if (dt_cmp (o_eq hu) (de_ix i_ix (dv 4) (dv 1)) (de_int)) (dss_cons (ds_expr (de_m (pv 3) PySem.F.slot_list_append PySem.F.type_list_append m_append (da_cons (dv 4) (da_nil)))) (dss_one (ds_cont))) (dss_nil)) (dss_cons (ds_par (i := 5) (j := 6) rfl nd (da_cons (dv 2) (da_cons (dv 4) (da_nil)))) (dss_cons (ds_while po (dt_w (dw_and (dt_cmp o_isnot (dv 5) (de_non)) (dw_and1 (dt_cmp (o_ne hu) (de_ix i_ix (dv 6) (dv 1)) (de_int))))) (dss_one (ds_par (i := 5) (j := 6) rfl nd (da_cons (dv 6) (da_cons (de_call C_less (hr.mono (by decide)) (fun _ => L2N.passAt tk _) (da_cons (dv 5) (da_cons (de_bin o_div (de_ix i_ix (dv 5) (dv 1)) (de_ix i_ix (dv 6) (dv 1))) (da_cons (dv 6) (da_nil)))) (hlen := (aCons_len (aCons_len (aCons_len aNil_len))))) (da_nil)))))) (dss_one (ds_if (dt_cmp o_is (dv 5) (de_non)) (dss_one (ds_set (i := 2) (dv 6) nd)) (dss_cons (ds_set (i := 2) (dv 5) nd) (dss_one (ds_expr (de_m (pv 3) PySem.F.slot_list_append PySem.F.type_list_append m_append (da_cons (dv 6) (da_nil)))))))))))) (dss_cons (ds_if (dt_w (dw_and (dt_cmp o_isnot (dv 2) (de_non)) (dw_and1 (dt_cmp (o_lt hu) (de_ix i_ix (dv 2) (dv 1)) (de_int))))) (dss_one (ds_set (i := 2) (de_ct c_tuple T.b_tuple bt_tuple (da_cons (de_of (dl_comp (own := [("entry", 7)]) rfl nd (di_seq (dv 2)) (blkOk_by (by first | decide +kernel | exact rfl)) (fun _ _ _ _ _ => dg_name nd) (fun _ _ _ _ _ => dts_nil) (fun _ _ _ _ _ => de_un o_neg (dv 7)))) (da_nil))) nd)) (dss_nil)) (dss_one (ds_ret (de_tup (da_cons (dv 2) (da_cons (dv 3) (da_nil)))))))))
theorem sc_stairs_of : FnScope N_stairs_of ["vectors", "size"] (defScope s_stairs_of) := ⟨rfl, rfl, rfl, by decide +kernel, rfl, by decide +kernel, by decide +kernel⟩
theorem bi_stairs_of : BindOk "stairs_of" s_stairs_of ["vectors", "size"] := fun _ _ _ _ _ _ us hl => match us, hl with | [_, _], _ => rfl
theorem ok_stairs_of (T : Txt K mg C_TallyError C_NotMatrix C_NotPointed C_NotSide C_NotVector C_NotCost C_BadNumber C_NoAnswer C_TooLarge) (D : Def K mg "stairs_of" s_stairs_of) (C_cleared : FOk P w K mg base "cleared" 2 ["vectors", "at"] (spP K mg 2 f_cleared)) (C_less : FOk P w K mg base "less" 1 ["vector", "factor", "other"] (spP K mg 3 f_less)) : FOk P w K mg base "stairs_of" 3 ["vectors", "size"] (spP K mg 2 f_stairs_of) := by
  refine fok_data (k := 2) D sc_stairs_of bi_stairs_of fun f cdv A outer s H E hr tk po => ?_
  have hu := room_u hr
  have nd : N_stairs_of.Nodup := by decide +kernel
  exact dss_cons (ds_set (i := 2) (de_of (dl_lst (da_nil))) nd) (dss_cons (ds_set (i := 3) (de_of (dl_ct c_list T.b_list bt_list (da_cons (dv 0) (da_nil)))) nd) (dss_cons (ds_for po rfl (di_range1 T.b_range (da_cons (dv 1) (da_nil))) (dg_name nd) (dss_cons (ds_asg (de_call C_cleared (hr.mono (by decide)) (fun _ => L2N.passAt tk _) (da_cons (dv 3) (da_cons (dv 4) (da_nil))) (hlen := (aCons_len (aCons_len aNil_len)))) (dg_tup rfl (dgs_cons (dg_name nd) (dgs_cons (dg_name nd) (dgs_nil))) (hlen := bLen2))) (dss_one (ds_if (dt_cmp o_isnot (dv 5) (de_non)) (dss_one (ds_set (i := 2) (de_of (dl_bin o_addL (de_of (dl_comp (own := [("one", 6)]) rfl nd (di_seq (dv 2)) (blkOk_by (by first | decide +kernel | exact rfl)) (fun _ _ _ _ _ => dg_name nd) (fun _ _ _ _ _ => dts_nil) (fun _ _ _ _ _ => de_call C_less (hr.mono (by decide)) (passN) (da_cons (dv 6) (da_cons (de_bin o_div (de_ix i_ix (dv 6) (dv 4)) (de_ix i_ix (dv 5) (dv 4))) (da_cons (dv 5) (da_nil)))) (hlen := (aCons_len (aCons_len (aCons_len aNil_len))))))) (de_of (dl_lst (da_cons (dv 5) (da_nil)))))) nd)) (dss_nil))))) (dss_one (ds_ret (de_ct c_tuple T.b_tuple bt_tuple (da_cons (dv 2) (da_nil)))))))
theorem sc_size_of : FnScope N_size_of ["vectors"] (defScope s_size_of) := ⟨rfl, rfl, rfl, by decide +kernel, rfl, by decide +kernel, by decide +kernel⟩
theorem bi_size_of : BindOk "size_of" s_size_of ["vectors"] := fun _ _ _ _ _ _ us hl => match us, hl with | [_], _ => rfl
theorem ok_size_of (T : Txt K mg C_TallyError C_NotMatrix C_NotPointed C_NotSide C_NotVector C_NotCost C_BadNumber C_NoAnswer C_TooLarge) (D : Def K mg "size_of" s_size_of)  : FOk P w K mg base "size_of" 1 ["vectors"] (spP K mg 1 f_size_of) := by
  refine fok_data (k := 0) D sc_size_of bi_size_of fun f cdv A outer s H E hr tk po => ?_
  have hu := room_u hr
  have nd : N_size_of.Nodup := by decide +kernel
  exact dss_one (ds_ret (de_if (dt_of (dv 0)) (de_cb c_len T.b_len bt_len (da_cons (de_ix i_ix (dv 0) (de_int)) (da_nil))) (de_int)))
theorem sc_stairs : FnScope N_stairs ["vectors"] (defScope s_stairs) := ⟨rfl, rfl, rfl, by decide +kernel, rfl, by decide +kernel, by decide +kernel⟩
theorem bi_stairs : BindOk "stairs" s_stairs ["vectors"] := fun _ _ _ _ _ _ us hl => match us, hl with | [_], _ => rfl
theorem ok_stairs (T : Txt K mg C_TallyError C_NotMatrix C_NotPointed C_NotSide C_NotVector C_NotCost C_BadNumber C_NoAnswer C_TooLarge) (D : Def K mg "stairs" s_stairs) (C_check_vectors : FOk P w K mg base "check_vectors" 1 ["vectors", "sizes"] (spP K mg 2 f_check_vectors)) (C_stairs_of : FOk P w K mg base "stairs_of" 3 ["vectors", "size"] (spP K mg 2 f_stairs_of)) (C_size_of : FOk P w K mg base "size_of" 1 ["vectors"] (spP K mg 1 f_size_of)) : FOk P w K mg base "stairs" 4 ["vectors"] (spP K mg 1 f_stairs) := by
  refine fok_data (k := 3) D sc_stairs bi_stairs fun f cdv A outer s H E hr tk po => ?_
  have hu := room_u hr
  have nd : N_stairs.Nodup := by decide +kernel
  exact dss_cons (ds_expr (de_call C_check_vectors (hr.mono (by decide)) (fun _ => L2N.passAt tk _) (da_cons (dv 0) (da_cons (de_ctup T.c_SIZES) (da_nil))) (hlen := (aCons_len (aCons_len aNil_len))))) (dss_one (ds_ret (de_call C_stairs_of (hr.mono (by decide)) (fun _ => L2N.passAt tk _) (da_cons (dv 0) (da_cons (de_call C_size_of (hr.mono (by decide)) (fun _ => L2N.passAt tk _) (da_cons (dv 0) (da_nil)) (hlen := (aCons_len aNil_len))) (da_nil))) (hlen := (aCons_len (aCons_len aNil_len))))))
theorem sc_is_stairs : FnScope N_is_stairs ["vectors"] (defScope s_is_stairs) := ⟨rfl, rfl, rfl, by decide +kernel, rfl, by decide +kernel, by decide +kernel⟩
theorem bi_is_stairs : BindOk "is_stairs" s_is_stairs ["vectors"] := fun _ _ _ _ _ _ us hl => match us, hl with | [_], _ => rfl
theorem ok_is_stairs (T : Txt K mg C_TallyError C_NotMatrix C_NotPointed C_NotSide C_NotVector C_NotCost C_BadNumber C_NoAnswer C_TooLarge) (D : Def K mg "is_stairs" s_is_stairs) (C_check_vectors : FOk P w K mg base "check_vectors" 1 ["vectors", "sizes"] (spP K mg 2 f_check_vectors)) (C_step_of : FOk P w K mg base "step_of" 1 ["vector"] (spP K mg 1 f_step_of)) (C_stairs : FOk P w K mg base "stairs" 4 ["vectors"] (spP K mg 1 f_stairs)) : FOk P w K mg base "is_stairs" 5 ["vectors"] (spP K mg 1 f_is_stairs) := by
  refine fok_data (k := 4) D sc_is_stairs bi_is_stairs fun f cdv A outer s H E hr tk po => ?_
  have hu := room_u hr
  have nd : N_is_stairs.Nodup := by decide +kernel
  exact dss_cons (ds_expr (de_call C_check_vectors (hr.mono (by decide)) (fun _ => L2N.passAt tk _) (da_cons (dv 0) (da_cons (de_ctup T.c_SIZES) (da_nil))) (hlen := (aCons_len (aCons_len aNil_len))))) (dss_one (ds_ret (de_and (de_cb (c_all rfl) T.b_all bt_all (da_cons (de_of (dl_comp (own := [("vector", 1)]) rfl nd (di_seq (dv 0)) (blkOk_by (by first | decide +kernel | exact rfl)) (fun _ _ _ _ _ => dg_name nd) (fun _ _ _ _ _ => dts_nil) (fun _ _ _ _ _ => de_cmp (o_lt hu) (de_call C_step_of (hr.mono (by decide)) (passN) (da_cons (dv 1) (da_nil)) (hlen := (aCons_len aNil_len))) (de_cb c_len T.b_len bt_len (da_cons (dv 1) (da_nil)))))) (da_nil))) (de_one (de_cmp (o_eq hu) (de_ct c_tuple T.b_tuple bt_tuple (da_cons (dv 0) (da_nil))) (de_call C_stairs (hr.mono (by decide)) (fun _ => L2N.passAt tk _) (da_cons (dv 0) (da_nil)) (hlen := (aCons_len aNil_len))))))))
theorem sc_coordinates_in : FnScope N_coordinates_in ["basis", "vector"] (defScope s_coordinates_in) := ⟨rfl, rfl, rfl, by decide +kernel, rfl, by decide +kernel, by decide +kernel⟩
theorem bi_coordinates_in : BindOk "coordinates_in" s_coordinates_in ["basis", "vector"] := fun _ _ _ _ _ _ us hl => match us, hl with | [_, _], _ => rfl
theorem ok_coordinates_in (T : Txt K mg C_TallyError C_NotMatrix C_NotPointed C_NotSide C_NotVector C_NotCost C_BadNumber C_NoAnswer C_TooLarge) (D : Def K mg "coordinates_in" s_coordinates_in) (C_step_of : FOk P w K mg base "step_of" 1 ["vector"] (spP K mg 1 f_step_of)) (C_less : FOk P w K mg base "less" 1 ["vector", "factor", "other"] (spP K mg 3 f_less)) : FOk P w K mg base "coordinates_in" 2 ["basis", "vector"] (spP K mg 2 f_coordinates_in) := by
  refine fok_data (k := 1) D sc_coordinates_in bi_coordinates_in fun f cdv A outer s H E hr tk po => ?_
  have hu := room_u hr
  have nd : N_coordinates_in.Nodup := by decide +kernel
  exact dss_cons (ds_setL (i := 2) (dl_lst (da_nil)) nd) (dss_cons (ds_for po rfl (di_seq (dv 0)) (dg_name nd) (dss_cons (ds_set (i := 4) (de_call C_step_of (hr.mono (by decide)) (fun _ => L2N.passAt tk _) (da_cons (dv 3) (da_nil)) (hlen := (aCons_len aNil_len))) nd) (dss_cons (ds_set (i := 5) (de_bin o_div (de_ix i_ix (dv 1) (dv 4)) (de_ix i_ix (dv 3) (dv 4))) nd) (dss_cons (ds_expr (de_m (pv 2) PySem.F.slot_list_append PySem.F.type_list_append m_append (da_cons (dv 5) (da_nil)))) (dss_cons (ds_set (i := 1) (de_call C_less (hr.mono (by decide)) (fun _ => L2N.passAt tk _) (da_cons (dv 1) (da_cons (dv 5) (da_cons (dv 3) (da_nil)))) (hlen := (aCons_len (aCons_len (aCons_len aNil_len))))) nd) (dss_one (ds_if (dt_cmp (o_ne hu) (de_ix i_ix (dv 1) (dv 4)) (de_int)) (dss_one (ds_ret (de_non))) (dss_nil)))))))) (dss_one (ds_ret (de_if (dt_of (de_cb (c_any rfl) T.b_any bt_any (da_cons (de_of (dl_comp (own := [("entry", 6)]) rfl nd (di_seq (dv 1)) (blkOk_by (by first | decide +kernel | exact rfl)) (fun _ _ _ _ _ => dg_name nd) (fun _ _ _ _ _ => dts_nil) (fun _ _ _ _ _ => de_cmp (o_ne hu) (dv 6) (de_int)))) (da_nil)))) (de_non) (de_ct c_tuple T.b_tuple bt_tuple (da_cons (dv 2) (da_nil)))))))
theorem sc_coordinates : FnScope N_coordinates ["vectors", "vector"] (defScope s_coordinates) := ⟨rfl, rfl, rfl, by decide +kernel, rfl, by decide +kernel, by decide +kernel⟩
theorem bi_coordinates : BindOk "coordinates" s_coordinates ["vectors", "vector"] := fun _ _ _ _ _ _ us hl => match us, hl with | [_, _], _ => rfl
theorem ok_coordinates (T : Txt K mg C_TallyError C_NotMatrix C_NotPointed C_NotSide C_NotVector C_NotCost C_BadNumber C_NoAnswer C_TooLarge) (D : Def K mg "coordinates" s_coordinates) (C_is_stairs : FOk P w K mg base "is_stairs" 5 ["vectors"] (spP K mg 1 f_is_stairs)) (C_size_of : FOk P w K mg base "size_of" 1 ["vectors"] (spP K mg 1 f_size_of)) (C_coordinates_in : FOk P w K mg base "coordinates_in" 2 ["basis", "vector"] (spP K mg 2 f_coordinates_in)) : FOk P w K mg base "coordinates" 6 ["vectors", "vector"] (spP K mg 2 f_coordinates) := by
  refine fok_data (k := 5) D sc_coordinates bi_coordinates fun f cdv A outer s H E hr tk po => ?_
  have hu := room_u hr
  have nd : N_coordinates.Nodup := by decide +kernel
  exact dss_cons (ds_if (dt_w (dw_or (dt_not (dt_of (de_call C_is_stairs (hr.mono (by decide)) (fun _ => L2N.passAt tk _) (da_cons (dv 0) (da_nil)) (hlen := (aCons_len aNil_len))))) (dw_or1 (dt_not (dt_chain (o_le hu) (o_le hu) (de_int) (de_cb c_len T.b_len bt_len (da_cons (dv 1) (da_nil))) (de_cint T.c_MOST_ENTRIES)))))) (dss_one (ds_raise T.o_BadNumber rfl tk)) (dss_nil)) (dss_cons (ds_if (dt_w (dw_and (dt_of (dv 0)) (dw_and1 (dt_cmp (o_ne hu) (de_cb c_len T.b_len bt_len (da_cons (dv 1) (da_nil))) (de_call C_size_of (hr.mono (by decide)) (fun _ => L2N.passAt tk _) (da_cons (dv 0) (da_nil)) (hlen := (aCons_len aNil_len))))))) (dss_one (ds_raise T.o_BadNumber rfl tk)) (dss_nil)) (dss_one (ds_ret (de_call C_coordinates_in (hr.mono (by decide)) (fun _ => L2N.passAt tk _) (da_cons (dv 0) (da_cons (dv 1) (da_nil))) (hlen := (aCons_len (aCons_len aNil_len)))))))
theorem sc_orthogonal_to : FnScope N_orthogonal_to ["vectors", "many"] (defScope s_orthogonal_to) := ⟨rfl, rfl, rfl, by decide +kernel, rfl, by decide +kernel, by decide +kernel⟩
theorem bi_orthogonal_to : BindOk "orthogonal_to" s_orthogonal_to ["vectors", "many"] := fun _ _ _ _ _ _ us hl => match us, hl with | [_, _], _ => rfl
theorem ok_orthogonal_to (T : Txt K mg C_TallyError C_NotMatrix C_NotPointed C_NotSide C_NotVector C_NotCost C_BadNumber C_NoAnswer C_TooLarge) (D : Def K mg "orthogonal_to" s_orthogonal_to) (C_stairs_of : FOk P w K mg base "stairs_of" 3 ["vectors", "size"] (spP K mg 2 f_stairs_of)) (C_step_of : FOk P w K mg base "step_of" 1 ["vector"] (spP K mg 1 f_step_of)) : FOk P w K mg base "orthogonal_to" 4 ["vectors", "many"] (spP K mg 2 f_orthogonal_to) := by
  refine fok_data (k := 3) D sc_orthogonal_to bi_orthogonal_to fun f cdv A outer s H E hr tk po => ?_
  have hu := room_u hr
  have nd : N_orthogonal_to.Nodup := by decide +kernel
  exact dss_cons (ds_set (i := 2) (de_cb c_len T.b_len bt_len (da_cons (dv 0) (da_nil))) nd) (dss_cons (ds_setL (i := 3) (dl_lst (da_nil)) nd) (dss_cons (ds_for po rfl (di_range1 T.b_range (da_cons (dv 1) (da_nil))) (dg_name nd) (dss_cons (ds_set (i := 5) (de_ct c_tuple T.b_tuple bt_tuple (da_cons (de_of (dl_comp (own := [("place", 7)]) rfl nd (di_range1 T.b_range (da_cons (dv 1) (da_nil))) (blkOk_by (by first | decide +kernel | exact rfl)) (fun _ _ _ _ _ => dg_name nd) (fun _ _ _ _ _ => dts_nil) (fun _ _ _ _ _ => de_ct c_int T.b_int bt_int (da_cons (de_cmp (o_eq hu) (dv 7) (dv 4)) (da_nil))))) (da_nil))) nd) (dss_one (ds_expr (de_m (pv 3) PySem.F.slot_list_append PySem.F.type_list_append m_append (da_cons (de_tup (da_star (de_of (dl_comp (own := [("vector", 8)]) rfl nd (di_seq (dv 0)) (blkOk_by (by first | decide +kernel | exact rfl)) (fun _ _ _ _ _ => dg_name nd) (fun _ _ _ _ _ => dts_nil) (fun _ _ _ _ _ => de_ix i_ix (dv 8) (dv 4)))) (da_star (dv 5) (da_nil)))) (da_nil))))))) (dss_cons (ds_set (i := 6) (de_call C_stairs_of (hr.mono (by decide)) (fun _ => L2N.passAt tk _) (da_cons (dv 3) (da_cons (de_bin o_add (dv 2) (dv 1)) (da_nil))) (hlen := (aCons_len (aCons_len aNil_len)))) nd) (dss_one (ds_ret (de_call C_stairs_of (hr.mono (by decide)) (fun _ => L2N.passAt tk _) (da_cons (de_of (dl_comp (own := [("row", 9)]) rfl nd (di_seq (dv 6)) (blkOk_by (by first | decide +kernel | exact rfl)) (fun _ _ _ _ _ => dg_name nd) (fun _ _ _ _ _ => dts_one (dt_cmp (o_ge hu) (de_call C_step_of (hr.mono (by decide)) (passN) (da_cons (dv 9) (da_nil)) (hlen := (aCons_len aNil_len))) (dv 2))) (fun _ _ _ _ _ => de_cut (dv 9) (dp_some (dv 2)) (dp_no)))) (da_cons (dv 1) (da_nil))) (hlen := (aCons_len (aCons_len aNil_len)))))))))
theorem sc_orthogonal : FnScope N_orthogonal ["vectors", "many"] (defScope s_orthogonal) := ⟨rfl, rfl, rfl, by decide +kernel, rfl, by decide +kernel, by decide +kernel⟩
theorem bi_orthogonal : BindOk "orthogonal" s_orthogonal ["vectors", "many"] := fun _ _ _ _ _ _ us hl => match us, hl with | [_, _], _ => rfl
theorem ok_orthogonal (T : Txt K mg C_TallyError C_NotMatrix C_NotPointed C_NotSide C_NotVector C_NotCost C_BadNumber C_NoAnswer C_TooLarge) (D : Def K mg "orthogonal" s_orthogonal) (C_check_vectors : FOk P w K mg base "check_vectors" 1 ["vectors", "sizes"] (spP K mg 2 f_check_vectors)) (C_orthogonal_to : FOk P w K mg base "orthogonal_to" 4 ["vectors", "many"] (spP K mg 2 f_orthogonal_to)) : FOk P w K mg base "orthogonal" 5 ["vectors", "many"] (spP K mg 2 f_orthogonal) := by
  refine fok_data (k := 4) D sc_orthogonal bi_orthogonal fun f cdv A outer s H E hr tk po => ?_
  have hu := room_u hr
  have nd : N_orthogonal.Nodup := by decide +kernel
  exact dss_cons (ds_if (dt_not (dt_chain (o_le hu) (o_le hu) (de_int) (dv 1) (de_cint T.c_MOST_ENTRIES))) (dss_one (ds_raise T.o_BadNumber rfl tk)) (dss_nil)) (dss_cons (ds_expr (de_call C_check_vectors (hr.mono (by decide)) (fun _ => L2N.passAt tk _) (da_cons (dv 0) (da_cons (de_tup (da_cons (dv 1) (da_nil))) (da_nil))) (hlen := (aCons_len (aCons_len aNil_len))))) (dss_one (ds_ret (de_call C_orthogonal_to (hr.mono (by decide)) (fun _ => L2N.passAt tk _) (da_cons (dv 0) (da_cons (dv 1) (da_nil))) (hlen := (aCons_len (aCons_len aNil_len)))))))
theorem sc_u_law_number : FnScope N_u_law_number ["cell"] (defScope s_u_law_number) := ⟨rfl, rfl, rfl, by decide +kernel, rfl, by decide +kernel, by decide +kernel⟩
theorem bi_u_law_number : BindOk "_law_number" s_u_law_number ["cell"] := fun _ _ _ _ _ _ us hl => match us, hl with | [_], _ => rfl
theorem ok_u_law_number (T : Txt K mg C_TallyError C_NotMatrix C_NotPointed C_NotSide C_NotVector C_NotCost C_BadNumber C_NoAnswer C_TooLarge) (D : Def K mg "_law_number" s_u_law_number)  : FOk P w K mg base "_law_number" 1 ["cell"] (spP K mg 1 f_u_law_number) := by
  refine fok_data (k := 0) D sc_u_law_number bi_u_law_number fun f cdv A outer s H E hr tk po => ?_
  have hu := room_u hr
  have nd : N_u_law_number.Nodup := by decide +kernel
  exact dss_cons (ds_if (dt_cmp (o_lt hu) (dv 0) (de_int)) (dss_one (ds_ret (de_bin o_sub (de_int) (dv 0)))) (dss_nil)) (dss_one (ds_ret (dv 0)))
theorem sc_u_law_draws : FnScope N_u_law_draws ["script"] (defScope s_u_law_draws) := ⟨rfl, rfl, rfl, by decide +kernel, rfl, by decide +kernel, by decide +kernel⟩
theorem bi_u_law_draws : BindOk "_law_draws" s_u_law_draws ["script"] := fun _ _ _ _ _ _ us hl => match us, hl with | [_], _ => rfl
theorem ok_u_law_draws (T : Txt K mg C_TallyError C_NotMatrix C_NotPointed C_NotSide C_NotVector C_NotCost C_BadNumber C_NoAnswer C_TooLarge) (D : Def K mg "_law_draws" s_u_law_draws) (C_u_law_number : FOk P w K mg base "_law_number" 1 ["cell"] (spP K mg 1 f_u_law_number)) : FOk P w K mg base "_law_draws" 2 ["script"] (spP K mg 1 f_u_law_draws) := by
  refine fok_data (k := 1) D sc_u_law_draws bi_u_law_draws fun f cdv A outer s H E hr tk po => ?_
  have hu := room_u hr
  have nd : N_u_law_draws.Nodup := by decide +kernel
  exact dss_cons (ds_setL (i := 1) (dl_lst (da_nil)) nd) (dss_cons (ds_for po rfl (di_seq (dv 0)) (dg_name nd) (dss_cons (ds_set (i := 3) (de_call C_u_law_number (hr.mono (by decide)) (fun _ => L2N.passAt tk _) (da_cons (dv 2) (da_nil)) (hlen := (aCons_len aNil_len))) nd) (dss_one (ds_if (dt_cmp (o_ge hu) (dv 3) (de_int)) (dss_one (ds_for po rfl (di_range1 T.b_range (da_cons (de_int) (da_nil))) (dg_name nd) (dss_cons (ds_if (dt_cmp (o_eq hu) (dv 3) (de_int)) (dss_one (ds_break)) (dss_nil)) (dss_cons (ds_expr (de_m (pv 1) PySem.F.slot_list_append PySem.F.type_list_append m_append (da_cons (de_bin o_mod (de_ct c_int T.b_int bt_int (da_cons (dv 3) (da_nil))) (de_int)) (da_nil)))) (dss_one (ds_set (i := 3) (de_bin o_div (dv 3) (de_int)) nd)))))) (dss_cons (ds_set (i := 5) (de_bin o_mod (de_ct c_int T.b_int bt_int (da_cons (de_bin o_add (de_bin o_mul (dv 3) (de_int)) (de_int)) (da_nil))) (de_int)) nd) (dss_cons (ds_set (i := 6) (de_bin o_mod (de_ct c_int T.b_int bt_int (da_cons (de_bin o_add (de_bin o_mul (dv 5) (de_int)) (dv 3)) (da_nil))) (de_int)) nd) (dss_one (ds_extend (pv 1) (dl_lst (da_cons (de_bin o_mod (de_ct c_int T.b_int bt_int (da_cons (dv 3) (da_nil))) (de_int)) (da_cons (de_bin o_mod (de_ct c_int T.b_int bt_int (da_cons (dv 5) (da_nil))) (de_int)) (da_cons (de_bin o_mod (de_ct c_int T.b_int bt_int (da_cons (dv 6) (da_nil))) (de_int)) (da_nil))))))))))))) (dss_cons (ds_expr (de_m0 (pv 1) PySem.F.slot_list_reverse PySem.F.type_list_reverse m_reverse)) (dss_one (ds_retOwn (pv 1)))))
theorem sc_u_law_next : FnScope N_u_law_next ["draws"] (defScope s_u_law_next) := ⟨rfl, rfl, rfl, by decide +kernel, rfl, by decide +kernel, by decide +kernel⟩
theorem bi_u_law_next : BindOk "_law_next" s_u_law_next ["draws"] := fun _ _ _ _ _ _ us hl => match us, hl with | [_], _ => rfl
theorem ok_u_law_next (T : Txt K mg C_TallyError C_NotMatrix C_NotPointed C_NotSide C_NotVector C_NotCost C_BadNumber C_NoAnswer C_TooLarge) (D : Def K mg "_law_next" s_u_law_next)  : FOk P w K mg base "_law_next" 1 ["draws"] (spI K 1 f_u_law_next) := by
  refine fok_io (k := 0) D sc_u_law_next (by decide) bi_u_law_next fun f cdv A outer s H E hr tk po => ?_
  have hu := room_u hr
  have nd : N_u_law_next.Nodup := by decide +kernel
  exact dss_cons (ds_if (dt_of (dv 0)) (dss_one (ds_ret (de_m0 (pv 0) PySem.F.slot_list_pop PySem.F.type_list_pop m_pop))) (dss_nil)) (dss_one (ds_ret (de_int)))
theorem sc_u_law_more : FnScope N_u_law_more ["draws", "many"] (defScope s_u_law_more) := ⟨rfl, rfl, rfl, by decide +kernel, rfl, by decide +kernel, by decide +kernel⟩
theorem bi_u_law_more : BindOk "_law_more" s_u_law_more ["draws", "many"] := fun _ _ _ _ _ _ us hl => match us, hl with | [_, _], _ => rfl
theorem ok_u_law_more (T : Txt K mg C_TallyError C_NotMatrix C_NotPointed C_NotSide C_NotVector C_NotCost C_BadNumber C_NoAnswer C_TooLarge) (D : Def K mg "_law_more" s_u_law_more) (C_u_law_next : FOk P w K mg base "_law_next" 1 ["draws"] (spI K 1 f_u_law_next)) : FOk P w K mg base "_law_more" 2 ["draws", "many"] (spI K 2 f_u_law_more) := by
  refine fok_io (k := 1) D sc_u_law_more (by decide) bi_u_law_more fun f cdv A outer s H E hr tk po => ?_
  have hu := room_u hr
  have nd : N_u_law_more.Nodup := by decide +kernel
  exact dss_cons (ds_set (i := 2) (de_bin o_add (de_bin o_add (de_bin o_mul (de_int) (de_callI C_u_law_next (hr.mono (by decide)) (fun _ => L2N.passAt tk _) (da_cons (dv 0) (da_nil)) (hlen := (aCons_len aNil_len)))) (de_callI C_u_law_next (hr.mono (by decide)) (fun _ => L2N.passAt tk _) (da_cons (dv 0) (da_nil)) (hlen := (aCons_len aNil_len)))) (de_int)) nd) (dss_cons (ds_setL (i := 3) (dl_lst (da_nil)) nd) (dss_cons (ds_for po rfl (di_range1 T.b_range (da_cons (dv 1) (da_nil))) (dg_name nd) (dss_cons (ds_set (i := 2) (de_bin o_mod (de_ct c_int T.b_int bt_int (da_cons (de_bin o_add (de_bin o_mul (dv 2) (de_int)) (de_int)) (da_nil))) (de_int)) nd) (dss_one (ds_expr (de_m (pv 3) PySem.F.slot_list_append PySem.F.type_list_append m_append (da_cons (de_bin o_mod (de_ct c_int T.b_int bt_int (da_cons (de_bin o_div (dv 2) (de_int)) (da_nil))) (de_int)) (da_nil))))))) (dss_one (ds_retL (dl_bin o_addL (dv 3) (dv 0))))))
theorem sc_u_law_dot : FnScope N_u_law_dot ["one", "other"] (defScope s_u_law_dot) := ⟨rfl, rfl, rfl, by decide +kernel, rfl, by decide +kernel, by decide +kernel⟩
theorem bi_u_law_dot : BindOk "_law_dot" s_u_law_dot ["one", "other"] := fun _ _ _ _ _ _ us hl => match us, hl with | [_, _], _ => rfl
theorem ok_u_law_dot (T : Txt K mg C_TallyError C_NotMatrix C_NotPointed C_NotSide C_NotVector C_NotCost C_BadNumber C_NoAnswer C_TooLarge) (D : Def K mg "_law_dot" s_u_law_dot)  : FOk P w K mg base "_law_dot" 1 ["one", "other"] (spP K mg 2 f_u_law_dot) := by
  refine fok_data (k := 0) D sc_u_law_dot bi_u_law_dot fun f cdv A outer s H E hr tk po => ?_
  have hu := room_u hr
  have nd : N_u_law_dot.Nodup := by decide +kernel
  exact dss_one (ds_ret (de_cb (c_sum rfl) T.b_sum bt_sum (da_cons (de_of (dl_comp (own := [("k", 2)]) rfl nd (di_range1 T.b_range (da_cons (de_cb c_len T.b_len bt_len (da_cons (dv 0) (da_nil))) (da_nil))) (blkOk_by (by first | decide +kernel | exact rfl)) (fun _ _ _ _ _ => dg_name nd) (fun _ _ _ _ _ => dts_nil) (fun _ _ _ _ _ => de_bin o_mul (de_ix i_ix (dv 0) (dv 2)) (de_ix i_ix (dv 1) (dv 2))))) (da_nil))))
theorem sc_u_law_vector : FnScope N_u_law_vector ["draws", "many", "low", "high"] (defScope s_u_law_vector) := ⟨rfl, rfl, rfl, by decide +kernel, rfl, by decide +kernel, by decide +kernel⟩
theorem bi_u_law_vector : BindOk "_law_vector" s_u_law_vector ["draws", "many", "low", "high"] := fun _ _ _ _ _ _ us hl => match us, hl with | [_, _, _, _], _ => rfl
theorem ok_u_law_vector (T : Txt K mg C_TallyError C_NotMatrix C_NotPointed C_NotSide C_NotVector C_NotCost C_BadNumber C_NoAnswer C_TooLarge) (D : Def K mg "_law_vector" s_u_law_vector) (C_u_law_next : FOk P w K mg base "_law_next" 1 ["draws"] (spI K 1 f_u_law_next)) : FOk P w K mg base "_law_vector" 2 ["draws", "many", "low", "high"] (spI K 4 f_u_law_vector) := by
  refine fok_io (k := 1) D sc_u_law_vector (by decide) bi_u_law_vector fun f cdv A outer s H E hr tk po => ?_
  have hu := room_u hr
  have nd : N_u_law_vector.Nodup := by decide +kernel
  exact dss_one (ds_ret (de_ct c_tuple T.b_tuple bt_tuple (da_cons (de_of (dl_comp (own := [("k", 4)]) rfl nd (di_range1 T.b_range (da_cons (dv 1) (da_nil))) (blkOk_by (by first | decide +kernel | exact rfl)) (fun _ _ _ _ _ => dg_name nd) (fun _ _ _ _ _ => dts_nil) (fun _ _ _ _ _ => de_bin o_add (dv 2) (de_bin o_mod (de_ct c_int T.b_int bt_int (da_cons (de_callI C_u_law_next (hr.mono (by decide)) (passN) (da_cons (dv 0) (da_nil)) (hlen := (aCons_len aNil_len))) (da_nil))) (de_bin o_add (de_bin o_sub (dv 3) (dv 2)) (de_int)))))) (da_nil))))
theorem sc_u_law_step : FnScope N_u_law_step ["vector"] (defScope s_u_law_step) := ⟨rfl, rfl, rfl, by decide +kernel, rfl, by decide +kernel, by decide +kernel⟩
theorem bi_u_law_step : BindOk "_law_step" s_u_law_step ["vector"] := fun _ _ _ _ _ _ us hl => match us, hl with | [_], _ => rfl
theorem ok_u_law_step (T : Txt K mg C_TallyError C_NotMatrix C_NotPointed C_NotSide C_NotVector C_NotCost C_BadNumber C_NoAnswer C_TooLarge) (D : Def K mg "_law_step" s_u_law_step)  : FOk P w K mg base "_law_step" 1 ["vector"] (spP K mg 1 f_u_law_step) := by
  refine fok_data (k := 0) D sc_u_law_step bi_u_law_step fun f cdv A outer s H E hr tk po => ?_
  have hu := room_u hr
  have nd : N_u_law_step.Nodup := by decide +kernel
  exact dss_one (ds_ret (de_cb (c_min rfl hu) T.b_min bt_min (da_cons (de_of (dl_bin o_addL (de_of (dl_comp (own := [("k", 1)]) rfl nd (di_range1 T.b_range (da_cons (de_cb c_len T.b_len bt_len (da_cons (dv 0) (da_nil))) (da_nil))) (blkOk_by (by first | decide +kernel | exact rfl)) (fun _ _ _ _ _ => dg_name nd) (fun _ _ _ _ _ => dts_one (dt_cmp (o_ne hu) (de_ix i_ix (dv 0) (dv 1)) (de_int))) (fun _ _ _ _ _ => dv 1))) (de_of (dl_lst (da_cons (de_cb c_len T.b_len bt_len (da_cons (dv 0) (da_nil))) (da_nil)))))) (da_nil))))
theorem sc_u_law_in : FnScope N_u_law_in ["basis", "vector"] (defScope s_u_law_in) := ⟨rfl, rfl, rfl, by decide +kernel, rfl, by decide +kernel, by decide +kernel⟩
theorem bi_u_law_in : BindOk "_law_in" s_u_law_in ["basis", "vector"] := fun _ _ _ _ _ _ us hl => match us, hl with | [_, _], _ => rfl
theorem ok_u_law_in (T : Txt K mg C_TallyError C_NotMatrix C_NotPointed C_NotSide C_NotVector C_NotCost C_BadNumber C_NoAnswer C_TooLarge) (D : Def K mg "_law_in" s_u_law_in) (C_u_law_step : FOk P w K mg base "_law_step" 1 ["vector"] (spP K mg 1 f_u_law_step)) : FOk P w K mg base "_law_in" 2 ["basis", "vector"] (spP K mg 2 f_u_law_in) := by
  refine fok_data (k := 1) D sc_u_law_in bi_u_law_in fun f cdv A outer s H E hr tk po => ?_
  have hu := room_u hr
  have nd : N_u_law_in.Nodup := by decide +kernel
  exact dss_cons (ds_setL (i := 2) (dl_lst (da_nil)) nd) (dss_cons (ds_for po rfl (di_seq (dv 0)) (dg_name nd) (dss_cons (ds_set (i := 4) (de_call C_u_law_step (hr.mono (by decide)) (fun _ => L2N.passAt tk _) (da_cons (dv 3) (da_nil)) (hlen := (aCons_len aNil_len))) nd) (dss_cons (ds_set (i := 5) (de_bin o_div (de_ix i_ix (dv 1) (dv 4)) (de_ix i_ix (dv 3) (dv 4))) nd) (dss_cons (ds_expr (de_m (pv 2) PySem.F.slot_list_append PySem.F.type_list_append m_append (da_cons (dv 5) (da_nil)))) (dss_one (ds_set (i := 1) (de_ct c_tuple T.b_tuple bt_tuple (da_cons (de_of (dl_comp (own := [("k", 6)]) rfl nd (di_range1 T.b_range (da_cons (de_cb c_len T.b_len bt_len (da_cons (dv 1) (da_nil))) (da_nil))) (blkOk_by (by first | decide +kernel | exact rfl)) (fun _ _ _ _ _ => dg_name nd) (fun _ _ _ _ _ => dts_nil) (fun _ _ _ _ _ => de_bin o_sub (de_ix i_ix (dv 1) (dv 6)) (de_bin o_mul (dv 5) (de_ix i_ix (dv 3) (dv 6)))))) (da_nil))) nd)))))) (dss_one (ds_ret (de_if (dt_of (de_cb (c_any rfl) T.b_any bt_any (da_cons (de_of (dl_comp (own := [("entry", 7)]) rfl nd (di_seq (dv 1)) (blkOk_by (by first | decide +kernel | exact rfl)) (fun _ _ _ _ _ => dg_name nd) (fun _ _ _ _ _ => dts_nil) (fun _ _ _ _ _ => de_cmp (o_ne hu) (dv 7) (de_int)))) (da_nil)))) (de_non) (de_ct c_tuple T.b_tuple bt_tuple (da_cons (dv 2) (da_nil)))))))
theorem sc_u_law_reduced : FnScope N_u_law_reduced ["vectors", "size"] (defScope s_u_law_reduced) := ⟨rfl, rfl, rfl, by decide +kernel, rfl, by decide +kernel, by decide +kernel⟩
theorem bi_u_law_reduced : BindOk "_law_reduced" s_u_law_reduced ["vectors", "size"] := fun _ _ _ _ _ _ us hl => match us, hl with | [_, _], _ => rfl
theorem ok_u_law_reduced (T : Txt K mg C_TallyError C_NotMatrix C_NotPointed C_NotSide C_NotVector C_NotCost C_BadNumber C_NoAnswer C_TooLarge) (D : Def K mg "_law_reduced" s_u_law_reduced)  : FOk P w K mg base "_law_reduced" 1 ["vectors", "size"] (spP K mg 2 f_u_law_reduced) := by
  refine fok_data (k := 0) D sc_u_law_reduced bi_u_law_reduced fun f cdv A outer s H E hr tk po => ?_
  have hu := room_u hr
  have nd : N_u_law_reduced.Nodup := by decide +kernel
  exact dss_cons (ds_setC (i := 2) (own := [("vector", 13)]) rfl nd (di_seq (dv 0)) (blkOk_by (by first | decide +kernel | exact rfl)) (fun _ _ _ _ _ => dg_name nd) (fun _ _ _ _ _ => dts_nil) (fun _ _ _ _ _ => de_of (dl_ct c_list T.b_list bt_list (da_cons (dv 13) (da_nil)))) (sw_true rfl rfl rfl (by decide +kernel))) (dss_cons (ds_set (i := 3) (de_of (dl_lst (da_nil))) nd) (dss_cons (ds_for po rfl (di_range1 T.b_range (da_cons (dv 1) (da_nil))) (dg_name nd) (dss_cons (ds_for po rfl (di_range1 T.b_range (da_cons (de_bin o_pow (de_int) (de_int)) (da_nil))) (dg_name nd) (dss_cons (ds_setC (i := 7) (own := [("row", 6)]) rfl nd (di_seq (dv 2)) (blkOk_by (by first | decide +kernel | exact rfl)) (fun _ _ _ _ _ => dg_name nd) (fun _ _ _ _ _ => dts_one (dt_cmp (o_ne hu) (de_ix i_ix (dv 6) (dv 4)) (de_int))) (fun _ _ _ _ _ => dv 6) (sw_true rfl rfl rfl (by decide +kernel))) (dss_cons (ds_if (dt_cmp (o_lt hu) (de_cb c_len T.b_len bt_len (da_cons (dv 7) (da_nil))) (de_int)) (dss_one (ds_break)) (dss_nil)) (dss_cons (ds_set (i := 7) (de_of (dl_cb (c_sorted hu) T.b_sorted bt_sorted (da_cons (de_of (dl_comp (own := [("row", 6)]) rfl nd (di_seq (dv 7)) (blkOk_by (by first | decide +kernel | exact rfl)) (fun _ _ _ _ _ => dg_name nd) (fun _ _ _ _ _ => dts_nil) (fun _ _ _ _ _ => de_tup (da_cons (de_cb c_abs T.b_abs bt_abs (da_cons (de_ix i_ix (dv 6) (dv 4)) (da_nil))) (da_cons (dv 6) (da_nil)))))) (da_nil)))) nd) (dss_cons (ds_set (i := 8) (de_ix i_ix (de_ix i_ix (dv 7) (de_int)) (de_int)) nd) (dss_cons (ds_setC (i := 9) (own := [("row", 6)]) rfl nd (di_seq (dv 2)) (blkOk_by (by first | decide +kernel | exact rfl)) (fun _ _ _ _ _ => dg_name nd) (fun _ _ _ _ _ => dts_one (dt_cmp (o_eq hu) (de_ix i_ix (dv 6) (dv 4)) (de_int))) (fun _ _ _ _ _ => dv 6) (sw_true rfl rfl rfl (by decide +kernel))) (dss_cons (ds_for po rfl (di_seq (de_of (dl_cut (dv 7) (dp_some (de_int)) (dp_no)))) (dg_tup rfl (dgs_cons (dg_name nd) (dgs_cons (dg_name nd) (dgs_nil))) (hlen := bLen2)) (dss_cons (ds_set (i := 11) (de_bin o_div (de_ix i_ix (dv 6) (dv 4)) (de_ix i_ix (dv 8) (dv 4))) nd) (dss_one (ds_expr (de_m (pv 9) PySem.F.slot_list_append PySem.F.type_list_append m_append (da_cons (de_of (dl_comp (own := [("k", 14)]) rfl nd (di_range1 T.b_range (da_cons (dv 1) (da_nil))) (blkOk_by (by first | decide +kernel | exact rfl)) (fun _ _ _ _ _ => dg_name nd) (fun _ _ _ _ _ => dts_nil) (fun _ _ _ _ _ => de_bin o_sub (de_ix i_ix (dv 6) (dv 14)) (de_bin o_mul (dv 11) (de_ix i_ix (dv 8) (dv 14)))))) (da_nil))))))) (dss_one (ds_set (i := 2) (de_of (dl_bin o_addL (dv 9) (de_of (dl_lst (da_cons (dv 8) (da_nil)))))) nd))))))))) (dss_cons (ds_setC (i := 7) (own := [("row", 6)]) rfl nd (di_seq (dv 2)) (blkOk_by (by first | decide +kernel | exact rfl)) (fun _ _ _ _ _ => dg_name nd) (fun _ _ _ _ _ => dts_one (dt_cmp (o_ne hu) (de_ix i_ix (dv 6) (dv 4)) (de_int))) (fun _ _ _ _ _ => dv 6) (sw_true rfl rfl rfl (by decide +kernel))) (dss_one (ds_if (dt_of (dv 7)) (dss_cons (ds_set (i := 12) (de_if (dt_cmp (o_gt hu) (de_ix i_ix (de_ix i_ix (dv 7) (de_int)) (dv 4)) (de_int)) (de_ix i_ix (dv 7) (de_int)) (de_of (dl_comp (own := [("entry", 15)]) rfl nd (di_seq (de_ix i_ix (dv 7) (de_int))) (blkOk_by (by first | decide +kernel | exact rfl)) (fun _ _ _ _ _ => dg_name nd) (fun _ _ _ _ _ => dts_nil) (fun _ _ _ _ _ => de_bin o_sub (de_int) (dv 15))))) nd) (dss_cons (ds_setC (i := 2) (own := [("row", 6)]) rfl nd (di_seq (dv 2)) (blkOk_by (by first | decide +kernel | exact rfl)) (fun _ _ _ _ _ => dg_name nd) (fun _ _ _ _ _ => dts_one (dt_cmp (o_eq hu) (de_ix i_ix (dv 6) (dv 4)) (de_int))) (fun _ _ _ _ _ => dv 6) (sw_true rfl rfl rfl (by decide +kernel))) (dss_one (ds_set (i := 3) (de_of (dl_bin o_addL (de_of (dl_comp (own := [("row", 6)]) rfl nd (di_seq (dv 3)) (blkOk_by (by first | decide +kernel | exact rfl)) (fun _ _ _ _ _ => dg_name nd) (fun _ _ _ _ _ => dts_nil) (fun _ _ _ _ _ => de_of (dl_comp (own := [("k", 14)]) rfl nd (di_range1 T.b_range (da_cons (dv 1) (da_nil))) (blkOk_by (by first | decide +kernel | exact rfl)) (fun _ _ _ _ _ => dg_name nd) (fun _ _ _ _ _ => dts_nil) (fun _ _ _ _ _ => de_bin o_sub (de_ix i_ix (dv 6) (dv 14)) (de_bin o_mul (de_bin o_div (de_ix i_ix (dv 6) (dv 4)) (de_ix i_ix (dv 12) (dv 4))) (de_ix i_ix (dv 12) (dv 14)))))))) (de_of (dl_lst (da_cons (dv 12) (da_nil)))))) nd)))) (dss_nil)))))) (dss_one (ds_ret (de_ct c_tuple T.b_tuple bt_tuple (da_cons (de_of (dl_comp (own := [("row", 6)]) rfl nd (di_seq (dv 3)) (blkOk_by (by first | decide +kernel | exact rfl)) (fun _ _ _ _ _ => dg_name nd) (fun _ _ _ _ _ => dts_nil) (fun _ _ _ _ _ => de_ct c_tuple T.b_tuple bt_tuple (da_cons (dv 6) (da_nil))))) (da_nil)))))))
theorem sc_u_law_kind : FnScope N_u_law_kind ["error"] (defScope s_u_law_kind) := ⟨rfl, rfl, rfl, by decide +kernel, rfl, by decide +kernel, by decide +kernel⟩
theorem bi_u_law_kind : BindOk "_law_kind" s_u_law_kind ["error"] := fun _ _ _ _ _ _ us hl => match us, hl with | [_], _ => rfl
theorem body_u_law_kind {C : Addr} {z_NotMatrix z_NotPointed z_NotSide z_NotVector z_NotCost z_BadNumber z_NoAnswer z_TooLarge : Bool} (T : Txt K mg C_TallyError C_NotMatrix C_NotPointed C_NotSide C_NotVector C_NotCost C_BadNumber C_NoAnswer C_TooLarge) (ec : ExcC K C) (h_NotMatrix : ∃ G, mg "NotMatrix" = some (.ref G) ∧ PySem.W.kitOne K (.ref C) (.ref G) = some z_NotMatrix) (h_NotPointed : ∃ G, mg "NotPointed" = some (.ref G) ∧ PySem.W.kitOne K (.ref C) (.ref G) = some z_NotPointed) (h_NotSide : ∃ G, mg "NotSide" = some (.ref G) ∧ PySem.W.kitOne K (.ref C) (.ref G) = some z_NotSide) (h_NotVector : ∃ G, mg "NotVector" = some (.ref G) ∧ PySem.W.kitOne K (.ref C) (.ref G) = some z_NotVector) (h_NotCost : ∃ G, mg "NotCost" = some (.ref G) ∧ PySem.W.kitOne K (.ref C) (.ref G) = some z_NotCost) (h_BadNumber : ∃ G, mg "BadNumber" = some (.ref G) ∧ PySem.W.kitOne K (.ref C) (.ref G) = some z_BadNumber) (h_NoAnswer : ∃ G, mg "NoAnswer" = some (.ref G) ∧ PySem.W.kitOne K (.ref C) (.ref G) = some z_NoAnswer) (h_TooLarge : ∃ G, mg "TooLarge" = some (.ref G) ∧ PySem.W.kitOne K (.ref C) (.ref G) = some z_TooLarge) (f : Addr) (cdv : Value) (A : Around) (outer : List Env) (s : Shared) (H : Hp) (E : XK) (p : Addr × Obj) (hot : L2H.Hot1 A p) (hz : L2N.Zn (.ref C) none p.2) (hr : L2H.RoomH 0 (A.deeper (envOfC "_law_kind" (defScope s_u_law_kind) s.heap.objs.size f cdv))) :
    DSs (L2H.cxH (L2N.CX P w) P w K mg base N_u_law_kind "_law_kind" (defScope s_u_law_kind) f cdv A outer s H E p) W0 (defBody s_u_law_kind) (b_u_law_kind z_NotMatrix z_NotPointed z_NotSide z_NotVector z_NotCost z_BadNumber z_NoAnswer z_TooLarge p.1) := by
  have hu : (A.deeper (envOfC "_law_kind" (defScope s_u_law_kind) s.heap.objs.size f cdv)).units + 200 < cLine := by have := hr.un; omega
  have nd : N_u_law_kind.Nodup := by decide +kernel
  have hfl : ∃ vs, p.2.data = .fields vs := let ⟨_, vs, e, _⟩ := hot; ⟨vs, e⟩
  have hp : (p.1, p.2) ∈ (L2H.cxH (L2N.CX P w) P w K mg base N_u_law_kind "_law_kind" (defScope s_u_law_kind) f cdv A outer s H E p).pn := List.mem_cons_self
  replace hz := hz.zc
  exact dss_cons (ds_set (i := 1) (de_of (dl_lst (da_cons (de_isT ec hp hz hfl T.b_isinstance bt_isinstance (pv 0) h_NotMatrix) (da_cons (de_isT ec hp hz hfl T.b_isinstance bt_isinstance (pv 0) h_NotPointed) (da_cons (de_isT ec hp hz hfl T.b_isinstance bt_isinstance (pv 0) h_NotSide) (da_cons (de_isT ec hp hz hfl T.b_isinstance bt_isinstance (pv 0) h_NotVector) (da_nil))))))) nd) (dss_cons (ds_set (i := 1) (de_of (dl_bin o_addL (dv 1) (de_of (dl_lst (da_cons (de_isT ec hp hz hfl T.b_isinstance bt_isinstance (pv 0) h_NotCost) (da_cons (de_isT ec hp hz hfl T.b_isinstance bt_isinstance (pv 0) h_BadNumber) (da_cons (de_isT ec hp hz hfl T.b_isinstance bt_isinstance (pv 0) h_NoAnswer) (da_cons (de_isT ec hp hz hfl T.b_isinstance bt_isinstance (pv 0) h_TooLarge) (da_nil))))))))) nd) (dss_cons (ds_if (dt_cmp (o_ne hu) (de_mr (dv 1) PySem.F.slot_list_count PySem.F.type_list_count (m_count (u_count hu)) mflat_count (da_cons (de_bl) (da_nil))) (de_int)) (dss_one (ds_ret (de_str))) (dss_nil)) (dss_one (ds_ret (de_ix i_ix (de_of (dl_lst (da_cons (de_str) (da_cons (de_str) (da_cons (de_str) (da_cons (de_str) (da_cons (de_str) (da_cons (de_str) (da_cons (de_str) (da_cons (de_str) (da_nil))))))))))) (de_mr (dv 1) PySem.F.slot_list_index PySem.F.type_list_index (m_index (u_index hu)) mflat_index (da_cons (de_bl) (da_nil))))))))
theorem res_u_law_kind_BadNumber (a : Addr) : ∃ ρ, b_u_law_kind false false false false false true false false a (startK N_u_law_kind.length a) = .rt (.val (.str "!number")) ρ := by
  simp [b_u_law_kind, startK, mCount, SeqAt.shaped, PyData.plainAll, PyData.plain, PyData.eqv, PyData.canLay0, PyData.canLayAll0, PyData.depth, PyData.depthAll, mIndex, List.findIdx?_cons, atI, ixN]
theorem ok_u_law_kind (T : Txt K mg C_TallyError C_NotMatrix C_NotPointed C_NotSide C_NotVector C_NotCost C_BadNumber C_NoAnswer C_TooLarge) (D : Def K mg "_law_kind" s_u_law_kind) : KOk P w K mg base "_law_kind" 1 (.ref C_TallyError) h_u_law_kind := by
  refine kok_of (k := 0) D sc_u_law_kind bi_u_law_kind rfl (by decide) fun y d hy => ?_
  obtain ⟨x, z, hm, rfl, rfl⟩ := kindD_mem hy
  simp only [t_u_law_kind, List.mem_cons, Prod.mk.injEq, List.not_mem_nil, or_false] at hm
  rcases hm with ⟨rfl, rfl⟩
  · exact ⟨C_BadNumber, T.g_BadNumber, rfl, T.m_BadNumber_TallyError, ⟨_, rfl⟩, b_u_law_kind false false false false false true false false, fun a => res_u_law_kind_BadNumber a, body_u_law_kind T T.e_BadNumber ⟨_, T.g_NotMatrix, T.k_BadNumber_NotMatrix⟩ ⟨_, T.g_NotPointed, T.k_BadNumber_NotPointed⟩ ⟨_, T.g_NotSide, T.k_BadNumber_NotSide⟩ ⟨_, T.g_NotVector, T.k_BadNumber_NotVector⟩ ⟨_, T.g_NotCost, T.k_BadNumber_NotCost⟩ ⟨_, T.g_BadNumber, T.k_BadNumber_BadNumber⟩ ⟨_, T.g_NoAnswer, T.k_BadNumber_NoAnswer⟩ ⟨_, T.g_TooLarge, T.k_BadNumber_TooLarge⟩⟩
theorem sc_u_law_told : FnScope N_u_law_told ["which", "vectors", "given"] (defScope s_u_law_told) := ⟨rfl, rfl, rfl, by decide +kernel, rfl, by decide +kernel, by decide +kernel⟩
theorem bi_u_law_told : BindOk "_law_told" s_u_law_told ["which", "vectors", "given"] := fun _ _ _ _ _ _ us hl => match us, hl with | [_, _, _], _ => rfl
theorem ok_u_law_told (T : Txt K mg C_TallyError C_NotMatrix C_NotPointed C_NotSide C_NotVector C_NotCost C_BadNumber C_NoAnswer C_TooLarge) (D : Def K mg "_law_told" s_u_law_told) (C_coordinates : FOk P w K mg base "coordinates" 6 ["vectors", "vector"] (spP K mg 2 f_coordinates)) (C_orthogonal : FOk P w K mg base "orthogonal" 5 ["vectors", "many"] (spP K mg 2 f_orthogonal)) (K_u_law_kind : KOk P w K mg base "_law_kind" 1 (.ref C_TallyError) h_u_law_kind) : FOk P w K mg base "_law_told" 7 ["which", "vectors", "given"] (spP K mg 3 f_u_law_told) := by
  refine fok_data (k := 6) D sc_u_law_told bi_u_law_told fun f cdv A outer s H E hr tk po => ?_
  have hu := room_u hr
  have nd : N_u_law_told.Nodup := by decide +kernel
  exact dss_one (ds_tryAs rfl rfl nd rfl rfl ⟨rfl, by decide, .inl T.g_TallyError⟩ tk (fun W' pn xe tk' po' => dss_one (ds_ret (de_sel (k := 6) (Sel.one C_coordinates (by decide) (Sel.one C_orthogonal (by decide) ⟨[], .nil⟩)) (by decide) (hr.mono (by decide)) (fun _ => L2N.passAt tk' _) (dv 0) (da_cons (dv 1) (da_cons (dv 2) (da_nil))) (hlen := (aCons_len (aCons_len aNil_len)))))) (suite_kind K_u_law_kind hr (by decide) (fun _ _ => pv 3)))
theorem sc_u_law_orthogonal : FnScope N_u_law_orthogonal ["vectors", "many"] (defScope s_u_law_orthogonal) := ⟨rfl, rfl, rfl, by decide +kernel, rfl, by decide +kernel, by decide +kernel⟩
theorem bi_u_law_orthogonal : BindOk "_law_orthogonal" s_u_law_orthogonal ["vectors", "many"] := fun _ _ _ _ _ _ us hl => match us, hl with | [_, _], _ => rfl
theorem ok_u_law_orthogonal (T : Txt K mg C_TallyError C_NotMatrix C_NotPointed C_NotSide C_NotVector C_NotCost C_BadNumber C_NoAnswer C_TooLarge) (D : Def K mg "_law_orthogonal" s_u_law_orthogonal) (C_u_law_reduced : FOk P w K mg base "_law_reduced" 1 ["vectors", "size"] (spP K mg 2 f_u_law_reduced)) (C_u_law_step : FOk P w K mg base "_law_step" 1 ["vector"] (spP K mg 1 f_u_law_step)) : FOk P w K mg base "_law_orthogonal" 2 ["vectors", "many"] (spP K mg 2 f_u_law_orthogonal) := by
  refine fok_data (k := 1) D sc_u_law_orthogonal bi_u_law_orthogonal fun f cdv A outer s H E hr tk po => ?_
  have hu := room_u hr
  have nd : N_u_law_orthogonal.Nodup := by decide +kernel
  exact dss_cons (ds_set (i := 2) (de_cb c_len T.b_len bt_len (da_cons (dv 0) (da_nil))) nd) (dss_cons (ds_setC (i := 3) (own := [("j", 5)]) rfl nd (di_range1 T.b_range (da_cons (dv 1) (da_nil))) (blkOk_by (by first | decide +kernel | exact rfl)) (fun _ _ _ _ _ => dg_name nd) (fun _ _ _ _ _ => dts_nil) (fun _ _ _ _ _ => de_bin o_add (de_ct c_tuple T.b_tuple bt_tuple (da_cons (de_of (dl_comp (own := [("i", 6)]) rfl nd (di_range1 T.b_range (da_cons (dv 2) (da_nil))) (blkOk_by (by first | decide +kernel | exact rfl)) (fun _ _ _ _ _ => dg_name nd) (fun _ _ _ _ _ => dts_nil) (fun _ _ _ _ _ => de_ix i_ix (de_ix i_ix (dv 0) (dv 6)) (dv 5)))) (da_nil))) (de_ct c_tuple T.b_tuple bt_tuple (da_cons (de_of (dl_comp (own := [("k", 7)]) rfl nd (di_range1 T.b_range (da_cons (dv 1) (da_nil))) (blkOk_by (by first | decide +kernel | exact rfl)) (fun _ _ _ _ _ => dg_name nd) (fun _ _ _ _ _ => dts_nil) (fun _ _ _ _ _ => de_ct c_int T.b_int bt_int (da_cons (de_cmp (o_eq hu) (dv 7) (dv 5)) (da_nil))))) (da_nil)))) (sw_true rfl rfl rfl (by decide +kernel))) (dss_cons (ds_set (i := 4) (de_call C_u_law_reduced (hr.mono (by decide)) (fun _ => L2N.passAt tk _) (da_cons (dv 3) (da_cons (de_bin o_add (dv 2) (dv 1)) (da_nil))) (hlen := (aCons_len (aCons_len aNil_len)))) nd) (dss_one (ds_ret (de_call C_u_law_reduced (hr.mono (by decide)) (fun _ => L2N.passAt tk _) (da_cons (de_of (dl_comp (own := [("row", 8)]) rfl nd (di_seq (dv 4)) (blkOk_by (by first | decide +kernel | exact rfl)) (fun _ _ _ _ _ => dg_name nd) (fun _ _ _ _ _ => dts_one (dt_cmp (o_ge hu) (de_call C_u_law_step (hr.mono (by decide)) (passN) (da_cons (dv 8) (da_nil)) (hlen := (aCons_len aNil_len))) (dv 2))) (fun _ _ _ _ _ => de_cut (dv 8) (dp_some (dv 2)) (dp_no)))) (da_cons (dv 1) (da_nil))) (hlen := (aCons_len (aCons_len aNil_len))))))))
theorem sc_law : FnScope N_law ["script"] (defScope s_law) := ⟨rfl, rfl, rfl, by decide +kernel, rfl, by decide +kernel, by decide +kernel⟩
theorem bi_law : BindOk "law" s_law ["script"] := fun _ _ _ _ _ _ us hl => match us, hl with | [_], _ => rfl
theorem ok_law (T : Txt K mg C_TallyError C_NotMatrix C_NotPointed C_NotSide C_NotVector C_NotCost C_BadNumber C_NoAnswer C_TooLarge) {f : Addr} {fd : FuncData} (F : Fun K "law" "law" s_law f fd) (C_u_law_draws : FOk P w K mg base "_law_draws" 2 ["script"] (spP K mg 1 f_u_law_draws)) (C_u_law_more : FOk P w K mg base "_law_more" 2 ["draws", "many"] (spI K 2 f_u_law_more)) (C_u_law_next : FOk P w K mg base "_law_next" 1 ["draws"] (spI K 1 f_u_law_next)) (C_u_law_reduced : FOk P w K mg base "_law_reduced" 1 ["vectors", "size"] (spP K mg 2 f_u_law_reduced)) (C_u_law_vector : FOk P w K mg base "_law_vector" 2 ["draws", "many", "low", "high"] (spI K 4 f_u_law_vector)) (C_u_law_told : FOk P w K mg base "_law_told" 7 ["which", "vectors", "given"] (spP K mg 3 f_u_law_told)) (C_u_law_in : FOk P w K mg base "_law_in" 2 ["basis", "vector"] (spP K mg 2 f_u_law_in)) (C_u_law_orthogonal : FOk P w K mg base "_law_orthogonal" 2 ["vectors", "many"] (spP K mg 2 f_u_law_orthogonal)) (C_u_law_dot : FOk P w K mg base "_law_dot" 1 ["one", "other"] (spP K mg 2 f_u_law_dot)) : LawRun P w K mg base f fd ["script"] (spP K mg 1 f_law) := by
  refine law_run (k := 7) F sc_law ⟨rfl, by decide, by decide⟩ fun cdv s H hr tk po => ?_
  have hu := room_u hr
  have hgd : (cxN P w K mg base N_law "law" s_law f cdv callerA [] s H (fun _ _ _ => False)).A.guards = some [] := rfl
  have nd : N_law.Nodup := by decide +kernel
  exact dss_cons (ds_setL (i := 1) (dl_call C_u_law_draws (hr.mono (by decide)) (fun _ => L2N.passAt tk _) (da_cons (dv 0) (da_nil)) (hlen := (aCons_len aNil_len))) nd) (dss_cons (ds_expr (de_m0 (pv 1) PySem.F.slot_list_reverse PySem.F.type_list_reverse m_reverse)) (dss_cons (ds_setL (i := 1) (dl_callI C_u_law_more (hr.mono (by decide)) (fun _ => L2N.passAt tk _) (da_cons (dv 1) (da_cons (de_int) (da_nil))) (hlen := (aCons_len (aCons_len aNil_len)))) nd) (dss_cons (ds_set (i := 2) (de_bin o_add (de_int) (de_bin o_mod (de_ct c_int T.b_int bt_int (da_cons (de_callI C_u_law_next (hr.mono (by decide)) (fun _ => L2N.passAt tk _) (da_cons (dv 1) (da_nil)) (hlen := (aCons_len aNil_len))) (da_nil))) (de_int))) nd) (dss_cons (ds_set (i := 3) (de_call C_u_law_reduced (hr.mono (by decide)) (fun _ => L2N.passAt tk _) (da_cons (de_of (dl_comp (own := [("k", 10)]) rfl nd (di_range1 T.b_range (da_cons (de_bin o_mod (de_ct c_int T.b_int bt_int (da_cons (de_callI C_u_law_next (hr.mono (by decide)) (fun _ => L2N.passAt tk _) (da_cons (dv 1) (da_nil)) (hlen := (aCons_len aNil_len))) (da_nil))) (de_int)) (da_nil))) (blkOk_by (by first | decide +kernel | exact rfl)) (fun _ _ _ _ _ => dg_name nd) (fun _ _ _ _ _ => dts_nil) (fun _ _ _ _ _ => de_callI C_u_law_vector (hr.mono (by decide)) (passN) (da_cons (dv 1) (da_cons (dv 2) (da_cons (de_un o_neg (de_int)) (da_cons (de_int) (da_nil))))) (hlen := (aCons_len (aCons_len (aCons_len (aCons_len aNil_len)))))))) (da_cons (dv 2) (da_nil))) (hlen := (aCons_len (aCons_len aNil_len)))) nd) (dss_cons (ds_for po rfl (di_range1 T.b_range (da_cons (de_int) (da_nil))) (dg_name nd) (dss_cons (ds_set (i := 5) (de_callI C_u_law_vector (hr.mono (by decide)) (fun _ => L2N.passAt tk _) (da_cons (dv 1) (da_cons (dv 2) (da_cons (de_un o_neg (de_int)) (da_cons (de_int) (da_nil))))) (hlen := (aCons_len (aCons_len (aCons_len (aCons_len aNil_len)))))) nd) (dss_cons (ds_if (dt_cmp (o_eq hu) (de_bin o_mod (de_ct c_int T.b_int bt_int (da_cons (de_callI C_u_law_next (hr.mono (by decide)) (fun _ => L2N.passAt tk _) (da_cons (dv 1) (da_nil)) (hlen := (aCons_len aNil_len))) (da_nil))) (de_int)) (de_int)) (dss_cons (ds_set (i := 5) (de_bin o_mulT (de_tup (da_cons (de_int) (da_nil))) (dv 2)) nd) (dss_one (ds_for po rfl (di_seq (dv 3)) (dg_name nd) (dss_cons (ds_set (i := 7) (de_bin o_sub (de_bin o_mod (de_ct c_int T.b_int bt_int (da_cons (de_callI C_u_law_next (hr.mono (by decide)) (fun _ => L2N.passAt tk _) (da_cons (dv 1) (da_nil)) (hlen := (aCons_len aNil_len))) (da_nil))) (de_int)) (de_int)) nd) (dss_one (ds_set (i := 5) (de_ct c_tuple T.b_tuple bt_tuple (da_cons (de_of (dl_comp (own := [("k", 10)]) rfl nd (di_range1 T.b_range (da_cons (dv 2) (da_nil))) (blkOk_by (by first | decide +kernel | exact rfl)) (fun _ _ _ _ _ => dg_name nd) (fun _ _ _ _ _ => dts_nil) (fun _ _ _ _ _ => de_bin o_add (de_ix i_ix (dv 5) (dv 10)) (de_bin o_mul (dv 7) (de_ix i_ix (dv 6) (dv 10)))))) (da_nil))) nd)))))) (dss_nil)) (dss_one (ds_if (dt_cmp (o_ne hu) (de_cb (c_repr hgd hu) T.b_repr bt_repr (da_cons (de_call C_u_law_told (hr.mono (by decide)) (fun _ => L2N.passAt tk _) (da_cons (de_int) (da_cons (de_of (dl_ct c_list T.b_list bt_list (da_cons (dv 3) (da_nil)))) (da_cons (dv 5) (da_nil)))) (hlen := (aCons_len (aCons_len (aCons_len aNil_len))))) (da_nil))) (de_cb (c_repr hgd hu) T.b_repr bt_repr (da_cons (de_call C_u_law_in (hr.mono (by decide)) (fun _ => L2N.passAt tk _) (da_cons (dv 3) (da_cons (dv 5) (da_nil))) (hlen := (aCons_len (aCons_len aNil_len)))) (da_nil)))) (dss_one (ds_ret (de_bl))) (dss_nil)))))) (dss_cons (ds_set (i := 8) (de_of (dl_comp (own := [("k", 10)]) rfl nd (di_range1 T.b_range (da_cons (de_bin o_mod (de_ct c_int T.b_int bt_int (da_cons (de_callI C_u_law_next (hr.mono (by decide)) (fun _ => L2N.passAt tk _) (da_cons (dv 1) (da_nil)) (hlen := (aCons_len aNil_len))) (da_nil))) (de_int)) (da_nil))) (blkOk_by (by first | decide +kernel | exact rfl)) (fun _ _ _ _ _ => dg_name nd) (fun _ _ _ _ _ => dts_nil) (fun _ _ _ _ _ => de_callI C_u_law_vector (hr.mono (by decide)) (passN) (da_cons (dv 1) (da_cons (dv 2) (da_cons (de_un o_neg (de_int)) (da_cons (de_int) (da_nil))))) (hlen := (aCons_len (aCons_len (aCons_len (aCons_len aNil_len)))))))) nd) (dss_cons (ds_set (i := 9) (de_call C_u_law_told (hr.mono (by decide)) (fun _ => L2N.passAt tk _) (da_cons (de_int) (da_cons (dv 8) (da_cons (dv 2) (da_nil)))) (hlen := (aCons_len (aCons_len (aCons_len aNil_len))))) nd) (dss_cons (ds_if (dt_w (dw_or (dt_cmp (o_ne hu) (de_cb (c_repr hgd hu) T.b_repr bt_repr (da_cons (dv 9) (da_nil))) (de_cb (c_repr hgd hu) T.b_repr bt_repr (da_cons (de_call C_u_law_orthogonal (hr.mono (by decide)) (fun _ => L2N.passAt tk _) (da_cons (dv 8) (da_cons (dv 2) (da_nil))) (hlen := (aCons_len (aCons_len aNil_len)))) (da_nil)))) (dw_or1 (dt_of (de_cb (c_any rfl) T.b_any bt_any (da_cons (de_of (dl_comp (own := [("one", 6)]) rfl nd (di_seq (dv 9)) (blkOk_by (by first | decide +kernel | exact rfl)) (fun _ _ _ _ _ => dg_name nd) (fun _ _ _ _ _ => dts_nil) (fun _ _ _ _ _ => de_cb (c_any rfl) T.b_any bt_any (da_cons (de_of (dl_comp (own := [("other", 11)]) rfl nd (di_seq (dv 8)) (blkOk_by (by first | decide +kernel | exact rfl)) (fun _ _ _ _ _ => dg_name nd) (fun _ _ _ _ _ => dts_nil) (fun _ _ _ _ _ => de_cmp (o_ne hu) (de_call C_u_law_dot (hr.mono (by decide)) (passN) (da_cons (dv 6) (da_cons (dv 11) (da_nil))) (hlen := (aCons_len (aCons_len aNil_len)))) (de_int)))) (da_nil))))) (da_nil))))))) (dss_one (ds_ret (de_bl))) (dss_nil)) (dss_cons (ds_for po rfl (di_range1 T.b_range (da_cons (de_int) (da_nil))) (dg_name nd) (dss_cons (ds_set (i := 6) (de_callI C_u_law_vector (hr.mono (by decide)) (fun _ => L2N.passAt tk _) (da_cons (dv 1) (da_cons (dv 2) (da_cons (de_un o_neg (de_int)) (da_cons (de_int) (da_nil))))) (hlen := (aCons_len (aCons_len (aCons_len (aCons_len aNil_len)))))) nd) (dss_one (ds_if (dt_w (dw_and (dt_of (de_cb (c_all rfl) T.b_all bt_all (da_cons (de_of (dl_comp (own := [("other", 11)]) rfl nd (di_seq (dv 8)) (blkOk_by (by first | decide +kernel | exact rfl)) (fun _ _ _ _ _ => dg_name nd) (fun _ _ _ _ _ => dts_nil) (fun _ _ _ _ _ => de_cmp (o_eq hu) (de_call C_u_law_dot (hr.mono (by decide)) (passN) (da_cons (dv 6) (da_cons (dv 11) (da_nil))) (hlen := (aCons_len (aCons_len aNil_len)))) (de_int)))) (da_nil)))) (dw_and1 (dt_cmp o_is (de_call C_u_law_in (hr.mono (by decide)) (fun _ => L2N.passAt tk _) (da_cons (dv 9) (da_cons (dv 6) (da_nil))) (hlen := (aCons_len (aCons_len aNil_len)))) (de_non))))) (dss_one (ds_ret (de_bl))) (dss_nil))))) (dss_cons (ds_if (dt_cmp (o_ne hu) (de_of (dl_lst (da_cons (de_call C_u_law_told (hr.mono (by decide)) (fun _ => L2N.passAt tk _) (da_cons (de_int) (da_cons (de_of (dl_lst (da_cons (de_tup (da_cons (de_int) (da_cons (de_int) (da_nil)))) (da_cons (de_tup (da_cons (de_int) (da_cons (de_int) (da_nil)))) (da_nil))))) (da_cons (de_tup (da_cons (de_int) (da_cons (de_int) (da_nil)))) (da_nil)))) (hlen := (aCons_len (aCons_len (aCons_len aNil_len))))) (da_cons (de_call C_u_law_told (hr.mono (by decide)) (fun _ => L2N.passAt tk _) (da_cons (de_int) (da_cons (de_of (dl_lst (da_cons (de_tup (da_cons (de_int) (da_cons (de_int) (da_nil)))) (da_nil)))) (da_cons (de_tup (da_cons (de_int) (da_nil))) (da_nil)))) (hlen := (aCons_len (aCons_len (aCons_len aNil_len))))) (da_cons (de_call C_u_law_told (hr.mono (by decide)) (fun _ => L2N.passAt tk _) (da_cons (de_int) (da_cons (de_of (dl_lst (da_cons (de_tup (da_cons (de_int) (da_cons (de_int) (da_nil)))) (da_nil)))) (da_cons (de_tup (da_cons (de_int) (da_cons (de_int) (da_nil)))) (da_nil)))) (hlen := (aCons_len (aCons_len (aCons_len aNil_len))))) (da_cons (de_call C_u_law_told (hr.mono (by decide)) (fun _ => L2N.passAt tk _) (da_cons (de_int) (da_cons (de_of (dl_lst (da_cons (de_tup (da_cons (de_un o_neg (de_int)) (da_cons (de_int) (da_nil)))) (da_nil)))) (da_cons (de_tup (da_cons (de_int) (da_cons (de_int) (da_nil)))) (da_nil)))) (hlen := (aCons_len (aCons_len (aCons_len aNil_len))))) (da_nil))))))) (de_of (dl_repL (dl_lst (da_cons (de_str) (da_nil))) (de_int)))) (dss_one (ds_ret (de_bl))) (dss_nil)) (dss_cons (ds_if (dt_w (dw_or (dt_cmp (o_ne hu) (de_of (dl_comp (own := [("many", 12)]) rfl nd (di_seq (de_of (dl_lst (da_cons (de_int) (da_cons (de_int) (da_nil)))))) (blkOk_by (by first | decide +kernel | exact rfl)) (fun _ _ _ _ _ => dg_name nd) (fun _ _ _ _ _ => dts_nil) (fun _ _ _ _ _ => de_call C_u_law_told (hr.mono (by decide)) (passN) (da_cons (de_int) (da_cons (de_of (dl_lst (da_nil))) (da_cons (dv 12) (da_nil)))) (hlen := (aCons_len (aCons_len (aCons_len aNil_len))))))) (de_of (dl_repL (dl_lst (da_cons (de_str) (da_nil))) (de_int)))) (dw_or (dt_cmp (o_ne hu) (de_call C_u_law_told (hr.mono (by decide)) (fun _ => L2N.passAt tk _) (da_cons (de_int) (da_cons (de_of (dl_lst (da_cons (de_tup (da_cons (de_int) (da_cons (de_int) (da_nil)))) (da_nil)))) (da_cons (de_int) (da_nil)))) (hlen := (aCons_len (aCons_len (aCons_len aNil_len))))) (de_str)) (dw_or1 (dt_cmp (o_ne hu) (de_call C_u_law_told (hr.mono (by decide)) (fun _ => L2N.passAt tk _) (da_cons (de_int) (da_cons (de_of (dl_repL (dl_lst (da_cons (de_tup (da_cons (de_int) (da_nil))) (da_nil))) (de_int))) (da_cons (de_int) (da_nil)))) (hlen := (aCons_len (aCons_len (aCons_len aNil_len))))) (de_str)))))) (dss_one (ds_ret (de_bl))) (dss_nil)) (dss_one (ds_ret (de_and (de_cmp (o_eq hu) (de_cb (c_repr hgd hu) T.b_repr bt_repr (da_cons (de_call C_u_law_told (hr.mono (by decide)) (fun _ => L2N.passAt tk _) (da_cons (de_int) (da_cons (de_of (dl_lst (da_nil))) (da_cons (de_int) (da_nil)))) (hlen := (aCons_len (aCons_len (aCons_len aNil_len))))) (da_nil))) (de_cb (c_repr hgd hu) T.b_repr bt_repr (da_cons (de_tup (da_cons (de_tup (da_cons (de_int) (da_cons (de_int) (da_nil)))) (da_cons (de_tup (da_cons (de_int) (da_cons (de_int) (da_nil)))) (da_nil)))) (da_nil)))) (de_and (de_cmp (o_eq hu) (de_cb (c_repr hgd hu) T.b_repr bt_repr (da_cons (de_call C_u_law_told (hr.mono (by decide)) (fun _ => L2N.passAt tk _) (da_cons (de_int) (da_cons (de_of (dl_lst (da_cons (de_tup (da_cons (de_int) (da_cons (de_int) (da_nil)))) (da_nil)))) (da_cons (de_int) (da_nil)))) (hlen := (aCons_len (aCons_len (aCons_len aNil_len))))) (da_nil))) (de_cb (c_repr hgd hu) T.b_repr bt_repr (da_cons (de_tup (da_cons (de_tup (da_cons (de_int) (da_cons (de_un o_neg (de_int)) (da_nil)))) (da_nil))) (da_nil)))) (de_one (de_cmp (o_eq hu) (de_cb (c_repr hgd hu) T.b_repr bt_repr (da_cons (de_call C_u_law_told (hr.mono (by decide)) (fun _ => L2N.passAt tk _) (da_cons (de_int) (da_cons (de_of (dl_lst (da_cons (de_tup (da_cons (de_int) (da_cons (de_int) (da_nil)))) (da_cons (de_tup (da_cons (de_int) (da_cons (de_int) (da_nil)))) (da_nil))))) (da_cons (de_tup (da_cons (de_int) (da_cons (de_un o_neg (de_int)) (da_nil)))) (da_nil)))) (hlen := (aCons_len (aCons_len (aCons_len aNil_len))))) (da_nil))) (de_cb (c_repr hgd hu) T.b_repr bt_repr (da_cons (de_tup (da_cons (de_int) (da_cons (de_un o_neg (de_int)) (da_nil)))) (da_nil))))))))))))))))))))
end K03

namespace K03
open L2 PySem PySem.Spec PyProof.Rows DL
open HN
/-! ### the program's defs, told -/
theorem less_eq {v o : List Int} {f : Int} (hl : v.length ≤ 1000) (h : ∀ x ∈ o, mulOk f x = true) : f_less [vec v, .int f, vec o] = .ok (.val (vec (lessV v f o))) := by
  unfold f_less
  rw [runF_out]
  simp [b_less, startD]
  rw [compX_eq (g := fun p : Int × Int => some (.int (p.1 - f * p.2))) (fun p hp => by
    have := h p.2 (List.of_mem_zip hp).2
    simp [this]) (by rw [sizeLine_eq, List.length_zip]; omega)]
  rw [List.filterMap_eq_map']
  simp [lessV, List.zip, List.map_zipWith, Function.comp_def]
def stepF : List Int → Nat → Nat
  | [], k => k
  | x :: xs, k => if x ≠ 0 then k else stepF xs (k + 1)
def stepN (v : List Int) : Nat := stepF v 0
theorem stepF_spec : ∀ (v : List Int) (k : Nat), ∃ j, stepF v k = k + j ∧ j ≤ v.length ∧ (∀ i, i < j → v.getD i 0 = 0) ∧ (j < v.length → v.getD j 0 ≠ 0)
  | [], k => ⟨0, rfl, Nat.le_refl _, fun i h => by omega, fun h => by simp at h⟩
  | x :: xs, k => by
    by_cases hx : x = 0
    · obtain ⟨j, h1, h2, h3, h4⟩ := stepF_spec xs (k + 1)
      refine ⟨j + 1, by rw [stepF, if_neg (by simpa using hx), h1]; omega, by simp; omega, fun i hi => ?_, fun hj => ?_⟩
      · cases i with
        | zero => simpa using hx
        | succ i => simpa using h3 i (by omega)
      · simpa using h4 (by simpa using hj)
    · exact ⟨0, by rw [stepF, if_pos hx]; rfl, Nat.zero_le _, fun i h => by omega, fun _ => by simpa using hx⟩
theorem step_loop (v : List Int) : ∀ (xs : List Int) (k : Nat) (a b : Option SV), VS a → VS b → ∃ ρ, forD (bTup (bCons (bName 1) (bCons (bName 2) bNil))) (gIf (xt2 kNe (xVar 2) (xC (.int 0))) (gRet (xVar 1)) gNext) (enumD k (xs.map PyData.int)) [some (.val (vec v)), a, b] =
    if stepF xs k < k + xs.length then .rt (.val (.int (stepF xs k : Int))) ρ else .nx ([some (.val (vec v))] ++ ρ)
  | [], k, a, b, ha, hb => ⟨[a, b], by simp [stepF, enumD, forD]⟩
  | x :: xs, k, a, b, ha, hb => by
    have ia := ha.io
    have ib := hb.io
    by_cases hx : x = 0
    · obtain ⟨ρ, h⟩ := step_loop v xs (k + 1) (some (.val (.int (k : Int)))) (some (.val (.int x))) (.inr ⟨_, rfl⟩) (.inr ⟨_, rfl⟩)
      refine ⟨ρ, ?_⟩
      rw [List.map_cons, enumD, forD]
      rcases ha with rfl | ⟨d, rfl⟩ <;> rcases hb with rfl | ⟨d', rfl⟩ <;>
      · subst hx
        simp [stepF] at h ⊢
        rw [h]
        simp [show k + 1 + xs.length = k + (xs.length + 1) by omega]
    · refine ⟨[some (.val (vec v)), some (.val (.int (k : Int))), some (.val (.int x))], ?_⟩
      rw [List.map_cons, enumD, forD]
      rcases ha with rfl | ⟨d, rfl⟩ <;> rcases hb with rfl | ⟨d', rfl⟩ <;> simp [stepF, hx]
theorem step_of_eq {v : List Int} (hl : v.length ≤ 1000) : f_step_of [vec v] = .ok (.val (.int (stepN v : Int))) := by
  unfold f_step_of
  rw [runF_out]
  obtain ⟨ρ, h⟩ := step_loop v v 0 none none (.inl rfl) (.inl rfl)
  obtain ⟨j, h1, h2, h3, h4⟩ := stepF_spec v 0
  simp [b_step_of, startD, h]
  unfold stepN
  by_cases hj : stepF v 0 < v.length
  · simp [hj]
  · have : stepF v 0 = v.length := by omega
    simp [this]
def sizeN (vs : List (List Int)) : Nat := match vs with
  | [] => 0
  | v :: _ => v.length
abbrev lvs (vs : List (List Int)) : D := .list (vs.map vec)
abbrev szs : D := .tuple [.int 1, .int 2, .int 3, .int 4, .int 5, .int 6]
theorem size_of_eq {vs : List (List Int)} (hl : ∀ v ∈ vs, v.length ≤ 1000) : f_size_of [lvs vs] = .ok (.val (.int (sizeN vs : Int))) := by
  unfold f_size_of
  rw [runF_out]
  cases vs with
  | nil => simp [b_size_of, startD, sizeN]
  | cons v vs =>
    have := hl v List.mem_cons_self
    simp [b_size_of, startD, sizeN, atI_int]
@[simp] theorem keyR_ok {v : EV} {ρ : DEnv} {k : Key → DEnv → Res Cell} : keyR (.ok v ρ) k = optR (deref ρ v) fun d => optR (keyD d) fun y => k y ρ := (Eq.refl _).trans (Eq.refl _)
@[simp] theorem keepD_ok {v : EV} {ρ : DEnv} {k : D × DEnv → Res Cell} : keepD (.ok v ρ) k = optR (keep v ρ) k := (Eq.refl _).trans (Eq.refl _)
@[simp] theorem keyD_int {n : Int} : keyD (.int n) = some (Sum.inl n) := (Eq.refl _).trans (Eq.refl _)
@[simp] theorem lenK_ok {kvs : List (Key × D)} {k : Int → Res EV} : lenK (.dK kvs) k = k kvs.length := (Eq.refl _).trans (Eq.refl _)
@[simp] theorem xLenK_ap {f : DEnv → Res Cell} {ρ : DEnv} : xLenK f ρ = bindR (f ρ) fun c ρ1 => lenK c fun n => .ok (.val (.int n)) ρ1 := (Eq.refl _).trans (Eq.refl _)
@[simp] theorem xCompK_ap {it : DEnv → Res (List D)} {ow : List Nat} {bind : D → DEnv → Option DEnv} {fk fv : DX} {ρ : DEnv} : xCompK it ow bind fk fv ρ = bindR (it ρ) fun ds ρ1 => if (ow.all fun i => !isOwn ρ1[i]?) = true then compK ow bind fk fv ds ρ1 [] else .bad := (Eq.refl _).trans (Eq.refl _)
@[simp] theorem compK_nil {ow : List Nat} {bind : D → DEnv → Option DEnv} {fk fv : DX} {ρ : DEnv} {acc : List (Key × D)} : compK ow bind fk fv [] ρ acc = .ok (.dK acc) ρ := by rw [compK]
theorem compK_cons {ow : List Nat} {bind : D → DEnv → Option DEnv} {fk fv : DX} {ρ : DEnv} {d : D} {ds : List D} {acc : List (Key × D)} : compK ow bind fk fv (d :: ds) ρ acc = optR (bind d (wipeD ρ ow)) fun ρ2 => keyR (fk ρ2) fun k ρ3 => keepD (fv ρ3) fun p =>
      if acc.length < sizeLine ∧ (ow.all fun i => !isOwn p.2[i]?) = true then compK ow bind fk fv ds (backD ρ p.2 ow) (putKD acc k p.1) else .bad := by rw [compK]
def lenK1 (acc : List (Key × D)) (v : List Int) : List (Key × D) := putKD acc (Sum.inl (v.length : Int)) (.bool true)
theorem putKD_len (acc : List (Key × D)) (k : Key) (v : D) : (putKD acc k v).length ≤ acc.length + 1 := by
  unfold putKD
  split
  · simp
  · simp
theorem lens_loop (a b : D) : ∀ (vs : List (List Int)) (acc : List (Key × D)), (∀ v ∈ vs, v.length ≤ 1000) → acc.length + vs.length ≤ 1000 →
    compK [2] (bName 2) (xCB kLen (aCons (xVar 2) aNil)) (xC (.bool true)) (vs.map vec) [some (.val a), some (.val b), none] acc = .ok (.dK (vs.foldl lenK1 acc)) [some (.val a), some (.val b), none]
  | [], acc, _, _ => by simp
  | v :: vs, acc, hl, h => by
    have h1 := hl v List.mem_cons_self
    have h2 : acc.length < 16777216 := by simp at h; omega
    have := lens_loop a b vs (lenK1 acc v) (fun w hw => hl w (List.mem_cons_of_mem _ hw)) (by have := putKD_len acc (Sum.inl (v.length : Int)) (.bool true); simp [lenK1] at h ⊢; omega)
    rw [List.map_cons, compK_cons]
    simp [sizeLine_eq, h2, backD]
    exact this
def sameL (vs : List (List Int)) : Bool := decide ((vs.foldl lenK1 []).length ≤ 1)
theorem sameL_of {n : Nat} : ∀ {vs : List (List Int)}, (∀ v ∈ vs, v.length = n) → sameL vs = true := by
  have h : ∀ (vs : List (List Int)) (acc : List (Key × D)), (acc = [] ∨ acc = [(Sum.inl (n : Int), .bool true)]) → (∀ v ∈ vs, v.length = n) → (vs.foldl lenK1 acc = [] ∨ vs.foldl lenK1 acc = [(Sum.inl (n : Int), .bool true)]) := by
    intro vs
    induction vs with
    | nil => intro acc h _; exact h
    | cons v vs ih =>
      intro acc h hl
      rw [List.foldl_cons]
      refine ih _ ?_ fun w hw => hl w (List.mem_cons_of_mem _ hw)
      rw [lenK1, hl v List.mem_cons_self]
      rcases h with rfl | rfl
      · right; simp [putKD]
      · right; simp [putKD]
  intro vs hl
  rcases h vs [] (.inl rfl) hl with q | q <;> simp [sameL, q]
def chk (vs : List (List Int)) : Bool := decide (vs.length ≤ 40) && sameL vs && vs.all fun v => decide (1 ≤ v.length) && decide (v.length ≤ 6)
theorem check_vectors_eq {vs : List (List Int)} (hl : ∀ v ∈ vs, v.length ≤ 1000) (hn : vs.length ≤ 900) : f_check_vectors [lvs vs, szs] = if chk vs = true then .ok (.val .none) else .err ⟨"BadNumber", none⟩ := by
  unfold f_check_vectors
  rw [runF_out]
  have hk := lens_loop (lvs vs) szs vs [] hl (by simp; omega)
  have hl2 : vs.length ≤ 16777216 := by omega
  simp [b_check_vectors, startD, hk]
  rw [compX_eq (g := fun v : List Int => some (.bool (decide (1 ≤ v.length) && decide (v.length ≤ 6)))) (fun v hv => by
    have := hl v hv
    simp [kB, kIn2, intsOf]
    by_cases h1 : 1 ≤ v.length
    · by_cases h2 : v.length ≤ 6
      · rw [decide_eq_true h1, decide_eq_true h2]; simp; omega
      · rw [decide_eq_false h2]; simp; omega
    · rw [decide_eq_false h1]; simp; omega) (by rw [sizeLine_eq]; omega)]
  rw [List.filterMap_eq_map']
  simp only [chk, sameL]
  by_cases h1 : vs.length ≤ 40
  · have h1' : ¬ (40 : Int) < vs.length := by omega
    by_cases h2 : (vs.foldl lenK1 []).length ≤ 1
    · have h2' : ¬ (1 : Int) < (vs.foldl lenK1 []).length := by omega
      by_cases h3 : (vs.all fun v => decide (1 ≤ v.length) && decide (v.length ≤ 6)) = true
      · simp [h1, h1', h2, h2', h3]
      · simp [h1, h1', h2, h2', h3]
    · have h2' : (1 : Int) < (vs.foldl lenK1 []).length := by omega
      simp [h1, h1', h2, h2']
  · have h1' : (40 : Int) < vs.length := by omega
    simp [h1, h1']
end K03

namespace K03
open L2 PySem PySem.Spec PyProof.Rows DL
open HN
@[simp] theorem kIsNot_t {ds : List D} : kIsNot (.tuple ds) .none = some true := (Eq.refl _).trans (Eq.refl _)
@[simp] theorem kIsNot_n : kIsNot .none .none = some false := (Eq.refl _).trans (Eq.refl _)
@[simp] theorem kIs_t {ds : List D} : kIs (.tuple ds) .none = some false := (Eq.refl _).trans (Eq.refl _)
@[simp] theorem kIs_n : kIs .none .none = some true := (Eq.refl _).trans (Eq.refl _)
/-! ### guards of the way to the stairs form -/
inductive EG (n p : Nat) : Vec → Vec → Prop
  | z {one other : Vec} (l1 : one.length = n) (l2 : other.length = n) (h : ge other p = 0) : EG n p one other
  | s {one other : Vec} (l1 : one.length = n) (l2 : other.length = n) (h : ge other p ≠ 0) (hd : divOk (ge other p) = true) (hm : ∀ x ∈ other, mulOk ((ge one p).fdiv (ge other p)) x = true) (r : EG n p other (lessV one ((ge one p).fdiv (ge other p)) other)) : EG n p one other
inductive CG (n p : Nat) : CS → List Vec → Prop
  | nil {s : CS} : CG n p s []
  | cons {s : CS} {v : Vec} {vs : List Vec} (hl : v.length = n) (h : ge v p ≠ 0 → ∀ g, s.1 = some g → EG n p g v) (t : CG n p (stepCl p s v) vs) : CG n p s (v :: vs)
inductive SG (n : Nat) : SS → List Nat → Prop
  | nil {s : SS} : SG n s []
  | cons {s : SS} {p : Nat} {ps : List Nat} (hp : p < n) (hc : CG n p (none, []) s.2) (hl1 : s.1.length ≤ 1000) (hl2 : s.2.length ≤ 1000)
      (hr : ∀ h, (clearV p s.2).1 = some h → h.length = n ∧ divOk (ge h p) = true ∧ ∀ one ∈ s.1, one.length = n ∧ ∀ x ∈ h, mulOk ((ge one p).fdiv (ge h p)) x = true) (t : SG n (stepS s p) ps) : SG n s (p :: ps)
theorem gx {v : Vec} {p : Nat} (h : p < v.length) : v[p]? = some (ge v p) := by rw [ge_lt h]; exact List.getElem?_eq_getElem h
def optV : Option Vec → D
  | none => .none
  | some v => vec v
abbrev rC (vs : List Vec) (p : Nat) (hd : Option Vec) (rest : List Vec) (j4 j5 j6 : Option SV) : DEnv := [some (.val (lvs vs)), some (.val (.int (p : Int))), some (.val (optV hd)), some (.own false (.lst (rest.map vec))), j4, j5, j6, none]
def wT : DEnv → Res Bool := xtAnd (xt2 kIsNot (xVar 5) (xC .none)) (xt2 kNe (x2 kIx (xVar 6) (xVar 1)) (xC (.int 0)))
def wB : DSt := gPar 5 6 (aCons (xVar 6) (aCons (xCall f_less (aCons (xVar 5) (aCons (x2 kDiv (x2 kIx (xVar 5) (xVar 1)) (x2 kIx (xVar 6) (xVar 1))) (aCons (xVar 6) (aNil))))) (aNil)))
theorem wRun {n p : Nat} (hn : n ≤ 1000) (hp : p < n) {vs : List Vec} {hd : Option Vec} {rest : List Vec} {j4 : Option SV} {one other : Vec} (h : EG n p one other) :
    ∃ k, whileN wT wB k (rC vs p hd rest j4 (some (.val (vec one))) (some (.val (vec other)))) = .nx (rC vs p hd rest j4 (some (.val (vec (euc p one other).1))) (some (.val (vec (euc p one other).2)))) := by
  induction h with
  | @z one other l1 l2 h =>
    refine ⟨1, ?_⟩
    have e : euc p one other = (one, other) := by rw [euc, dif_pos h]
    have g1 := gx (v := other) (p := p) (by omega)
    rw [e, whileN]
    simp [wT, g1, h]
  | @s one other l1 l2 h hd' hm r ih =>
    obtain ⟨k, ih⟩ := ih
    refine ⟨k + 1, ?_⟩
    have e : euc p one other = euc p other (lessV one ((ge one p).fdiv (ge other p)) other) := by rw [euc, dif_neg h]
    have g1 := gx (v := other) (p := p) (by omega)
    have g2 := gx (v := one) (p := p) (by omega)
    have hL := less_eq (v := one) (o := other) (f := (ge one p).fdiv (ge other p)) (by omega) hm
    rw [e, whileN]
    simp [wT, wB, g1, g2, h, hd', hL]
    exact ih
noncomputable def cB : DSt := gSeq (gIf (xt2 kEq (x2 kIx (xVar 4) (xVar 1)) (xC (.int 0))) (gSeq (gExpr (xM 3 mAppend (aCons (xVar 4) (aNil)))) (gCont)) (gNext)) (gSeq (gPar 5 6 (aCons (xVar 2) (aCons (xVar 4) (aNil)))) (gSeq (gWhile wT wB) (gIf (xt2 kIs (xVar 5) (xC .none)) (gSet 2 (xVar 6)) (gSeq (gSet 2 (xVar 5)) (gExpr (xM 3 mAppend (aCons (xVar 6) (aNil))))))))
theorem cTurn {n p : Nat} (hn : n ≤ 1000) (hp : p < n) {V : List Vec} {s : CS} {v : Vec} (hl : v.length = n) (h : ge v p ≠ 0 → ∀ g, s.1 = some g → EG n p g v) (hr : s.2.length ≤ 100000) {j4 j5 j6 : Option SV} (h4 : VS j4) (h5 : VS j5) (h6 : VS j6) :
    ∃ j4' j5' j6', VS j4' ∧ VS j5' ∧ VS j6' ∧ (optF (bName 4 (vec v) (rC V p s.1 s.2 j4 j5 j6)) cB = .nx (rC V p (stepCl p s v).1 (stepCl p s v).2 j4' j5' j6') ∨ optF (bName 4 (vec v) (rC V p s.1 s.2 j4 j5 j6)) cB = .ct (rC V p (stepCl p s v).1 (stepCl p s v).2 j4' j5' j6')) := by
  have g1 := gx (v := v) (p := p) (by omega)
  have hr' : s.2.length < 16777216 := by omega
  have i4 := h4.io
  have i5 := h5.io
  have i6 := h6.io
  by_cases hz : ge v p = 0
  · refine ⟨some (.val (vec v)), j5, j6, .val, h5, h6, .inr ?_⟩
    rcases h4 with rfl | ⟨d4, rfl⟩ <;> simp [cB, g1, hz, stepCl, hr']
  · cases hs : s.1 with
    | none =>
      have hw : whileN wT wB 1 (rC V p none s.2 (some (.val (vec v))) (some (.val .none)) (some (.val (vec v)))) = .nx (rC V p none s.2 (some (.val (vec v))) (some (.val .none)) (some (.val (vec v)))) := by
        rw [whileN]; simp [wT]
      have hw' : gWhile wT wB (rC V p none s.2 (some (.val (vec v))) (some (.val .none)) (some (.val (vec v)))) = .nx (rC V p none s.2 (some (.val (vec v))) (some (.val .none)) (some (.val (vec v)))) := by
        rw [gWhile_of (n := 1) (by rw [hw]; exact fun z => nomatch z), hw]
      refine ⟨some (.val (vec v)), some (.val .none), some (.val (vec v)), .val, .val, .val, .inl ?_⟩
      rcases h4 with rfl | ⟨d4, rfl⟩ <;> rcases h5 with rfl | ⟨d5, rfl⟩ <;> rcases h6 with rfl | ⟨d6, rfl⟩ <;>
      · simp [cB, g1, hz, stepCl, hs, optV]
        simp only [rC, optV] at hw'
        rw [hw']
        simp [optV]
    | some g =>
      obtain ⟨k, hw⟩ := wRun (vs := V) (hd := some g) (rest := s.2) (j4 := some (.val (vec v))) hn hp (h hz g hs)
      have hw' : gWhile wT wB (rC V p (some g) s.2 (some (.val (vec v))) (some (.val (vec g))) (some (.val (vec v)))) = .nx (rC V p (some g) s.2 (some (.val (vec v))) (some (.val (vec (euc p g v).1))) (some (.val (vec (euc p g v).2)))) := by
        rw [gWhile_of (n := k) (by rw [hw]; exact fun z => nomatch z), hw]
      refine ⟨some (.val (vec v)), some (.val (vec (euc p g v).1)), some (.val (vec (euc p g v).2)), .val, .val, .val, .inl ?_⟩
      rcases h4 with rfl | ⟨d4, rfl⟩ <;> rcases h5 with rfl | ⟨d5, rfl⟩ <;> rcases h6 with rfl | ⟨d6, rfl⟩ <;>
      · simp [cB, g1, hz, stepCl, hs, optV]
        simp only [rC, optV] at hw'
        rw [hw']
        simp [hr', optV]
theorem cLoop {n p : Nat} (hn : n ≤ 1000) (hp : p < n) {V : List Vec} : ∀ {s : CS} {vs : List Vec}, CG n p s vs → s.2.length + vs.length ≤ 100000 → ∀ {j4 j5 j6 : Option SV}, VS j4 → VS j5 → VS j6 →
    ∃ j4' j5' j6', VS j4' ∧ VS j5' ∧ VS j6' ∧ forD (bName 4) cB (vs.map vec) (rC V p s.1 s.2 j4 j5 j6) = .nx (rC V p (vs.foldl (stepCl p) s).1 (vs.foldl (stepCl p) s).2 j4' j5' j6') := by
  intro s vs h
  induction h with
  | nil => intro _ j4 j5 j6 h4 h5 h6; exact ⟨j4, j5, j6, h4, h5, h6, rfl⟩
  | @cons s v vs hl hg t ih =>
    intro hc j4 j5 j6 h4 h5 h6
    simp only [List.length_cons] at hc
    obtain ⟨a4, a5, a6, b4, b5, b6, e⟩ := cTurn (V := V) hn hp hl hg (by omega) h4 h5 h6
    have hc' : (stepCl p s v).2.length ≤ s.2.length + 1 := by
      unfold stepCl
      split
      · simp
      · split <;> simp
    obtain ⟨c4, c5, c6, d4, d5, d6, e2⟩ := ih (by omega) b4 b5 b6
    refine ⟨c4, c5, c6, d4, d5, d6, ?_⟩
    rw [List.map_cons, forD, List.foldl_cons]
    rcases e with e | e
    · cases q : bName 4 (vec v) (rC V p s.1 s.2 j4 j5 j6) with
      | none => rw [q] at e; cases e
      | some ρ1 =>
        rw [q] at e
        have e' : cB ρ1 = _ := e
        show (match cB ρ1 with
          | .nx ρ2 => forD (bName 4) cB (vs.map vec) ρ2
          | .ct ρ2 => forD (bName 4) cB (vs.map vec) ρ2
          | .bk ρ2 => .nx ρ2
          | .rt v ρ2 => .rt v ρ2
          | .err x ρ2 => .err x ρ2
          | .bad => .bad) = _
        rw [e']
        exact e2
    · cases q : bName 4 (vec v) (rC V p s.1 s.2 j4 j5 j6) with
      | none => rw [q] at e; cases e
      | some ρ1 =>
        rw [q] at e
        have e' : cB ρ1 = _ := e
        show (match cB ρ1 with
          | .nx ρ2 => forD (bName 4) cB (vs.map vec) ρ2
          | .ct ρ2 => forD (bName 4) cB (vs.map vec) ρ2
          | .bk ρ2 => .nx ρ2
          | .rt v ρ2 => .rt v ρ2
          | .err x ρ2 => .err x ρ2
          | .bad => .bad) = _
        rw [e']
        exact e2
theorem cleared_eq {n p : Nat} (hn : n ≤ 1000) (hp : p < n) {vs : List Vec} (h : CG n p (none, []) vs) (hl : vs.length ≤ 1000) (hh : ∀ g, (vs.foldl (stepCl p) (none, [])).1 = some g → g.length = n) :
    f_cleared [lvs vs, .int (p : Int)] = .ok (.val (.tuple [optV (clearV p vs).1, lvs (clearV p vs).2])) := by
  unfold f_cleared
  rw [runF_out]
  obtain ⟨j4, j5, j6, h4, h5, h6, e⟩ := cLoop (V := vs) hn hp h (by simp; omega) (.inl rfl) (.inl rfl) (.inl rfl)
  have eb : b_cleared = gSeq (gSet 2 (xC .none)) (gSeq (gSetL 3 (xLst (aNil))) (gSeq (gFor (iSeq (xVar 0)) (bName 4) cB) (gSeq (gIf (xtAnd (xt2 kIsNot (xVar 2) (xC .none)) (xt2 kLt (x2 kIx (xVar 2) (xVar 1)) (xC (.int 0)))) (gSet 2 (xCB kTuple (aCons (ofL (xComp (iSeq (xVar 2)) [7] (bName 7) (tTrue) (x1 kNeg (xVar 7)))) (aNil)))) (gNext)) (gRet (xTup (aCons (xVar 2) (aCons (xVar 3) (aNil)))))))) := rfl
  have o1 : optV none = .none := rfl
  have o2 : ∀ g, optV (some g) = vec g := fun _ => rfl
  simp only [rC, List.map_nil, o1] at e
  unfold clearV
  cases q : (vs.foldl (stepCl p) (none, [])).1 with
  | none => rw [q, o1] at e; simp [eb, startD, e, o1]
  | some g =>
    have hg := hh g q
    have g1 := gx (v := g) (p := p) (by omega)
    have hl2 : List.length g ≤ 16777216 := by omega
    rw [q, o2] at e
    by_cases hz : ge g p < 0
    · simp [eb, startD, e, o2, g1, hz, posV, negV, hl2]
    · simp [eb, startD, e, o2, g1, hz, posV]
end K03

namespace K03
open L2 PySem PySem.Spec PyProof.Rows DL
open HN
@[simp] theorem kList_l {ds : List D} : kList [.list ds] = some ds := (Eq.refl _).trans (Eq.refl _)
abbrev rS (V : List Vec) (n : Nat) (s : SS) (j4 j5 : Option SV) : DEnv := [some (.val (lvs V)), some (.val (.int (n : Int))), some (.val (lvs s.1)), some (.val (lvs s.2)), j4, j5, none]
noncomputable def sB : DSt := gSeq (gAsg (xCall f_cleared (aCons (xVar 3) (aCons (xVar 4) (aNil)))) (bTup (bCons (bName 5) (bCons (bName 3) (bNil))))) (gIf (xt2 kIsNot (xVar 5) (xC .none)) (gSet 2 (ofL (x2L kAddL (ofL (xComp (iSeq (xVar 2)) [6] (bName 6) (tTrue) (xCall f_less (aCons (xVar 6) (aCons (x2 kDiv (x2 kIx (xVar 6) (xVar 4)) (x2 kIx (xVar 5) (xVar 4))) (aCons (xVar 5) (aNil))))))) (ofL (xLst (aCons (xVar 5) (aNil))))))) (gNext))
theorem posV_len {p : Nat} {g : Vec} : (posV p g).length = g.length := by unfold posV; split; exact len_neg; rfl
theorem sTurn {n p : Nat} (hn : n ≤ 1000) {V : List Vec} {s : SS} {ps : List Nat} (h : SG n s (p :: ps)) {j4 j5 : Option SV} (h4 : VS j4) (h5 : VS j5) :
    ∃ j5', VS j5' ∧ optF (bName 4 (.int (p : Int)) (rS V n s j4 j5)) sB = .nx (rS V n (stepS s p) (some (.val (.int (p : Int)))) j5') := by
  cases h with
  | cons hp hc hl1 hl2 hr t =>
    have i4 := h4.io
    have i5 := h5.io
    have hcl := cleared_eq (p := p) hn hp hc hl2 fun g hg => by
      have := (hr (posV p g) (by unfold clearV; rw [hg]; rfl)).1
      rwa [posV_len] at this
    have o1 : optV none = .none := rfl
    have o2 : ∀ g, optV (some g) = vec g := fun _ => rfl
    cases q : (clearV p s.2).1 with
    | none =>
      rw [q, o1] at hcl
      refine ⟨some (.val .none), .val, ?_⟩
      rcases h4 with rfl | ⟨d4, rfl⟩ <;> rcases h5 with rfl | ⟨d5, rfl⟩ <;> simp [sB, hcl, stepS, q]
    | some g =>
      rw [q, o2] at hcl
      obtain ⟨hg, hd, hone⟩ := hr g q
      refine ⟨some (.val (vec g)), .val, ?_⟩
      have g1 := gx (v := g) (p := p) (by omega)
      have hx : ∀ {ρ : DEnv} {o : Res Cell} {f : Vec → Option (Option D × DEnv)}, (∀ one ∈ s.1, f one = some (some (vec (redV p g one)), ρ)) → compX o ρ f s.1 = .ok (.lst ((s.1.map (redV p g)).map vec)) ρ := by
        intro ρ o f hf
        rw [compX_eq (g := fun one => some (vec (redV p g one))) hf (by rw [sizeLine_eq]; omega), List.filterMap_eq_map', List.map_map]
        rfl
      rcases h4 with rfl | ⟨d4, rfl⟩ <;> rcases h5 with rfl | ⟨d5, rfl⟩ <;>
      · simp [sB, hcl, stepS, q]
        rw [hx fun one ho => by
          obtain ⟨l1, l2⟩ := hone one ho
          have g2 := gx (v := one) (p := p) (by omega)
          have hL := less_eq (v := one) (o := g) (f := (ge one p).fdiv (ge g p)) (by omega) l2
          simp [g1, g2, hd, hL, redV]]
        simp [show s.1.length ≤ 16777215 by omega]
theorem sLoop {n : Nat} (hn : n ≤ 1000) {V : List Vec} : ∀ {s : SS} {ps : List Nat}, SG n s ps → ∀ {j4 j5 : Option SV}, VS j4 → VS j5 →
    ∃ j4' j5', VS j4' ∧ VS j5' ∧ forD (bName 4) sB (ps.map fun (k : Nat) => PyData.int (k : Int)) (rS V n s j4 j5) = .nx (rS V n (ps.foldl stepS s) j4' j5') := by
  intro s ps
  induction ps generalizing s with
  | nil => intro _ j4 j5 h4 h5; exact ⟨j4, j5, h4, h5, rfl⟩
  | cons p ps ih =>
    intro h j4 j5 h4 h5
    obtain ⟨a5, b5, e⟩ := sTurn (V := V) hn h h4 h5
    have t : SG n (stepS s p) ps := by cases h with | cons _ _ _ _ _ t => exact t
    obtain ⟨c4, c5, d4, d5, e2⟩ := ih t (j4 := some (.val (.int (p : Int)))) .val b5
    refine ⟨c4, c5, d4, d5, ?_⟩
    rw [List.map_cons, forD, List.foldl_cons]
    cases q : bName 4 (PyData.int (p : Int)) (rS V n s j4 j5) with
    | none => rw [q] at e; cases e
    | some ρ1 =>
      rw [q] at e
      have e' : sB ρ1 = _ := e
      show (match sB ρ1 with
        | .nx ρ2 => forD (bName 4) sB (ps.map fun (k : Nat) => PyData.int (k : Int)) ρ2
        | .ct ρ2 => forD (bName 4) sB (ps.map fun (k : Nat) => PyData.int (k : Int)) ρ2
        | .bk ρ2 => .nx ρ2
        | .rt v ρ2 => .rt v ρ2
        | .err x ρ2 => .err x ρ2
        | .bad => .bad) = _
      rw [e']
      exact e2
theorem stairs_of_eq {n : Nat} (hn : n ≤ 1000) {vs : List Vec} (h : SG n ([], vs) (List.range n)) : f_stairs_of [lvs vs, .int (n : Int)] = .ok (.val (mtx (stairsV vs n))) := by
  unfold f_stairs_of
  rw [runF_out]
  obtain ⟨j4, j5, h4, h5, e⟩ := sLoop (V := vs) hn h (.inl rfl : VS none) (.inl rfl : VS none)
  have eb : b_stairs_of = gSeq (gSet 2 (ofL (xLst (aNil)))) (gSeq (gSet 3 (ofL (xCBL kList (aCons (xVar 0) (aNil))))) (gSeq (gFor (iRange1 (aCons (xVar 1) (aNil))) (bName 4) sB) (gRet (xCB kTuple (aCons (xVar 2) (aNil)))))) := rfl
  have hn' : (n : Int) < 4611686018427387904 := by omega
  have hn2 : -4611686018427387904 ≤ (n : Int) := by omega
  simp only [rS, lvs, List.map_nil] at e
  simp [eb, startD, e, hn', hn2, stairsV, stairsS]
/-- stairs, rank, is_stairs -/
theorem stairs_eq {n : Nat} (hn : n ≤ 6) {vs : List Vec} (hl : Len n vs) (h1 : vs ≠ [] → 1 ≤ n) (hv : vs.length ≤ 40) (h : SG n ([], vs) (List.range n)) : f_stairs [lvs vs] = .ok (.val (mtx (stairsV vs n))) := by
  unfold f_stairs
  rw [runF_out]
  have hc := check_vectors_eq (vs := vs) (fun v hv => by rw [hl v hv]; omega) (by omega)
  have hk : chk vs = true := by
    unfold chk
    rw [sameL_of hl, decide_eq_true hv]
    simp only [Bool.and_true, Bool.true_and, List.all_eq_true, Bool.and_eq_true, decide_eq_true_eq]
    intro v hv
    have := h1 (fun z => by rw [z] at hv; simp at hv)
    rw [hl v hv]
    exact ⟨this, hn⟩
  rw [if_pos hk] at hc
  have hs := size_of_eq (vs := vs) fun v hv => by rw [hl v hv]; omega
  cases vs with
  | nil =>
    have hs0 : f_stairs_of [lvs [], .int (0 : Int)] = .ok (.val (mtx [])) := stairs_of_eq (n := 0) (by omega) (vs := []) .nil
    have e0 : stairsV [] n = [] := by
      unfold stairsV stairsS
      have : ∀ ps : List Nat, ps.foldl stepS ([], []) = ([], []) := fun ps => by
        induction ps with
        | nil => rfl
        | cons p ps ih => rw [List.foldl_cons]; exact ih
      rw [this]
    have hs' : f_size_of [lvs []] = .ok (.val (.int (0 : Int))) := hs
    simp [b_stairs, startD, hc, hs', hs0, e0]
  | cons v vs =>
    have e1 : sizeN (v :: vs) = n := hl v List.mem_cons_self
    rw [e1] at hs
    have ho := stairs_of_eq (n := n) (by omega) h
    simp [b_stairs, startD, hc, hs, ho]
end K03

namespace K03
open L2 PySem PySem.Spec PyProof.Rows DL
open HN
theorem canLay_lvs : ∀ C : List (List Int), PyData.canLayAll0 (C.map vec) = true
  | [] => by simp [PyData.canLayAll0]
  | c :: C => by
    show PyData.canLayAll0 (vec c :: C.map vec) = true
    simp [PyData.canLayAll0, canLay_lvs C, PyData.canLay0, canLay_ints]
theorem eqv_lvs : ∀ a b : List (List Int), PyData.eqvAll (a.map vec) (b.map vec) = decide (a = b)
  | [], [] => by simp [PyData.eqvAll]
  | [], _ :: _ => by simp [PyData.eqvAll]
  | _ :: _, [] => by simp [PyData.eqvAll]
  | x :: a, y :: b => by
    show PyData.eqvAll (vec x :: a.map vec) (vec y :: b.map vec) = _
    simp [PyData.eqvAll, eqv_lvs a b, PyData.eqv, eqv_ints]
theorem shaped_mtx (C : List (List Int)) : SeqAt.shaped (mtx C) = true := by
  have := depth_vecs C
  simp [SeqAt.shaped, PyData.canLay0, canLay_lvs, PyData.depth]
  omega
theorem kEq_mtx (a b : List (List Int)) : kEq (mtx a) (mtx b) = some (decide (a = b)) := by
  unfold kEq
  simp [shaped_mtx, PyData.eqv, eqv_lvs]
def chkS (vs S : List Vec) : Bool := (vs.all fun v => decide (stepN v < v.length)) && decide (vs = S)
theorem is_stairs_eq {n : Nat} (hn : n ≤ 6) {vs : List Vec} (hl : Len n vs) (h1 : vs ≠ [] → 1 ≤ n) (hv : vs.length ≤ 40) (h : SG n ([], vs) (List.range n)) : f_is_stairs [lvs vs] = .ok (.val (.bool (chkS vs (stairsV vs n)))) := by
  unfold f_is_stairs
  rw [runF_out]
  have hs := stairs_eq hn hl h1 hv h
  have hc := check_vectors_eq (vs := vs) (fun v hv => by rw [hl v hv]; omega) (by omega)
  have hk : chk vs = true := by
    unfold chk
    rw [sameL_of hl, decide_eq_true hv]
    simp only [Bool.and_true, Bool.true_and, List.all_eq_true, Bool.and_eq_true, decide_eq_true_eq]
    intro v hv
    have := h1 (fun z => by rw [z] at hv; simp at hv)
    rw [hl v hv]
    exact ⟨this, hn⟩
  rw [if_pos hk] at hc
  simp [b_is_stairs, startD, hc]
  rw [compX_eq (g := fun v : Vec => some (.bool (decide (stepN v < v.length)))) (fun v hv => by
    have hv' := hl v hv
    have e := step_of_eq (v := v) (by omega)
    simp [e]) (by rw [sizeLine_eq]; omega)]
  rw [List.filterMap_eq_map']
  simp
  unfold chkS
  by_cases q : ∀ x ∈ vs, stepN x < List.length x
  · have q2 : (vs.all fun v => decide (stepN v < List.length v)) = true := by simpa using q
    have q3 : ¬ ∃ x, x ∈ vs ∧ List.length x ≤ stepN x := fun ⟨x, hx, k⟩ => by have := q x hx; omega
    rw [q2]
    simp [q, hs, kEq_mtx]
    exact fun x hx k => absurd k (by have := q x hx; omega)
  · have q2 : (vs.all fun v => decide (stepN v < List.length v)) = false := by
      rw [← Bool.not_eq_true]; simpa using q
    rw [q2]
    simp [q]
end K03

namespace K03
open L2 PySem PySem.Spec PyProof.Rows DL
open HN
/-! ### the guards hold -/
theorem log_of {x F : Nat} (h : x ≤ 2 ^ F) : x.log2 ≤ F := by
  by_cases z : x = 0
  · subst z; simp
  · have h2 : x < 2 ^ (F + 1) := by rw [Nat.pow_succ]; have := Nat.pow_pos (a := 2) (n := F) (by decide); omega
    have := (Nat.log2_lt z).mpr h2
    omega
theorem divOk_sz {b : Int} {Y : Nat} (h0 : b ≠ 0) (h : b.natAbs ≤ 2 ^ Y) (hY : Y ≤ 8900) : divOk b = true := decide_eq_true ⟨h0, by have := log_of h; omega⟩
theorem mulOk_sz {a b : Int} {A B : Nat} (ha : a.natAbs ≤ 2 ^ A) (hb : b.natAbs ≤ 2 ^ B) (h : A + B < 1000000) : mulOk a b = true := decide_eq_true (by have := log_of ha; have := log_of hb; omega)
theorem eg_of {n p X Y : Nat} (one other : Vec) (h : EI n p (2 ^ X) one other) (hX : X ≤ 400000) (hb : (ge other p).natAbs ≤ 2 ^ Y) (hY : Y ≤ 8900) : EG n p one other := by
  by_cases hz : ge other p = 0
  · exact .z h.l1 h.l2 hz
  · obtain ⟨h1, h2, h3⟩ := h.step hz
    obtain ⟨s1, s2⟩ := h.sizes
    exact .s h.l1 h.l2 hz (divOk_sz hz hb hY) (fun x hx => mulOk_sz h2 (s2.mem hx) (by omega)) (eg_of other _ h1 hX (Nat.le_trans (Nat.le_of_lt h3) hb) hY)
termination_by (ge other p).natAbs
theorem cg_of {n p E : Nat} (hE : E ≤ 8900) : ∀ (post pre : List Vec) (s : CS), Len n pre → Len n post → (∀ v ∈ post, Sz v (2 ^ E)) → (pre.length + post.length + 1) * (E + 3) ≤ 400000 → CI n p E pre s → CG n p s post
  | [], _, _, _, _, _, _, _ => .nil
  | v :: post, pre, s, hl, hp, sz, hb, h => by
    have hv := hp v List.mem_cons_self
    have sv := sz v List.mem_cons_self
    have hl' : Len n (pre ++ [v]) := fun g hg => by
      rcases List.mem_append.mp hg with q | q
      · exact hl g q
      · simp at q; rw [q]; exact hv
    refine .cons hv (fun _ g hg => ?_) (cg_of hE post (pre ++ [v]) (stepCl p s v) hl' (fun g hg => hp g (List.mem_cons_of_mem _ hg)) (fun u hu => sz u (List.mem_cons_of_mem _ hu)) (by
      have : (pre ++ [v]).length + post.length + 1 = pre.length + (v :: post).length + 1 := by simp; omega
      rw [this]; exact hb) (h.step hl hv sv))
    obtain ⟨a, b, c, d, e⟩ := h.lh g hg
    have le1 : E ≤ pre.length * (E + 3) := by have := Nat.le_mul_of_pos_left (E + 3) e; omega
    have es := ei_start a hv b d sv (pow_le le1) (Nat.pow_pos (by decide))
    have e4 : 4 * 2 ^ (pre.length * (E + 3)) * 2 ^ E = 2 ^ (pre.length * (E + 3) + E + 2) := by
      rw [Nat.pow_add, Nat.pow_add, Nat.mul_comm _ (2 ^ 2), ← Nat.mul_assoc]
    rw [e4] at es
    have le2 : pre.length * (E + 3) + E + 2 ≤ (pre.length + 1) * (E + 3) := by rw [Nat.add_mul]; omega
    have le3 : (pre.length + 1) * (E + 3) ≤ (pre.length + (v :: post).length + 1) * (E + 3) := Nat.mul_le_mul_right _ (by simp)
    exact eg_of g v es (by omega) (sv p) hE
theorem clear_none {p : Nat} : ∀ {vs : List Vec} {s : CS}, (vs.foldl (stepCl p) s).1 = none → s.1 = none ∧ ∀ v ∈ vs, ge v p = 0
  | [], s, h => ⟨h, fun v hv => by simp at hv⟩
  | v :: vs, s, h => by
    rw [List.foldl_cons] at h
    obtain ⟨h1, h2⟩ := clear_none h
    unfold stepCl at h1
    split at h1
    · rename_i hz
      refine ⟨h1, fun u hu => ?_⟩
      rcases List.mem_cons.mp hu with q | q
      · rw [q]; exact hz
      · exact h2 u q
    · split at h1 <;> cases h1
theorem cg_zero {n p : Nat} : ∀ {vs : List Vec} {s : CS}, Len n vs → (∀ v ∈ vs, ge v p = 0) → CG n p s vs
  | [], _, _, _ => .nil
  | v :: vs, s, hl, h => .cons (hl v List.mem_cons_self) (fun q => absurd (h v List.mem_cons_self) q) (cg_zero (fun g hg => hl g (List.mem_cons_of_mem _ hg)) fun u hu => h u (List.mem_cons_of_mem _ hu))
theorem stepS_len {s : SS} {p : Nat} : s.1.length ≤ (stepS s p).1.length := by
  unfold stepS
  split
  · exact Nat.le_refl _
  · simp
theorem foldS_len : ∀ {ps : List Nat} {s : SS}, s.1.length ≤ (ps.foldl stepS s).1.length
  | [], _ => Nat.le_refl _
  | p :: ps, s => Nat.le_trans stepS_len (foldS_len (ps := ps) (s := stepS s p))
theorem Dseq_le {m E : Nat} : ∀ {a b : Nat}, a ≤ b → Dseq m E a ≤ Dseq m E b := by
  intro a b h
  induction h with
  | refl => exact Nat.le_refl _
  | step _ ih => exact Nat.le_trans ih (by rw [Dseq]; omega)
theorem fdiv_abs {a b : Int} (hb : 0 < b) : (a.fdiv b).natAbs ≤ a.natAbs + 1 := by
  rw [Int.fdiv_eq_ediv_of_nonneg _ (by omega)]
  have h1 := Int.natAbs_ediv_le_natAbs a b
  omega
theorem sg_of {n m E K : Nat} {vs : List Vec} (hm : m ≤ 40) (hl : Len n vs) (hE : ∀ k, k < K → Eseq m E k ≤ 8900) (hD : ∀ k, k ≤ K → Dseq m E k ≤ 400000) : ∀ (k p : Nat) (s : SS), p + k = n → SI n m E vs p s → ((List.range' p k).foldl stepS s).1.length ≤ K → SG n s (List.range' p k)
  | 0, _, _, _, _, _ => .nil
  | k + 1, p, s, hp, h, hK => by
    rw [List.range'_succ] at hK ⊢
    rw [List.foldl_cons] at hK
    have hp' : p < n := by omega
    have hs := h.step hp' hl
    have ih := sg_of hm hl hE hD k (p + 1) (stepS s p) (by omega) hs hK
    have lL : Len n s.2 := fun r hr => (h.ll r hr).1
    have ct := h.ct
    have c := clear_ok (p := p) lL fun v hv => (h.ll v hv).2.2
    have nx := Nat.le_trans (foldS_len (ps := List.range' (p + 1) k) (s := stepS s p)) hK
    refine .cons hp' ?_ (by omega) (by omega) (fun hd q => ?_) ih
    · by_cases q : (clearV p s.2).1 = none
      · refine cg_zero lL ?_
        have q' : (s.2.foldl (stepCl p) (none, [])).1 = none := by
          unfold clearV at q
          simpa using q
        exact (clear_none q').2
      · obtain ⟨hd, q'⟩ := Option.ne_none_iff_exists'.mp q
        have l1 : (stepS s p).1.length = s.1.length + 1 := by unfold stepS; rw [q']; simp
        have e1 := hE s.1.length (by omega)
        refine cg_of e1 s.2 [] (none, []) (fun g hg => by simp at hg) lL (fun v hv => (h.ll v hv).2.2) ?_ ci_nil
        have : ([] : List Vec).length + s.2.length + 1 ≤ 41 := by simp; omega
        exact Nat.le_trans (Nat.mul_le_mul this (Nat.add_le_add_right e1 3)) (by decide)
    · have l1 : (stepS s p).1.length = s.1.length + 1 := by unfold stepS; rw [q]; simp
      have e1 := hE s.1.length (by omega)
      obtain ⟨h1, h2, h3, h4⟩ := c.lh hd q
      refine ⟨h1, divOk_sz (by omega) h3 e1, fun one ho => ⟨h.st.len one ho, fun x hx => ?_⟩⟩
      have f1 := fdiv_abs (a := ge one p) h2
      have f2 := h.sz one ho p
      have f3 : ((ge one p).fdiv (ge hd p)).natAbs ≤ 2 ^ (Dseq m E s.1.length + 1) := by
        rw [Nat.pow_succ]
        have := Nat.pow_pos (a := 2) (n := Dseq m E s.1.length) (by decide)
        omega
      have d1 := hD s.1.length (by omega)
      have : s.2.length * (Eseq m E s.1.length + 3) ≤ 400000 := Nat.le_trans (Nat.mul_le_mul (show s.2.length ≤ 40 by omega) (Nat.add_le_add_right e1 3)) (by decide)
      exact mulOk_sz f3 (h4.mem hx) (by omega)
theorem sg_main {n E K : Nat} {vs : List Vec} (hm : vs.length ≤ 40) (hl : Len n vs) (sz : ∀ v ∈ vs, Sz v (2 ^ E)) (hE : ∀ k, k < K → Eseq vs.length E k ≤ 8900) (hD : ∀ k, k ≤ K → Dseq vs.length E k ≤ 400000) (hK : (stairsV vs n).length ≤ K) : SG n ([], vs) (List.range n) := by
  rw [List.range_eq_range']
  refine sg_of hm hl hE hD n 0 ([], vs) (by omega) (si_start hl sz) ?_
  rw [← List.range_eq_range']
  exact hK
end K03

namespace K03
open L2 PySem PySem.Spec PyProof.Rows DL
open HN
/-! ### vectors whose first entries stand at different places -/
def Apart (v w : Vec) : Prop := ∀ k, (∀ j, j < k → ge v j = 0 ∧ ge w j = 0) → ge v k = 0 ∨ ge w k = 0
theorem Apart.symm {v w : Vec} (h : Apart v w) : Apart w v := fun k hk => (h k fun j hj => (hk j hj).symm).symm
theorem cg_one {n p : Nat} : ∀ {vs : List Vec} {r : List Vec}, Len n vs → vs.Pairwise (fun v w => ge v p = 0 ∨ ge w p = 0) → CG n p (none, r) vs
  | [], _, _, _ => .nil
  | v :: vs, r, hl, h => by
    rw [List.pairwise_cons] at h
    have hv := hl v List.mem_cons_self
    have hl' : Len n vs := fun g hg => hl g (List.mem_cons_of_mem _ hg)
    refine .cons hv (fun _ g hg => nomatch hg) ?_
    by_cases hz : ge v p = 0
    · have e : stepCl p (none, r) v = (none, r ++ [v]) := by unfold stepCl; rw [if_pos hz]
      rw [e]
      exact cg_one hl' h.2
    · exact cg_zero hl' fun u hu => (h.1 u hu).resolve_left hz
theorem clear_one {p : Nat} : ∀ {vs : List Vec} {o : Option Vec} {r : List Vec}, vs.Pairwise (fun v w => ge v p = 0 ∨ ge w p = 0) → (o ≠ none → ∀ v ∈ vs, ge v p = 0) →
    (vs.foldl (stepCl p) (o, r)).2 = r ++ vs.filter (fun v => decide (ge v p = 0)) ∧ ∀ g, (vs.foldl (stepCl p) (o, r)).1 = some g → o = some g ∨ (g ∈ vs ∧ ge g p ≠ 0)
  | [], o, r, _, _ => ⟨by simp, fun g hg => .inl hg⟩
  | v :: vs, o, r, h, ho => by
    rw [List.pairwise_cons] at h
    rw [List.foldl_cons]
    by_cases hz : ge v p = 0
    · have e : stepCl p (o, r) v = (o, r ++ [v]) := by unfold stepCl; rw [if_pos hz]
      rw [e]
      obtain ⟨h1, h2⟩ := clear_one (o := o) (r := r ++ [v]) h.2 fun q u hu => ho q u (List.mem_cons_of_mem _ hu)
      refine ⟨by rw [h1, List.filter_cons]; simp [hz], fun g hg => ?_⟩
      rcases h2 g hg with q | ⟨q1, q2⟩
      · exact .inl q
      · exact .inr ⟨List.mem_cons_of_mem _ q1, q2⟩
    · have on : o = none := by
        cases o with
        | none => rfl
        | some g => exact absurd (ho (fun z => nomatch z) v List.mem_cons_self) hz
      subst on
      have e : stepCl p (none, r) v = (some v, r) := by unfold stepCl; rw [if_neg hz]
      rw [e]
      obtain ⟨h1, h2⟩ := clear_one (o := some v) (r := r) h.2 fun _ u hu => (h.1 u hu).resolve_left hz
      refine ⟨by rw [h1, List.filter_cons]; simp [hz], fun g hg => ?_⟩
      rcases h2 g hg with q | ⟨q1, q2⟩
      · cases q; exact .inr ⟨List.mem_cons_self, hz⟩
      · exact .inr ⟨List.mem_cons_of_mem _ q1, q2⟩
theorem sz_posV {p : Nat} {g : Vec} {A : Nat} (h : Sz g A) : Sz (posV p g) A := by
  unfold posV; split; exact sz_neg h; exact h
theorem ge_posV {p : Nat} {g : Vec} (h : ge g p ≠ 0) : 0 < ge (posV p g) p ∧ (ge (posV p g) p).natAbs = (ge g p).natAbs := by
  unfold posV
  split
  · rw [ge_neg]; omega
  · omega
theorem sz_red {p A B : Nat} {g one : Vec} (hl : one.length = g.length) (hg : 0 < ge g p) (h : Sz one (2 ^ A)) (k : Sz g (2 ^ B)) : Sz (redV p g one) (2 ^ (A + B + 2)) := by
  unfold redV
  refine (sz_less hl h k).mono ?_
  have f := fdiv_abs (a := ge one p) hg
  have := h p
  have a1 := Nat.pow_pos (a := 2) (n := A) (by decide)
  have b1 := Nat.pow_pos (a := 2) (n := B) (by decide)
  have e : 2 ^ (A + B + 2) = 4 * (2 ^ A * 2 ^ B) := by rw [Nat.pow_add, Nat.pow_add, Nat.mul_comm]
  rw [e]
  have m1 : ((ge one p).fdiv (ge g p)).natAbs * 2 ^ B ≤ (2 ^ A + 1) * 2 ^ B := Nat.mul_le_mul_right _ (by omega)
  have m2 : 2 ^ A ≤ 2 ^ A * 2 ^ B := Nat.le_mul_of_pos_right _ b1
  have m3 : 2 ^ B ≤ 2 ^ A * 2 ^ B := Nat.le_mul_of_pos_left _ a1
  rw [Nat.add_mul] at m1
  omega
theorem sep_sg {n E : Nat} (hE : E ≤ 8900) : ∀ (k p B : Nat) (s : SS), p + k = n → s.2.Pairwise Apart → (∀ v ∈ s.2, v.length = n ∧ (∀ j, j < p → ge v j = 0) ∧ Sz v (2 ^ E)) → (∀ v ∈ s.1, v.length = n ∧ Sz v (2 ^ B)) → s.1.length + s.2.length ≤ 40 → B + k * (E + 2) ≤ 400000 → SG n s (List.range' p k)
  | 0, _, _, _, _, _, _, _, _, _ => .nil
  | k + 1, p, B, s, hp, pw, h2, h1, hc, hb => by
    rw [List.range'_succ]
    have hp' : p < n := by omega
    have lL : Len n s.2 := fun r hr => (h2 r hr).1
    have pw' : s.2.Pairwise (fun v w => ge v p = 0 ∨ ge w p = 0) := by
      refine List.Pairwise.imp_of_mem (fun {v w} hv hw q => q p fun j hj => ⟨(h2 v hv).2.1 j hj, (h2 w hw).2.1 j hj⟩) pw
    obtain ⟨c1, c2⟩ := clear_one (o := none) (r := []) pw' fun q => absurd rfl q
    rw [List.nil_append] at c1
    have cl2 : (clearV p s.2).2 = s.2.filter fun v => decide (ge v p = 0) := c1
    have cl1 : ∀ h, (clearV p s.2).1 = some h → ∃ g, g ∈ s.2 ∧ ge g p ≠ 0 ∧ h = posV p g := fun h q => by
      unfold clearV at q
      obtain ⟨g, q1, q2⟩ := Option.map_eq_some_iff.mp q
      rcases c2 g q1 with z | z
      · cases z
      · exact ⟨g, z.1, z.2, q2.symm⟩
    have left' : ∀ v ∈ (clearV p s.2).2, v.length = n ∧ (∀ j, j < p + 1 → ge v j = 0) ∧ Sz v (2 ^ E) := fun v hv => by
      rw [cl2] at hv
      obtain ⟨m1, m2⟩ := List.mem_filter.mp hv
      obtain ⟨a, b, c⟩ := h2 v m1
      refine ⟨a, fun j hj => ?_, c⟩
      by_cases z : j < p
      · exact b j z
      · have : j = p := by omega
        rw [this]; simpa using m2
    have pw2 : (clearV p s.2).2.Pairwise Apart := by rw [cl2]; exact pw.filter _
    have ks : (k + 1) * (E + 2) = k * (E + 2) + (E + 2) := by rw [Nat.add_mul, Nat.one_mul]
    refine .cons hp' (cg_one lL pw') (by omega) (by omega) (fun h q => ?_) ?_
    · obtain ⟨g, g1, g2, rfl⟩ := cl1 h q
      obtain ⟨a, b, c⟩ := h2 g g1
      obtain ⟨e1, e2⟩ := ge_posV g2
      refine ⟨posV_len.trans a, divOk_sz (by omega) (by rw [e2]; exact c p) hE, fun one ho => ⟨(h1 one ho).1, fun x hx => ?_⟩⟩
      have f1 := fdiv_abs (a := ge one p) e1
      have f2 := (h1 one ho).2 p
      have f3 : ((ge one p).fdiv (ge (posV p g) p)).natAbs ≤ 2 ^ (B + 1) := by
        rw [Nat.pow_succ]
        have := Nat.pow_pos (a := 2) (n := B) (by decide)
        omega
      exact mulOk_sz f3 ((sz_posV c).mem hx) (by omega)
    · unfold stepS
      have lf := List.length_filter_le (fun v => decide (ge v p = 0)) s.2
      cases q : (clearV p s.2).1 with
      | none =>
        exact sep_sg hE k (p + 1) B _ (by omega) pw2 left' h1 (by dsimp only; rw [cl2]; omega) (by omega)
      | some h =>
        obtain ⟨g, g1, g2, rfl⟩ := cl1 h q
        obtain ⟨a, b, c⟩ := h2 g g1
        obtain ⟨e1, e2⟩ := ge_posV g2
        refine sep_sg hE k (p + 1) (B + E + 2) _ (by omega) pw2 left' (fun v hv => ?_) ?_ (by omega)
        · dsimp only at hv
          rcases List.mem_append.mp hv with z | z
          · obtain ⟨one, o1, rfl⟩ := List.mem_map.mp z
            have ol := (h1 one o1).1
            have pl : (posV p g).length = n := posV_len.trans a
            refine ⟨?_, sz_red (by rw [ol, pl]) e1 (h1 one o1).2 (sz_posV c)⟩
            unfold redV
            rw [len_less (by rw [ol, pl])]; exact ol
          · simp at z
            subst z
            exact ⟨posV_len.trans a, (sz_posV c).mono (pow_le (by omega))⟩
        · dsimp only
          rw [cl2, List.length_append, List.length_map, List.length_singleton]
          have : (s.2.filter fun v => decide (ge v p = 0)).length < s.2.length := by
            rw [List.length_filter_lt_length_iff_exists]
            exact ⟨g, g1, by simpa using g2⟩
          omega
theorem sep_main {n E : Nat} {vs : List Vec} (hn : n ≤ 6) (hE : E ≤ 8900) (hl : Len n vs) (pw : vs.Pairwise Apart) (sz : ∀ v ∈ vs, Sz v (2 ^ E)) (hc : vs.length ≤ 40) : SG n ([], vs) (List.range n) := by
  rw [List.range_eq_range']
  refine sep_sg hE n 0 0 ([], vs) (by omega) pw (fun v hv => ⟨hl v hv, fun j hj => by omega, sz v hv⟩) (fun v hv => by simp at hv) (by simpa using hc) ?_
  have := Nat.mul_le_mul hn (Nat.add_le_add_right hE 2)
  omega
theorem Apart.neg {v w : Vec} (h : Apart v w) : Apart (negV v) (negV w) := fun k hk => by
  rw [ge_neg, ge_neg]
  have := h k fun j hj => by have := hk j hj; rw [ge_neg, ge_neg] at this; omega
  omega
theorem stairs_apart {n : Nat} {S : List Vec} (h : Stairs n S) : S.Pairwise Apart := by
  induction h with
  | nil => exact .nil
  | @cons s S a hs hz hr h ih =>
    refine .cons (fun t ht k hk => ?_) ih
    by_cases q : k ≤ a
    · exact .inr ((hz t ht).2 k q)
    · have := (hk a (by omega)).1
      have := hs.pos
      omega
end K03

namespace K03
open L2 PySem PySem.Spec PyProof.Rows DL
open HN
/-! ### the law's own defs, told -/
theorem map_fm {α : Type} (p : Nat → Bool) (f : Nat → α) (l : List Nat) : l.filterMap (fun k => if p k = true then some (f k) else none) = (l.filter p).map f := by
  induction l with
  | nil => rfl
  | cons a l ih =>
    rw [List.filterMap_cons, List.filter_cons]
    by_cases h : p a = true
    · simp [h, ih]
    · simp [h, ih]
theorem stepN_spec (v : Vec) : stepN v ≤ v.length ∧ (∀ i, i < stepN v → ge v i = 0) ∧ (stepN v < v.length → ge v (stepN v) ≠ 0) := by
  obtain ⟨j, h1, h2, h3, h4⟩ := stepF_spec v 0
  have e : stepN v = j := by unfold stepN; rw [h1]; omega
  rw [e]
  exact ⟨h2, h3, h4⟩
theorem law_step_eq {v : Vec} (hl : v.length ≤ 1000) : f_u_law_step [vec v] = .ok (.val (.int (stepN v : Int))) := by
  unfold f_u_law_step
  rw [runF_out]
  have h1 : (v.length : Int) < 4611686018427387904 := by omega
  have h2 : -4611686018427387904 ≤ (v.length : Int) := by omega
  simp [b_u_law_step, startD, h1, h2]
  rw [compX_eq (g := fun k : Nat => if decide (ge v k ≠ 0) = true then some (.int (k : Int)) else none) (fun k hk => by
    have g1 := gx (v := v) (p := k) (List.mem_range.mp hk)
    by_cases z : ge v k = 0
    · simp [g1, z]
    · simp [g1, z]) (by rw [sizeLine_eq, List.length_range]; omega), map_fm]
  have e : ((List.range v.length).filter fun k => decide (ge v k ≠ 0)).map (fun k : Nat => PyData.int (k : Int)) ++ [PyData.int (v.length : Int)] = (((List.range v.length).filter fun k => decide (ge v k ≠ 0)).map (fun k : Nat => (k : Int)) ++ [(v.length : Int)]).map PyData.int := by simp
  have hlen : (((List.range v.length).filter fun k => decide (ge v k ≠ 0)).map (fun k : Nat => PyData.int (k : Int))).length + 1 ≤ 16777216 := by
    rw [List.length_map]
    have := List.length_filter_le (fun k => decide (ge v k ≠ 0)) (List.range v.length)
    rw [List.length_range] at this
    omega
  have hk := kMin_list (v := ((List.range v.length).filter fun k => decide (ge v k ≠ 0)).map (fun k : Nat => (k : Int)) ++ [(v.length : Int)]) (by simp)
  rw [← e] at hk
  have hm := minI_spec (v := ((List.range v.length).filter fun k => decide (ge v k ≠ 0)).map (fun k : Nat => (k : Int)) ++ [(v.length : Int)]) (by simp)
  generalize minI (((List.range v.length).filter fun k => decide (ge v k ≠ 0)).map (fun k : Nat => (k : Int)) ++ [(v.length : Int)]) = m at hk hm
  obtain ⟨s1, s2, s3⟩ := stepN_spec v
  have em : m = (stepN v : Int) := by
    obtain ⟨m1, m2⟩ := hm
    have le : m ≤ (stepN v : Int) := by
      by_cases q : stepN v < v.length
      · refine m2 _ (List.mem_append_left _ (List.mem_map.mpr ⟨stepN v, List.mem_filter.mpr ⟨List.mem_range.mpr q, by simpa using s3 q⟩, rfl⟩))
      · have := m2 (v.length : Int) (by simp); omega
    rcases List.mem_append.mp m1 with q | q
    · obtain ⟨k, k1, rfl⟩ := List.mem_map.mp q
      obtain ⟨k2, k3⟩ := List.mem_filter.mp k1
      by_cases z : k < stepN v
      · have := s2 k z; simp at k3; exact absurd this k3
      · omega
    · simp at q; omega
  have hlen' : ((List.range v.length).filter fun k => decide (ge v k ≠ 0)).length + 1 ≤ 16777216 := by rw [List.length_map] at hlen; exact hlen
  subst em
  clear e hm
  simp at hk hlen' ⊢
  simp [hk, hlen']
end K03

namespace K03
open L2 PySem PySem.Spec PyProof.Rows DL
open HN
def gl (vs : List Vec) (k : Nat) : Vec := vs.getD k []
theorem gl_at {vs : List Vec} {k : Nat} (h : k < vs.length) : vs[k]? = some (gl vs k) := by
  rw [List.getElem?_eq_getElem h, gl, List.getD_eq_getElem?_getD, List.getElem?_eq_getElem h]; rfl
theorem gl_mem {vs : List Vec} {k : Nat} (h : k < vs.length) : gl vs k ∈ vs := List.mem_of_getElem? (gl_at h)
def okJ (vs : List Vec) (k j : Nat) : Bool := decide (0 ≤ ge (gl vs j) (stepN (gl vs k))) && decide (ge (gl vs j) (stepN (gl vs k)) < ge (gl vs k) (stepN (gl vs k)))
def stK (vs : List Vec) (k : Nat) : Bool := decide (stepN (gl vs k) < (gl vs k).length) && (decide (0 ≤ ge (gl vs k) (stepN (gl vs k))) && ((decide (k = 0) || decide (stepN (gl vs (k - 1)) < stepN (gl vs k))) &&
  (List.range k).all (okJ vs k)))
def isSt (vs : List Vec) : Bool := (List.range vs.length).all (stK vs)
theorem forD_nx {bind : D → DEnv → Option DEnv} {body : DSt} {d : D} {ds : List D} {ρ ρ' : DEnv} (h : optF (bind d ρ) body = .nx ρ') : forD bind body (d :: ds) ρ = forD bind body ds ρ' := by
  rw [forD]
  cases q : bind d ρ with
  | none => rw [q] at h; cases h
  | some ρ1 =>
    rw [q] at h
    have h' : body ρ1 = .nx ρ' := h
    show (match body ρ1 with
      | .nx ρ2 => forD bind body ds ρ2
      | .ct ρ2 => forD bind body ds ρ2
      | .bk ρ2 => .nx ρ2
      | .rt v ρ2 => .rt v ρ2
      | .err x ρ2 => .err x ρ2
      | .bad => .bad) = _
    rw [h']
theorem forD_rt {bind : D → DEnv → Option DEnv} {body : DSt} {d : D} {ds : List D} {ρ ρ' : DEnv} {v : RV} (h : optF (bind d ρ) body = .rt v ρ') : forD bind body (d :: ds) ρ = .rt v ρ' := by
  rw [forD]
  cases q : bind d ρ with
  | none => rw [q] at h; cases h
  | some ρ1 =>
    rw [q] at h
    have h' : body ρ1 = .rt v ρ' := h
    show (match body ρ1 with
      | .nx ρ2 => forD bind body ds ρ2
      | .ct ρ2 => forD bind body ds ρ2
      | .bk ρ2 => .nx ρ2
      | .rt v ρ2 => .rt v ρ2
      | .err x ρ2 => .err x ρ2
      | .bad => .bad) = _
    rw [h']
theorem forD_bk {bind : D → DEnv → Option DEnv} {body : DSt} {d : D} {ds : List D} {ρ ρ' : DEnv} (h : optF (bind d ρ) body = .bk ρ') : forD bind body (d :: ds) ρ = .nx ρ' := by
  rw [forD]
  cases q : bind d ρ with
  | none => rw [q] at h; cases h
  | some ρ1 =>
    rw [q] at h
    have h' : body ρ1 = .bk ρ' := h
    show (match body ρ1 with
      | .nx ρ2 => forD bind body ds ρ2
      | .ct ρ2 => forD bind body ds ρ2
      | .bk ρ2 => .nx ρ2
      | .rt v ρ2 => .rt v ρ2
      | .err x ρ2 => .err x ρ2
      | .bad => .bad) = _
    rw [h']
end K03

namespace K03
open L2 PySem PySem.Spec PyProof.Rows DL
open HN
/-! ### the law's look at a form -/
theorem step_stepN {n a : Nat} {s : Vec} (h : Step n s a) : stepN s = a := by
  obtain ⟨s1, s2, s3⟩ := stepN_spec s
  have hl := h.len
  have hp := h.pos
  have lt := h.lt
  rcases Nat.lt_trichotomy (stepN s) a with q | q | q
  · exact absurd (h.z _ q) (s3 (by omega))
  · exact q
  · have := s2 a q; omega
theorem step_of_N {n : Nat} {s : Vec} (hl : s.length = n) (h1 : stepN s < n) (h2 : 0 ≤ ge s (stepN s)) : Step n s (stepN s) := by
  obtain ⟨s1, s2, s3⟩ := stepN_spec s
  have := s3 (by omega)
  exact ⟨hl, h1, s2, by omega⟩
def Rel2 (v w : Vec) : Prop := stepN v < stepN w ∧ 0 ≤ ge v (stepN w) ∧ ge v (stepN w) < ge w (stepN w)
theorem stairs_pw {n : Nat} {S : List Vec} : Stairs n S ↔ (∀ v ∈ S, Step n v (stepN v)) ∧ S.Pairwise Rel2 := by
  constructor
  · intro h
    induction h with
    | nil => exact ⟨fun v hv => by simp at hv, .nil⟩
    | @cons s S a hs hz hr h ih =>
      obtain ⟨i1, i2⟩ := ih
      have ea := step_stepN hs
      refine ⟨fun v hv => ?_, .cons (fun t ht => ?_) i2⟩
      · rcases List.mem_cons.mp hv with rfl | q
        · rw [ea]; exact hs
        · exact i1 v q
      · have it := i1 t ht
        have z := (hz t ht).2
        have r := hr t ht _ it
        refine ⟨?_, r.1, r.2⟩
        rw [ea]
        by_cases q : stepN t ≤ a
        · have := z _ q; have := it.pos; omega
        · omega
  · rintro ⟨h1, h2⟩
    induction S with
    | nil => exact .nil
    | cons s S ih =>
      rw [List.pairwise_cons] at h2
      have hs := h1 s List.mem_cons_self
      refine .cons hs (fun t ht => ?_) (fun t ht b hb => ?_) (ih (fun v hv => h1 v (List.mem_cons_of_mem _ hv)) h2.2)
      · have it := h1 t (List.mem_cons_of_mem _ ht)
        have r := h2.1 t ht
        exact ⟨it.len, fun k hk => it.z k (by have := r.1; omega)⟩
      · have r := h2.1 t ht
        rw [← step_stepN hb]
        exact ⟨r.2.1, r.2.2⟩
theorem gl_eq {vs : List Vec} {k : Nat} (h : k < vs.length) : gl vs k = vs[k] := by
  have := gl_at h
  rw [List.getElem?_eq_getElem h] at this
  exact (Option.some.inj this).symm
theorem isSt_iff {n : Nat} {vs : List Vec} (hl : Len n vs) : isSt vs = true ↔ Stairs n vs := by
  rw [stairs_pw]
  unfold isSt
  rw [List.all_eq_true]
  have un : ∀ k, stK vs k = true ↔ (stepN (gl vs k) < (gl vs k).length ∧ 0 ≤ ge (gl vs k) (stepN (gl vs k)) ∧ (k = 0 ∨ stepN (gl vs (k - 1)) < stepN (gl vs k)) ∧ ∀ j, j < k → 0 ≤ ge (gl vs j) (stepN (gl vs k)) ∧ ge (gl vs j) (stepN (gl vs k)) < ge (gl vs k) (stepN (gl vs k))) := fun k => by
    unfold stK okJ
    simp only [Bool.and_eq_true, decide_eq_true_eq, Bool.or_eq_true, List.all_eq_true, List.mem_range]
  constructor
  · intro h
    have h' : ∀ k, k < vs.length → _ := fun k hk => (un k).mp (h k (List.mem_range.mpr hk))
    have up : ∀ k, k < vs.length → ∀ j, j < k → stepN (gl vs j) < stepN (gl vs k) := by
      intro k
      induction k with
      | zero => intro _ j hj; omega
      | succ k ih =>
        intro hk j hj
        have a := (h' (k + 1) hk).2.2.1.resolve_left (by omega)
        rw [Nat.add_sub_cancel] at a
        by_cases q : j = k
        · rw [q]; exact a
        · have := ih (by omega) j (by omega); omega
    refine ⟨fun v hv => ?_, ?_⟩
    · obtain ⟨k, hk, e⟩ := List.getElem_of_mem hv
      rw [← gl_eq hk] at e
      have := h' k hk
      rw [e] at this
      have lv := hl v hv
      exact step_of_N lv (by omega) this.2.1
    · rw [List.pairwise_iff_getElem]
      intro i j hi hj hij
      rw [← gl_eq hi, ← gl_eq hj]
      obtain ⟨_, _, _, d⟩ := h' j hj
      exact ⟨up j hj i hij, d i hij⟩
  · rintro ⟨h1, h2⟩ k hk
    have hk := List.mem_range.mp hk
    rw [List.pairwise_iff_getElem] at h2
    have st := h1 _ (gl_mem hk)
    refine (un k).mpr ⟨by have := st.lt; have := st.len; omega, by have := st.pos; omega, ?_, fun j hj => ?_⟩
    · by_cases z : k = 0
      · exact .inl z
      · have := h2 (k - 1) k (by omega) hk (by omega)
        rw [← gl_eq (by omega), ← gl_eq hk] at this
        exact .inr this.1
    · have := h2 j k (by omega) hk hj
      rw [← gl_eq (by omega), ← gl_eq hk] at this
      exact this.2
/-- the program's look says the same -/
theorem chkS_iff {n : Nat} {vs : List Vec} (hl : Len n vs) : chkS vs (stairsV vs n) = isSt vs := by
  obtain ⟨o1, o2, _⟩ := stairs_ok hl
  rw [Bool.eq_iff_iff, isSt_iff hl]
  unfold chkS
  rw [Bool.and_eq_true, decide_eq_true_eq, List.all_eq_true]
  constructor
  · rintro ⟨_, h⟩
    rw [h]; exact o1
  · intro h
    refine ⟨fun v hv => ?_, (o1.uniq h o2).symm⟩
    have st := (stairs_pw.mp h).1 v hv
    rw [decide_eq_true_eq]
    have := st.lt; have := st.len; omega
end K03

namespace K03
open L2 PySem PySem.Spec PyProof.Rows DL
open HN
/-! ### the law's way down -/
def inStep (v one : Vec) : Vec := lessV v ((ge v (stepN one)).fdiv (ge one (stepN one))) one
theorem in_one {n : Nat} {s : Vec} {S : List Vec} {v : Vec} (hs : Stairs n (s :: S)) (h : Lat n (s :: S) v) : Lat n S (inStep v s) := by
  have sl := hs.len
  cases hs with
  | @cons _ _ a hs hz hr h2 =>
    have ea := step_stepN hs
    have lS : Len n S := fun g hg => sl g (List.mem_cons_of_mem _ hg)
    obtain ⟨c, w, hw, rfl⟩ := (Lat.cons_iff hs.len lS).mp h
    have lw := hw.len lS
    have zw : ge w a = 0 := Lat.zeroAt lS (fun g hg => (hz g hg).2 a (Nat.le_refl _)) hw
    unfold inStep
    rw [ea]
    have hp := hs.pos
    have g1 : ge (lessV w c s) a = -c * ge s a := by rw [ge_less (by rw [lw, hs.len]), zw, Int.neg_mul]; omega
    have f1 : (ge (lessV w c s) a).fdiv (ge s a) = -c := by rw [g1]; exact Int.mul_fdiv_cancel _ (by omega)
    rw [f1]
    have l1 : (lessV w c s).length = n := by rw [len_less (by rw [lw, hs.len]), lw]
    have e : lessV (lessV w c s) (-c) s = w := by
      refine ext (by rw [len_less (by rw [l1, hs.len]), l1, lw]) fun k _ => ?_
      rw [ge_less (by rw [l1, hs.len]), ge_less (by rw [lw, hs.len]), Int.neg_mul]; omega
    rw [e]
    exact hw
theorem in_run {n : Nat} : ∀ {S : List Vec} {v : Vec}, Stairs n S → Lat n S v → S.foldl inStep v = zeroV n
  | [], v, _, h => lat_nil h
  | s :: S, v, hs, h => by
    rw [List.foldl_cons]
    refine in_run ?_ (in_one hs h)
    cases hs with
    | cons _ _ _ h2 => exact h2
abbrev rN (c : D) (v : Vec) (fs : List Int) (j3 j4 j5 : Option SV) : DEnv := [some (.val c), some (.val (vec v)), some (.own false (.lst (zs fs))), j3, j4, j5, none, none]
def nB : DSt := gSeq (gSet 4 (xCall f_u_law_step (aCons (xVar 3) (aNil)))) (gSeq (gSet 5 (x2 kDiv (x2 kIx (xVar 1) (xVar 4)) (x2 kIx (xVar 3) (xVar 4)))) (gSeq (gExpr (xM 2 mAppend (aCons (xVar 5) (aNil)))) (gSet 1 (xCB kTuple (aCons (ofL (xComp (iRange1 (aCons (xCB kLen (aCons (xVar 1) (aNil))) (aNil))) [6] (bName 6) (tTrue) (x2 kSub (x2 kIx (xVar 1) (xVar 6)) (x2 kMul (xVar 5) (x2 kIx (xVar 3) (xVar 6)))))) (aNil))))))
theorem less_range {v o : Vec} {f : Int} (hl : v.length = o.length) : (List.range v.length).map (fun k => ge v k - f * ge o k) = lessV v f o := by
  refine ext (by rw [List.length_map, List.length_range, len_less hl]) fun k hk => ?_
  rw [List.length_map, List.length_range] at hk
  rw [ge_less hl, ge_lt (by rw [List.length_map, List.length_range]; exact hk)]
  simp
theorem nTurn {n : Nat} (hn : n ≤ 1000) {c : D} {v one : Vec} (lv : v.length = n) (lo : one.length = n) (hs : stepN one < n) (hd : divOk (ge one (stepN one)) = true) (hm : ∀ x ∈ one, mulOk ((ge v (stepN one)).fdiv (ge one (stepN one))) x = true) {fs : List Int} (hf : fs.length ≤ 1000) {j3 j4 j5 : Option SV} (h3 : VS j3) (h4 : VS j4) (h5 : VS j5) :
    ∃ j4' j5', VS j4' ∧ VS j5' ∧ optF (bName 3 (vec one) (rN c v fs j3 j4 j5)) nB = .nx (rN c (inStep v one) (fs ++ [(ge v (stepN one)).fdiv (ge one (stepN one))]) (some (.val (vec one))) j4' j5') := by
  have hL := law_step_eq (v := one) (by omega)
  have g1 := gx (v := one) (p := stepN one) (by omega)
  have g2 := gx (v := v) (p := stepN one) (by omega)
  have k1 : (v.length : Int) < 4611686018427387904 := by omega
  have k2 : -4611686018427387904 ≤ (v.length : Int) := by omega
  have hf' : fs.length < 16777216 := by omega
  have hl16 : v.length ≤ 16777216 := by omega
  refine ⟨some (.val (.int (stepN one : Int))), some (.val (.int ((ge v (stepN one)).fdiv (ge one (stepN one))))), .val, .val, ?_⟩
  have hx : ∀ {ρ : DEnv} {o : Res Cell} {f : Nat → Option (Option D × DEnv)}, (∀ k ∈ List.range v.length, f k = some (some (.int (ge v k - (ge v (stepN one)).fdiv (ge one (stepN one)) * ge one k)), ρ)) → compX o ρ f (List.range v.length) = .ok (.lst ((inStep v one).map PyData.int)) ρ := by
    intro ρ o f hf
    rw [compX_eq (g := fun k : Nat => some (.int (ge v k - (ge v (stepN one)).fdiv (ge one (stepN one)) * ge one k))) hf (by rw [sizeLine_eq, List.length_range]; omega), List.filterMap_eq_map', inStep, ← less_range (by omega), List.map_map]
    rfl
  rcases h3 with rfl | ⟨d3, rfl⟩ <;> rcases h4 with rfl | ⟨d4, rfl⟩ <;> rcases h5 with rfl | ⟨d5, rfl⟩ <;>
  · simp [nB, hL, g1, g2, hd, hf', k1, k2]
    rw [hx fun k hk => by
      have hk := List.mem_range.mp hk
      have e1 := gx (v := v) (p := k) hk
      have e2 := gx (v := one) (p := k) (by omega)
      have e3 := hm (ge one k) (by rw [ge_lt (by omega)]; exact List.getElem_mem _)
      simp [e1, e2, e3]]
    simp
end K03

namespace K03
open L2 PySem PySem.Spec PyProof.Rows DL
open HN
/-! ### the law's way to the stairs form, plain -/
def encR (p : Nat) (r : Vec) : D := .tuple [.int ((ge r p).natAbs : Int), .list (r.map PyData.int)]
noncomputable def srt (p : Nat) (L : List Vec) : List Vec := L.mergeSort (PySem.W.dataLe false (encR p))
theorem srt_perm (p : Nat) (L : List Vec) : (srt p L).Perm L := List.mergeSort_perm _ _
theorem srt_head {p : Nat} {L : List Vec} {l : Vec} {rs : List Vec} (h : srt p L = l :: rs) : ∀ r ∈ rs, (ge l p).natAbs ≤ (ge r p).natAbs := by
  have T := PySem.W.sortLe_total (PyProof.Rows.listOrd PyProof.Rows.itemOrd) false fun b => PySem.W.keyToks (encR p b)
  have pw : (srt p L).Pairwise (fun a b => PySem.W.dataLe false (encR p) a b = true) := PySem.W.sort_pairwise T L
  rw [h, List.pairwise_cons] at pw
  intro r hr
  have := pw.1 r hr
  rw [PySem.W.dataLe_eq] at this
  have this' : (!PySem.W.dataLt (encR p r) (encR p l)) = true := this
  unfold encR at this'
  rw [PySem.W.dataLt_pair (alike_int _ _) (by simpa [PySem.W.alike] using alike_ints r l), PySem.W.dataLt_int] at this'
  by_cases z : (ge l p).natAbs ≤ (ge r p).natAbs
  · exact z
  · exfalso
    have ne : ¬ ((ge r p).natAbs : Int) = ((ge l p).natAbs : Int) := by omega
    have e : PyData.eqv (.int ((ge r p).natAbs : Int)) (.int ((ge l p).natAbs : Int)) = false := by
      simp [PyData.eqv]; omega
    rw [e] at this'
    simp at this'
    omega
def nzR (p : Nat) (rows : List Vec) : List Vec := rows.filter fun r => decide (ge r p ≠ 0)
def zR (p : Nat) (rows : List Vec) : List Vec := rows.filter fun r => decide (ge r p = 0)
def tnew (p : Nat) (rows : List Vec) (l : Vec) (rs : List Vec) : List Vec := (zR p rows ++ rs.map (redV p l)) ++ [l]
inductive TG (n p : Nat) : Nat → List Vec → List Vec → Prop
  | done {rows : List Vec} (ll : Len n rows) (h : (nzR p rows).length < 2) : TG n p 0 rows rows
  | step {f : Nat} {rows rs out : List Vec} {l : Vec} (ll : Len n rows) (hl : rows.length ≤ 1000) (hs : srt p (nzR p rows) = l :: rs) (h2 : rs ≠ []) (hd : divOk (ge l p) = true) (hm : ∀ r ∈ rs, ∀ x ∈ l, mulOk ((ge r p).fdiv (ge l p)) x = true) (t : TG n p f (tnew p rows l rs) out) : TG n p (f + 1) rows out
/-- what a turn keeps -/
structure TK (n p : Nat) (rows rows' : List Vec) : Prop where
  ll : Len n rows'
  ct : rows'.length = rows.length
  keep : ∀ k, (∀ r ∈ rows, ge r k = 0) → ∀ r ∈ rows', ge r k = 0
  into : ∀ G, Len n G → (∀ r ∈ rows, Lat n G r) → ∀ r ∈ rows', Lat n G r
  back : ∀ G, Len n G → (∀ r ∈ rows', Lat n G r) → ∀ r ∈ rows, Lat n G r
theorem mem_split {p : Nat} {rows : List Vec} (r : Vec) : r ∈ rows ↔ r ∈ zR p rows ∨ r ∈ nzR p rows := by
  unfold zR nzR
  rw [List.mem_filter, List.mem_filter]
  by_cases z : ge r p = 0 <;> simp [z]
theorem len_split {p : Nat} : ∀ rows : List Vec, (zR p rows).length + (nzR p rows).length = rows.length
  | [] => rfl
  | r :: rows => by
    have := len_split (p := p) rows
    unfold zR nzR at this ⊢
    by_cases z : ge r p = 0 <;> simp [z] at this ⊢ <;> omega
theorem turn_keep {n p : Nat} {rows rs : List Vec} {l : Vec} (ll : Len n rows) (hs : srt p (nzR p rows) = l :: rs) : TK n p rows (tnew p rows l rs) := by
  have pm : ∀ r, r ∈ nzR p rows ↔ r = l ∨ r ∈ rs := fun r => by
    have := (srt_perm p (nzR p rows)).mem_iff (a := r)
    rw [hs, List.mem_cons] at this
    exact this.symm
  have hl : l ∈ rows := (mem_split (p := p) l).mpr (.inr ((pm l).mpr (.inl rfl)))
  have hr : ∀ r ∈ rs, r ∈ rows := fun r hr => (mem_split (p := p) r).mpr (.inr ((pm r).mpr (.inr hr)))
  have mt : ∀ r, r ∈ tnew p rows l rs ↔ r ∈ zR p rows ∨ (∃ r0 ∈ rs, redV p l r0 = r) ∨ r = l := fun r => by
    unfold tnew
    simp only [List.mem_append, List.mem_map, List.mem_singleton]
    exact or_assoc
  have rl : ∀ r0 ∈ rs, (redV p l r0).length = n := fun r0 h0 => by
    unfold redV; rw [len_less (by rw [ll _ (hr r0 h0), ll _ hl]), ll _ (hr r0 h0)]
  refine ⟨fun r q => ?_, ?_, fun k z r q => ?_, fun G hG h r q => ?_, fun G hG h r q => ?_⟩
  · rcases (mt r).mp q with q | ⟨r0, h0, rfl⟩ | rfl
    · exact ll r ((mem_split r).mpr (.inl q))
    · exact rl r0 h0
    · exact ll _ hl
  · have e1 := len_split (p := p) rows
    have e2 := (srt_perm p (nzR p rows)).length_eq
    rw [hs, List.length_cons] at e2
    unfold tnew
    rw [List.length_append, List.length_append, List.length_map, List.length_singleton]
    omega
  · rcases (mt r).mp q with q | ⟨r0, h0, rfl⟩ | rfl
    · exact z r ((mem_split r).mpr (.inl q))
    · unfold redV
      rw [ge_less (by rw [ll _ (hr r0 h0), ll _ hl]), z r0 (hr r0 h0), z l hl]; simp
    · exact z _ hl
  · rcases (mt r).mp q with q | ⟨r0, h0, rfl⟩ | rfl
    · exact h r ((mem_split r).mpr (.inl q))
    · exact (h r0 (hr r0 h0)).comb hG (h l hl) _
    · exact h _ hl
  · have hL : Lat n G l := h l ((mt l).mpr (.inr (.inr rfl)))
    rcases (mem_split (p := p) r).mp q with q | q
    · exact h r ((mt r).mpr (.inl q))
    · rcases (pm r).mp q with rfl | q
      · exact hL
      · have := (h _ ((mt _).mpr (.inr (.inl ⟨r, q, rfl⟩)))).comb hG hL (-((ge r p).fdiv (ge l p)))
        have e : lessV (redV p l r) (-((ge r p).fdiv (ge l p))) l = r := by
          have l1 := rl r q
          have l2 := ll _ hl
          have l3 := ll _ (hr r q)
          refine ext (by rw [len_less (by omega), l1, l3]) fun k _ => ?_
          rw [ge_less (by omega)]
          unfold redV
          rw [ge_less (by omega), Int.neg_mul]; omega
        rwa [e] at this
theorem TK.trans {n p : Nat} {a b c : List Vec} (h : TK n p a b) (k : TK n p b c) : TK n p a c :=
  ⟨k.ll, k.ct.trans h.ct, fun j z => k.keep j (h.keep j z), fun G hG q => k.into G hG (h.into G hG q), fun G hG q => h.back G hG (k.back G hG q)⟩
theorem TG.keep {n p f : Nat} {rows out : List Vec} (h : TG n p f rows out) : TK n p rows out ∧ (nzR p out).length < 2 := by
  induction h with
  | done ll h => exact ⟨⟨ll, rfl, fun _ z => z, fun _ _ q => q, fun _ _ q => q⟩, h⟩
  | step ll hl hs h2 hd hm t ih => exact ⟨(turn_keep ll hs).trans ih.1, ih.2⟩
end K03

namespace K03
open L2 PySem PySem.Spec PyProof.Rows DL
open HN
/-! ### the turns of a column end -/
theorem same_fdiv {a b : Int} (hb : b ≠ 0) (h : (0 ≤ a ∧ 0 ≤ b) ∨ (a ≤ 0 ∧ b ≤ 0)) : (a.fdiv b).natAbs = a.natAbs / b.natAbs ∧ (a - a.fdiv b * b).natAbs = a.natAbs % b.natAbs ∧ ((0 ≤ b → 0 ≤ a - a.fdiv b * b) ∧ (b ≤ 0 → a - a.fdiv b * b ≤ 0)) := by
  have key : ∀ x y : Nat, y ≠ 0 → ((x : Int).fdiv (y : Int)) = ((x / y : Nat) : Int) ∧ (x : Int) - ((x / y : Nat) : Int) * y = ((x % y : Nat) : Int) := fun x y hy => by
    refine ⟨by rw [Int.fdiv_eq_ediv_of_nonneg _ (by omega)]; exact (Int.natCast_ediv x y).symm, ?_⟩
    have := Nat.div_add_mod x y
    have e : ((y * (x / y) + x % y : Nat) : Int) = (x : Int) := by rw [this]
    rw [Int.natCast_add, Int.natCast_mul, Int.mul_comm] at e
    omega
  rcases h with ⟨h1, h2⟩ | ⟨h1, h2⟩
  · obtain ⟨x, rfl⟩ := Int.eq_ofNat_of_zero_le h1
    obtain ⟨y, rfl⟩ := Int.eq_ofNat_of_zero_le h2
    obtain ⟨k1, k2⟩ := key x y (by omega)
    rw [k1, k2]
    exact ⟨rfl, rfl, fun _ => by omega, fun z => by omega⟩
  · obtain ⟨x, hx⟩ := Int.eq_ofNat_of_zero_le (show 0 ≤ -a by omega)
    obtain ⟨y, hy⟩ := Int.eq_ofNat_of_zero_le (show 0 ≤ -b by omega)
    obtain rfl : a = -(x : Int) := by omega
    obtain rfl : b = -(y : Int) := by omega
    obtain ⟨k1, k2⟩ := key x y (by omega)
    rw [Int.neg_fdiv_neg, k1, Int.mul_neg]
    refine ⟨by rw [Int.natAbs_neg, Int.natAbs_neg]; rfl, ?_, fun z => by omega, fun _ => by omega⟩
    have : -(x : Int) - -(((x / y : Nat) : Int) * y) = -((x % y : Nat) : Int) := by omega
    rw [this, Int.natAbs_neg, Int.natAbs_neg, Int.natAbs_neg]; rfl
structure TS (n p M P : Nat) (rows : List Vec) : Prop where
  ll : Len n rows
  sg : (∀ r ∈ rows, 0 ≤ ge r p) ∨ (∀ r ∈ rows, ge r p ≤ 0)
  mx : ∀ r ∈ rows, (ge r p).natAbs ≤ M
  ex : ∃ r ∈ rows, (ge r p).natAbs = M
  m1 : 1 ≤ M
  sz : ∃ N, (∀ r ∈ rows, Sz r N) ∧ N * M ≤ P
section
variable {n p : Nat} {rows rs : List Vec} {l : Vec}
theorem srt_mem (hs : srt p (nzR p rows) = l :: rs) : (l ∈ rows ∧ ge l p ≠ 0) ∧ (∀ r ∈ rs, r ∈ rows ∧ ge r p ≠ 0 ∧ (ge l p).natAbs ≤ (ge r p).natAbs) ∧ ∀ r ∈ rows, ge r p ≠ 0 → r = l ∨ r ∈ rs := by
  have pm : ∀ r, r ∈ nzR p rows ↔ r = l ∨ r ∈ rs := fun r => by
    have := (srt_perm p (nzR p rows)).mem_iff (a := r)
    rw [hs, List.mem_cons] at this
    exact this.symm
  have f : ∀ r, r ∈ nzR p rows ↔ r ∈ rows ∧ ge r p ≠ 0 := fun r => by unfold nzR; rw [List.mem_filter]; simp
  refine ⟨(f l).mp ((pm l).mpr (.inl rfl)), fun r hr => ?_, fun r h1 h2 => (pm r).mp ((f r).mpr ⟨h1, h2⟩)⟩
  obtain ⟨a, b⟩ := (f r).mp ((pm r).mpr (.inr hr))
  exact ⟨a, b, srt_head hs r hr⟩
theorem tnew_mem {r : Vec} : r ∈ tnew p rows l rs ↔ (r ∈ rows ∧ ge r p = 0) ∨ (∃ r0 ∈ rs, redV p l r0 = r) ∨ r = l := by
  unfold tnew zR
  simp only [List.mem_append, List.mem_map, List.mem_singleton, List.mem_filter, decide_eq_true_eq]
  exact or_assoc
/-- a turn, whatever the signs -/
theorem turn_any {M N : Nat} (ll : Len n rows) (mx : ∀ r ∈ rows, (ge r p).natAbs ≤ M) (sz : ∀ r ∈ rows, Sz r N) (hs : srt p (nzR p rows) = l :: rs) : TS n p (ge l p).natAbs (3 * (N * M)) (tnew p rows l rs) ∧ ∀ r ∈ rs, ((ge r p).fdiv (ge l p)).natAbs ≤ 2 * M := by
  obtain ⟨⟨lm, lz⟩, rm, _⟩ := srt_mem hs
  have lM := mx l lm
  have rem : ∀ r0 ∈ rs, ge (redV p l r0) p = ge r0 p - (ge r0 p).fdiv (ge l p) * ge l p := fun r0 h0 => by unfold redV; rw [ge_less (by rw [ll _ (rm r0 h0).1, ll _ lm])]
  have q1 : ∀ r0 ∈ rs, ((ge r0 p).fdiv (ge l p)).natAbs * (ge l p).natAbs ≤ M + (ge l p).natAbs := fun r0 h0 => by
    obtain ⟨h1, _, _⟩ := natAbs_fmod_lt (a := ge r0 p) lz
    have h2 := mx r0 (rm r0 h0).1
    rw [← Int.natAbs_mul]
    omega
  have q2 : ∀ r0 ∈ rs, ((ge r0 p).fdiv (ge l p)).natAbs ≤ (M + (ge l p).natAbs) / (ge l p).natAbs := fun r0 h0 => (Nat.le_div_iff_mul_le (by omega)).mpr (q1 r0 h0)
  refine ⟨⟨(turn_keep ll hs).ll, ?_, fun r hr => ?_, ⟨l, tnew_mem.mpr (.inr (.inr rfl)), rfl⟩, by omega, ⟨N + (M + (ge l p).natAbs) / (ge l p).natAbs * N, fun r hr => ?_, ?_⟩⟩, fun r hr => ?_⟩
  · by_cases w : 0 ≤ ge l p
    · left
      intro r hr
      rcases tnew_mem.mp hr with ⟨_, z⟩ | ⟨r0, h0, rfl⟩ | rfl
      · omega
      · rw [rem r0 h0]; exact (natAbs_fmod_lt lz).2.1 (by omega)
      · exact w
    · right
      intro r hr
      rcases tnew_mem.mp hr with ⟨_, z⟩ | ⟨r0, h0, rfl⟩ | rfl
      · omega
      · rw [rem r0 h0]; exact (natAbs_fmod_lt lz).2.2 (by omega)
      · omega
  · rcases tnew_mem.mp hr with ⟨_, z⟩ | ⟨r0, h0, rfl⟩ | rfl
    · rw [z]; simp
    · rw [rem r0 h0]; exact Nat.le_of_lt (natAbs_fmod_lt lz).1
    · exact Nat.le_refl _
  · rcases tnew_mem.mp hr with ⟨h0, _⟩ | ⟨r0, h0, rfl⟩ | rfl
    · exact (sz r h0).mono (by omega)
    · unfold redV
      refine (sz_less (by rw [ll _ (rm r0 h0).1, ll _ lm]) (sz r0 (rm r0 h0).1) (sz l lm)).mono ?_
      have := Nat.mul_le_mul_right N (q2 r0 h0)
      omega
    · exact (sz _ lm).mono (by omega)
  · have d := Nat.div_mul_le_self (M + (ge l p).natAbs) (ge l p).natAbs
    rw [Nat.add_mul]
    have e : (M + (ge l p).natAbs) / (ge l p).natAbs * N * (ge l p).natAbs = N * ((M + (ge l p).natAbs) / (ge l p).natAbs * (ge l p).natAbs) := by rw [Nat.mul_comm _ N, Nat.mul_assoc]
    rw [e]
    have m1 := Nat.mul_le_mul_left N (Nat.le_trans d (show M + (ge l p).natAbs ≤ M + M by omega))
    have m2 := Nat.mul_le_mul_left N lM
    rw [Nat.mul_add] at m1
    omega
  · refine Nat.le_trans (q2 r hr) ?_
    refine Nat.div_le_of_le_mul ?_
    have := Nat.le_mul_of_pos_right M (show 0 < (ge l p).natAbs by omega)
    have e : (ge l p).natAbs * (2 * M) = M * (ge l p).natAbs + M * (ge l p).natAbs := by rw [Nat.mul_comm, Nat.mul_assoc, Nat.two_mul]
    omega
/-- a turn, the signs alike -/
theorem turn_same {M P : Nat} (T : TS n p M P rows) (hs : srt p (nzR p rows) = l :: rs) : TS n p (ge l p).natAbs (2 * P) (tnew p rows l rs) ∧ (∀ r ∈ rs, ((ge r p).fdiv (ge l p)).natAbs ≤ M) ∧ ∀ r ∈ rs, (ge (redV p l r) p).natAbs = (ge r p).natAbs % (ge l p).natAbs := by
  obtain ⟨ll, sg, mx, ex, m1, N, sz, hN⟩ := T
  obtain ⟨⟨lm, lz⟩, rm, _⟩ := srt_mem hs
  have lM := mx l lm
  have rem : ∀ r0 ∈ rs, ge (redV p l r0) p = ge r0 p - (ge r0 p).fdiv (ge l p) * ge l p := fun r0 h0 => by unfold redV; rw [ge_less (by rw [ll _ (rm r0 h0).1, ll _ lm])]
  have sf : ∀ r0 ∈ rs, _ := fun r0 h0 => same_fdiv (a := ge r0 p) (b := ge l p) lz (by
    rcases sg with sg | sg
    · exact .inl ⟨sg _ (rm r0 h0).1, sg _ lm⟩
    · exact .inr ⟨sg _ (rm r0 h0).1, sg _ lm⟩)
  have q2 : ∀ r0 ∈ rs, ((ge r0 p).fdiv (ge l p)).natAbs ≤ M / (ge l p).natAbs := fun r0 h0 => by
    rw [(sf r0 h0).1]; exact Nat.div_le_div_right (mx _ (rm r0 h0).1)
  have lp : 0 < (ge l p).natAbs := by omega
  refine ⟨⟨(turn_keep ll hs).ll, ?_, fun r hr => ?_, ⟨l, tnew_mem.mpr (.inr (.inr rfl)), rfl⟩, lp, ⟨N + M / (ge l p).natAbs * N, fun r hr => ?_, ?_⟩⟩, fun r hr => Nat.le_trans (q2 r hr) (Nat.div_le_self _ _), fun r hr => by rw [rem r hr]; exact (sf r hr).2.1⟩
  · rcases sg with sg | sg
    · left
      intro r hr
      rcases tnew_mem.mp hr with ⟨_, z⟩ | ⟨r0, h0, rfl⟩ | rfl
      · omega
      · rw [rem r0 h0]; exact (sf r0 h0).2.2.1 (sg _ lm)
      · exact sg _ lm
    · right
      intro r hr
      rcases tnew_mem.mp hr with ⟨_, z⟩ | ⟨r0, h0, rfl⟩ | rfl
      · omega
      · rw [rem r0 h0]; exact (sf r0 h0).2.2.2 (sg _ lm)
      · exact sg _ lm
  · rcases tnew_mem.mp hr with ⟨_, z⟩ | ⟨r0, h0, rfl⟩ | rfl
    · rw [z]; simp
    · rw [rem r0 h0, (sf r0 h0).2.1]; exact Nat.le_of_lt (Nat.mod_lt _ lp)
    · exact Nat.le_refl _
  · rcases tnew_mem.mp hr with ⟨h0, _⟩ | ⟨r0, h0, rfl⟩ | rfl
    · exact (sz r h0).mono (by omega)
    · unfold redV
      refine (sz_less (by rw [ll _ (rm r0 h0).1, ll _ lm]) (sz r0 (rm r0 h0).1) (sz l lm)).mono ?_
      have := Nat.mul_le_mul_right N (q2 r0 h0)
      omega
    · exact (sz _ lm).mono (by omega)
  · have d := Nat.div_mul_le_self M (ge l p).natAbs
    rw [Nat.add_mul]
    have e : M / (ge l p).natAbs * N * (ge l p).natAbs = N * (M / (ge l p).natAbs * (ge l p).natAbs) := by rw [Nat.mul_comm _ N, Nat.mul_assoc]
    rw [e]
    have m1 := Nat.mul_le_mul_left N d
    have m2 := Nat.mul_le_mul_left N lM
    omega
end
end K03

namespace K03
open L2 PySem PySem.Spec PyProof.Rows DL
open HN
section
variable {n p : Nat}
theorem nz_two {rows : List Vec} (h : ¬ (nzR p rows).length < 2) : ∃ l rs, srt p (nzR p rows) = l :: rs ∧ rs ≠ [] := by
  have e := (srt_perm p (nzR p rows)).length_eq
  cases q : srt p (nzR p rows) with
  | nil => rw [q] at e; simp at e; omega
  | cons l rs =>
    refine ⟨l, rs, rfl, fun z => ?_⟩
    subst z
    rw [q] at e; simp at e; omega
theorem pow_up {a b : Nat} (h : a ≤ 2 ^ b) : 2 * a ≤ 2 ^ (b + 1) := by rw [Nat.pow_succ]; omega
/-- signs alike: 2 k turns where all are less than 2 ^ k -/
theorem tg_ex : ∀ (k M P B : Nat) (rows : List Vec), TS n p M P rows → M < 2 ^ k → k ≤ 8902 → P ≤ 2 ^ B → B + 2 * k ≤ 500000 → rows.length ≤ 1000 → ∃ f out, f ≤ 2 * k ∧ TG n p f rows out ∧ ∀ r ∈ out, Sz r (2 ^ (B + 2 * k))
  | 0, M, P, B, rows, T, hM, _, _, _, _ => by have := T.m1; simp at hM; omega
  | k + 1, M, P, B, rows, T, hM, hk, hP, hB, hl => by
    have szP : ∀ {M' P' B' : Nat} {rows' : List Vec}, TS n p M' P' rows' → P' ≤ 2 ^ B' → ∀ r ∈ rows', Sz r (2 ^ B') := fun {M' P' B' rows'} T' h r hr => by
      obtain ⟨N, s, b⟩ := T'.sz
      have := Nat.le_mul_of_pos_right N (show 0 < M' from T'.m1)
      exact (s r hr).mono (by omega)
    by_cases z : (nzR p rows).length < 2
    · exact ⟨0, rows, by omega, .done T.ll z, fun r hr => (szP T hP r hr).mono (pow_le (by omega))⟩
    · obtain ⟨l, rs, hs, hrs⟩ := nz_two z
      obtain ⟨T1, q1, q2⟩ := turn_same T hs
      obtain ⟨⟨lm, lz⟩, rm, rall⟩ := srt_mem hs
      have lM := T.mx l lm
      have kk := turn_keep T.ll hs
      have hk8 : M ≤ 2 ^ (k + 1) := by omega
      have guard : ∀ {f out}, TG n p f (tnew p rows l rs) out → TG n p (f + 1) rows out := fun t => by
        refine .step T.ll hl hs hrs (decide_eq_true ⟨lz, ?_⟩) (fun r hr x hx => ?_) t
        · have := log_of (Nat.le_trans lM hk8); omega
        · exact mulOk_sz (Nat.le_trans (q1 r hr) hk8) ((szP T hP l lm).mem hx) (by omega)
      by_cases h1 : (ge l p).natAbs < 2 ^ k
      · obtain ⟨f, out, f1, f2, f3⟩ := tg_ex k _ _ (B + 1) _ T1 h1 (by omega) (pow_up hP) (by omega) (by rw [kk.ct]; exact hl)
        exact ⟨f + 1, out, by omega, guard f2, fun r hr => (f3 r hr).mono (pow_le (by omega))⟩
      · by_cases z1 : (nzR p (tnew p rows l rs)).length < 2
        · exact ⟨1, _, by omega, guard (.done kk.ll z1), fun r hr => (szP T1 (pow_up hP) r hr).mono (pow_le (by omega))⟩
        · obtain ⟨l1, rs1, hs1, hrs1⟩ := nz_two z1
          obtain ⟨T2, q3, q4⟩ := turn_same T1 hs1
          obtain ⟨⟨lm1, lz1⟩, rm1, rall1⟩ := srt_mem hs1
          have kk1 := turn_keep T1.ll hs1
          have small : (ge l1 p).natAbs < 2 ^ k := by
            obtain ⟨L, hL, eL⟩ := T.ex
            have m1 := T.m1
            rw [Nat.pow_succ] at hM
            by_cases w : M = (ge l p).natAbs
            · -- all reduced are 0
              exfalso
              have all0 : ∀ r ∈ tnew p rows l rs, ge r p ≠ 0 → r = l := fun r hr hz => by
                rcases tnew_mem.mp hr with ⟨_, z⟩ | ⟨r0, h0, rfl⟩ | rfl
                · exact absurd z hz
                · have e := q2 r0 h0
                  have e1 := T.mx r0 (rm r0 h0).1
                  have e2 := (rm r0 h0).2.2
                  have e3 : (ge r0 p).natAbs = (ge l p).natAbs := by omega
                  rw [e3, Nat.mod_self] at e
                  omega
                · rfl
              have nd : (nzR p (tnew p rows l rs)) = [l] := by
                unfold nzR tnew
                rw [List.filter_append, List.filter_append]
                have a : (zR p rows).filter (fun r => decide (ge r p ≠ 0)) = [] := by
                  rw [List.filter_eq_nil_iff]
                  intro r hr
                  unfold zR at hr
                  have := (List.mem_filter.mp hr).2
                  simpa using this
                have b : (rs.map (redV p l)).filter (fun r => decide (ge r p ≠ 0)) = [] := by
                  rw [List.filter_eq_nil_iff]
                  intro r hr
                  obtain ⟨r0, h0, rfl⟩ := List.mem_map.mp hr
                  have e := q2 r0 h0
                  have e1 := T.mx r0 (rm r0 h0).1
                  have e2 := (rm r0 h0).2.2
                  have e3 : (ge r0 p).natAbs = (ge l p).natAbs := by omega
                  rw [e3, Nat.mod_self] at e
                  simp; omega
                rw [a, b]
                simp [lz]
              rw [nd] at z1
              simp at z1
            · have Lz : ge L p ≠ 0 := by omega
              have Lrs : L ∈ rs := (rall L hL Lz).resolve_left fun z => by rw [z] at eL; omega
              have e := q2 L Lrs
              rw [eL] at e
              have e2 : M % (ge l p).natAbs = M - (ge l p).natAbs := by
                rw [Nat.mod_eq_sub_mod (by omega), Nat.mod_eq_of_lt (by omega)]
              have hm : redV p l L ∈ tnew p rows l rs := tnew_mem.mpr (.inr (.inl ⟨L, Lrs, rfl⟩))
              have le : (ge l1 p).natAbs ≤ (ge (redV p l L) p).natAbs := by
                rcases rall1 _ hm (by omega) with q | q
                · rw [← q]; exact Nat.le_refl _
                · exact (rm1 _ q).2.2
              omega
          have guard1 : ∀ {f out}, TG n p f (tnew p (tnew p rows l rs) l1 rs1) out → TG n p (f + 1) (tnew p rows l rs) out := fun t => by
            refine .step T1.ll (by rw [kk.ct]; exact hl) hs1 hrs1 (decide_eq_true ⟨lz1, ?_⟩) (fun r hr x hx => ?_) t
            · have := log_of (Nat.le_of_lt small); omega
            · exact mulOk_sz (Nat.le_trans (q3 r hr) (Nat.le_trans lM hk8)) ((szP T1 (pow_up hP) l1 lm1).mem hx) (by omega)
          obtain ⟨f, out, f1, f2, f3⟩ := tg_ex k _ _ (B + 2) _ T2 small (by omega) (pow_up (pow_up hP)) (by omega) (by rw [kk1.ct, kk.ct]; exact hl)
          exact ⟨f + 2, out, by omega, guard (guard1 f2), fun r hr => (f3 r hr).mono (pow_le (by omega))⟩
theorem col_ex {E : Nat} {rows : List Vec} (ll : Len n rows) (sz : ∀ r ∈ rows, Sz r (2 ^ E)) (hE : E ≤ 8900) (hl : rows.length ≤ 1000) : ∃ f out, f ≤ 2 * E + 3 ∧ TG n p f rows out ∧ ∀ r ∈ out, Sz r (2 ^ (4 * E + 4)) := by
  by_cases z : (nzR p rows).length < 2
  · exact ⟨0, rows, by omega, .done ll z, fun r hr => (sz r hr).mono (pow_le (by omega))⟩
  · obtain ⟨l, rs, hs, hrs⟩ := nz_two z
    obtain ⟨T1, q1⟩ := turn_any ll (fun r hr => sz r hr p) sz hs
    obtain ⟨⟨lm, lz⟩, rm, rall⟩ := srt_mem hs
    have kk := turn_keep ll hs
    have pe : 3 * (2 ^ E * 2 ^ E) ≤ 2 ^ (2 * E + 2) := by
      have : 2 ^ (2 * E + 2) = 4 * (2 ^ E * 2 ^ E) := by rw [show 2 * E + 2 = E + E + 2 by omega, Nat.pow_add, Nat.pow_add, Nat.mul_comm]
      rw [this]
      omega
    have lt : (ge l p).natAbs < 2 ^ (E + 1) := by
      have := sz l lm p
      have h := Nat.pow_pos (a := 2) (n := E) (by decide)
      rw [Nat.pow_succ]; omega
    obtain ⟨f, out, f1, f2, f3⟩ := tg_ex (E + 1) _ _ (2 * E + 2) _ T1 lt (by omega) pe (by omega) (by rw [kk.ct]; exact hl)
    refine ⟨f + 1, out, by omega, .step ll hl hs hrs (divOk_sz lz (sz l lm p) hE) (fun r hr x hx => ?_) f2, fun r hr => (f3 r hr).mono (pow_le (by omega))⟩
    have e : ((ge r p).fdiv (ge l p)).natAbs ≤ 2 ^ (E + 1) := by
      have := q1 r hr
      rw [Nat.pow_succ]; omega
    exact mulOk_sz e ((sz l lm).mem hx) (by omega)
end
end K03

namespace K03
open L2 PySem PySem.Spec PyProof.Rows DL
open HN
inductive RG (n : Nat) : SS → List Nat → List Vec → Prop
  | nil {s : SS} (hl : s.1.length ≤ 1000) : RG n s [] s.1
  | no {s : SS} {p f : Nat} {ps : List Nat} {out res : List Vec} (hp : p < n) (f6 : f < 999999) (t : TG n p f s.2 out) (h : nzR p out = []) (hl : s.1.length ≤ 1000) (ho : out.length ≤ 1000) (r : RG n (s.1, out) ps res) : RG n s (p :: ps) res
  | yes {s : SS} {p f : Nat} {ps : List Nat} {out res : List Vec} {g : Vec} (hp : p < n) (f6 : f < 999999) (t : TG n p f s.2 out) (h : nzR p out = [g]) (hl : s.1.length ≤ 1000) (ho : out.length ≤ 1000) (hd : divOk (ge (posV p g) p) = true)
      (hm : ∀ one ∈ s.1, one.length = n ∧ ∀ x ∈ posV p g, mulOk ((ge one p).fdiv (ge (posV p g) p)) x = true) (r : RG n (s.1.map (redV p (posV p g)) ++ [posV p g], zR p out) ps res) : RG n s (p :: ps) res
structure LI (n E D : Nat) (vs : List Vec) (p : Nat) (s : SS) : Prop where
  ll : ∀ r ∈ s.2, r.length = n ∧ (∀ k, k < p → ge r k = 0) ∧ Sz r (2 ^ E)
  st : Stairs n s.1
  lt : ∀ t ∈ s.1, ∀ a, Step n t a → a < p
  sz : ∀ t ∈ s.1, Sz t (2 ^ D)
  eq : LatEq n (s.1 ++ s.2) vs
theorem Eseq_ge {m E : Nat} : ∀ {k : Nat}, k < m → E ≤ Eseq m E k
  | 0, _ => Nat.le_refl _
  | k + 1, h => by
    have ih := Eseq_ge (m := m) (E := E) (k := k) (by omega)
    rw [Eseq]
    have := Nat.le_mul_of_pos_left (Eseq m E k + 3) (show 0 < m - k by omega)
    omega
theorem si_from {n m E : Nat} {vs : List Vec} (hl : Len n vs) : ∀ (k p : Nat) (s : SS), p + k = n → SI n m E vs p s → SI n m E vs n ((List.range' p k).foldl stepS s)
  | 0, p, s, hp, h => by
    obtain rfl : p = n := by omega
    exact h
  | k + 1, p, s, hp, h => by
    rw [List.range'_succ, List.foldl_cons]
    exact si_from hl k (p + 1) _ (by omega) (h.step (by omega) hl)
theorem rank_up {n E D p : Nat} {vs : List Vec} {s : SS} (hl : Len n vs) (hp : p < n) (h : LI n E D vs p s) (hz : ∃ r ∈ s.2, ge r p ≠ 0) : s.1.length + 1 ≤ (stairsV vs n).length := by
  obtain ⟨r0, hr0, z0⟩ := hz
  have l2 : 0 < s.2.length := List.length_pos_of_mem hr0
  have eg := Eseq_ge (m := s.2.length + s.1.length) (E := E + D) (k := s.1.length) (by omega)
  have h0 : SI n (s.2.length + s.1.length) (E + D) vs p s := by
    refine ⟨fun r hr => ?_, rfl, h.st, h.lt, fun t ht => ?_, h.eq⟩
    · obtain ⟨a, b, c⟩ := h.ll r hr
      exact ⟨a, b, c.mono (pow_le (by omega))⟩
    · refine (h.sz t ht).mono (pow_le ?_)
      have : 0 < s.1.length := List.length_pos_of_mem ht
      obtain ⟨j, hj⟩ : ∃ j, s.1.length = j + 1 := ⟨s.1.length - 1, by omega⟩
      rw [hj] at eg ⊢
      rw [Dseq]
      omega
  have h1 := h0.step hp hl
  have l1 : (stepS s p).1.length = s.1.length + 1 := by
    unfold stepS
    cases q : (clearV p s.2).1 with
    | none =>
      have q' : (s.2.foldl (stepCl p) (none, [])).1 = none := by
        unfold clearV at q
        simpa using q
      exact absurd ((clear_none q').2 r0 hr0) z0
    | some g => simp
  have fin := si_from hl (n - (p + 1)) (p + 1) _ (by omega) h1
  have le := foldS_len (ps := List.range' (p + 1) (n - (p + 1))) (s := stepS s p)
  generalize (List.range' (p + 1) (n - (p + 1))).foldl stepS (stepS s p) = T at fin le
  have lL : Len n T.2 := fun r hr => (fin.ll r hr).1
  have lS : Len n (T.1 ++ T.2) := fun g hg => by
    rcases List.mem_append.mp hg with q | q
    · exact fin.st.len g q
    · exact lL g q
  have eq : LatEq n T.1 vs := by
    refine LatEq.trans (latEq_of fin.st.len lS (fun g hg => .gen lS (List.mem_append_left _ hg)) fun g hg => ?_) fin.eq
    rcases List.mem_append.mp hg with q | q
    · exact .gen fin.st.len q
    · have : g = zeroV n := ext0 (lL g q) fun k hk => (fin.ll g q).2.1 k hk
      rw [this]; exact .zero
  obtain ⟨o1, o2, _⟩ := stairs_ok hl
  have := fin.st.uniq o1 (eq.trans o2.symm)
  rw [← this]
  omega
def Fq (E : Nat) : Nat → Nat
  | 0 => E
  | k + 1 => 4 * Fq E k + 4
def Gq (E : Nat) : Nat → Nat
  | 0 => 0
  | k + 1 => Gq E k + Fq E (k + 1) + 2
theorem nz_one {p : Nat} {out : List Vec} (h : (nzR p out).length < 2) : nzR p out = [] ∨ ∃ g, nzR p out = [g] := by
  cases q : nzR p out with
  | nil => exact .inl rfl
  | cons g t =>
    cases t with
    | nil => exact .inr ⟨g, rfl⟩
    | cons _ _ => rw [q] at h; simp at h; omega
theorem nz_mem {p : Nat} {out : List Vec} {r : Vec} : r ∈ nzR p out ↔ r ∈ out ∧ ge r p ≠ 0 := by unfold nzR; rw [List.mem_filter]; simp
theorem rg_ex {n K E : Nat} {vs : List Vec} (hl : Len n vs) (hK : (stairsV vs n).length ≤ K) (hE : ∀ k, k < K → Fq E k ≤ 8900) (hG : ∀ k, k ≤ K → Gq E k ≤ 400000) (hK2 : K ≤ 6) : ∀ (k p : Nat) (s : SS), p + k = n → LI n (Fq E s.1.length) (Gq E s.1.length) vs p s → s.1.length ≤ K → s.1.length + s.2.length ≤ 40 →
    ∃ res, RG n s (List.range' p k) res ∧ Stairs n res ∧ LatEq n res vs
  | 0, p, s, hp, h, hk, hc => by
    refine ⟨s.1, .nil (by omega), h.st, ?_⟩
    have lL : Len n s.2 := fun r hr => (h.ll r hr).1
    have lS : Len n (s.1 ++ s.2) := fun g hg => by
      rcases List.mem_append.mp hg with q | q
      · exact h.st.len g q
      · exact lL g q
    refine LatEq.trans (latEq_of h.st.len lS (fun g hg => .gen lS (List.mem_append_left _ hg)) fun g hg => ?_) h.eq
    rcases List.mem_append.mp hg with q | q
    · exact .gen h.st.len q
    · have : g = zeroV n := ext0 (lL g q) fun j hj => (h.ll g q).2.1 j (by omega)
      rw [this]; exact .zero
  | k + 1, p, s, hp, h, hk, hc => by
    have hp' : p < n := by omega
    have lL : Len n s.2 := fun r hr => (h.ll r hr).1
    rw [List.range'_succ]
    by_cases hz : ∃ r ∈ s.2, ge r p ≠ 0
    · have up := rank_up hl hp' h hz
      have e1 := hE s.1.length (by omega)
      obtain ⟨f, out, f1, t, so⟩ := col_ex (p := p) lL (fun r hr => (h.ll r hr).2.2) e1 (by omega)
      obtain ⟨tk, n2⟩ := t.keep
      have lO := tk.ll
      have ct := tk.ct
      rcases nz_one n2 with no | ⟨g, hg⟩
      · -- then all were 0
        exfalso
        obtain ⟨r0, hr0, z0⟩ := hz
        have zo : ∀ r ∈ out, ge r p = 0 := fun r hr => Classical.byContradiction fun q => by
          have := nz_mem.mpr ⟨hr, q⟩; rw [no] at this; simp at this
        exact z0 (Lat.zeroAt lO zo (tk.back out lO (fun r hr => .gen lO hr) r0 hr0))
      · have gm := nz_mem.mp (show g ∈ nzR p out by rw [hg]; simp)
        obtain ⟨go, gz⟩ := gm
        have gl' := lO g go
        obtain ⟨pv1, pv2⟩ := ge_posV gz
        have pl : (posV p g).length = n := posV_len.trans gl'
        have zout : ∀ r ∈ out, ∀ j, j < p → ge r j = 0 := fun r hr j hj => tk.keep j (fun r hr => (h.ll r hr).2.1 j hj) r hr
        have stp : Step n (posV p g) p := by
          refine ⟨pl, hp', fun j hj => ?_, pv1⟩
          unfold posV
          split
          · rw [ge_neg, zout g go j hj]; rfl
          · exact zout g go j hj
        have f0 : f < 999999 := by omega
        -- the head's size before the turns
        have gp : (ge (posV p g) p).natAbs ≤ 2 ^ (4 * Fq E s.1.length + 4) := by rw [pv2]; exact so g go p
        have e2 : Fq E (s.1.length + 1) = 4 * Fq E s.1.length + 4 := rfl
        have e3 : Gq E (s.1.length + 1) = Gq E s.1.length + Fq E (s.1.length + 1) + 2 := rfl
        have g1 := hG (s.1.length + 1) (by omega)
        -- divisors: the head divides what the rows have, so it is no greater
        have hd : (ge g p).natAbs ≤ 2 ^ Fq E s.1.length := by
          -- r0's entry is a multiple of the head's
          obtain ⟨r0, hr0, z0⟩ := hz
          have mult : ∀ w, Lat n out w → ∃ c : Int, ge w p = c * ge g p := fun w hw => by
            induction hw with
            | zero => exact ⟨0, by rw [ge_zero]; simp⟩
            | @step w' g' d q hg' ih =>
              obtain ⟨c, hc⟩ := ih
              have l1 := q.len lO
              rw [ge_less (by rw [l1, lO g' hg']), hc]
              by_cases z : ge g' p = 0
              · exact ⟨c, by rw [z]; simp⟩
              · have : g' ∈ nzR p out := nz_mem.mpr ⟨hg', z⟩
                rw [hg] at this
                simp at this
                subst this
                exact ⟨c - d, by rw [Int.sub_mul]⟩
          obtain ⟨c, hc'⟩ := mult r0 (tk.back out lO (fun r hr => .gen lO hr) r0 hr0)
          have b := (h.ll r0 hr0).2.2 p
          rw [hc', Int.natAbs_mul] at b
          have c0 : 0 < c.natAbs := by
            by_cases q : c = 0
            · rw [q] at hc'; simp at hc'; exact absurd hc' z0
            · omega
          exact Nat.le_trans (Nat.le_mul_of_pos_left _ c0) b
        have lS' : Len n (s.1 ++ s.2) := fun w hw => by
          rcases List.mem_append.mp hw with q | q
          · exact h.st.len w q
          · exact lL w q
        have rlen : ∀ one ∈ s.1, (redV p (posV p g) one).length = n := fun one ho => by
          unfold redV; rw [len_less (by rw [h.st.len _ ho, pl]), h.st.len _ ho]
        have zR_len : (zR p out).length + 1 = out.length := by
          have := len_split (p := p) out; rw [hg] at this; simpa using this
        have nl : (s.1.map (redV p (posV p g)) ++ [posV p g]).length = s.1.length + 1 := by simp
        have LI' : LI n (Fq E (s.1.length + 1)) (Gq E (s.1.length + 1)) vs (p + 1) (s.1.map (redV p (posV p g)) ++ [posV p g], zR p out) := by
          have zm : ∀ r, r ∈ zR p out ↔ r ∈ out ∧ ge r p = 0 := fun r => by unfold zR; rw [List.mem_filter]; simp
          have lZ : Len n (zR p out) := fun r hr => lO r ((zm r).mp hr).1
          have lN : Len n (s.1.map (redV p (posV p g)) ++ [posV p g] ++ zR p out) := fun w hw => by
            rcases List.mem_append.mp hw with q | q
            · rcases List.mem_append.mp q with q | q
              · obtain ⟨o, ho, rfl⟩ := List.mem_map.mp q; exact rlen o ho
              · simp at q; rw [q]; exact pl
            · exact lZ w q
          have inPos : ∀ G, Len n G → Lat n G g → Lat n G (posV p g) := fun G hG q => by
            unfold posV; split; exact q.neg hG; exact q
          have outPos : ∀ G, Len n G → Lat n G (posV p g) → Lat n G g := fun G hG q => by
            unfold posV at q
            split at q
            · have := q.neg hG; rwa [neg_neg'] at this
            · exact q
          refine ⟨fun r hr => ?_, snoc stp h.st h.lt, fun t ht a ha => ?_, fun t ht => ?_, ?_⟩
          · obtain ⟨a, b⟩ := (zm r).mp hr
            refine ⟨lO r a, fun j hj => ?_, (so r a).mono (pow_le (by rw [e2]; exact Nat.le_refl _))⟩
            by_cases w : j < p
            · exact zout r a j w
            · have : j = p := by omega
              rw [this]; exact b
          · rcases List.mem_append.mp ht with q | q
            · obtain ⟨o, ho, rfl⟩ := List.mem_map.mp q
              obtain ⟨b, hb⟩ := h.st.steps o ho
              have lb := h.lt o ho b hb
              have : Step n (redV p (posV p g) o) b := by
                have low : ∀ j, j < p → ge (redV p (posV p g) o) j = ge o j := fun j hj => by
                  unfold redV; rw [ge_less (by rw [h.st.len _ ho, pl]), stp.z j hj]; simp
                exact ⟨rlen o ho, by omega, fun j hj => by rw [low j (by omega)]; exact hb.z j hj, by rw [low b lb]; exact hb.pos⟩
              have := ha.uniq this
              omega
            · simp at q; subst q; have := ha.uniq stp; omega
          · rcases List.mem_append.mp ht with q | q
            · obtain ⟨o, ho, rfl⟩ := List.mem_map.mp q
              exact (sz_red (by rw [h.st.len _ ho, pl]) pv1 (h.sz o ho) (sz_posV (so g go))).mono (pow_le (by rw [e3, e2]; exact Nat.le_refl _))
            · simp at q; subst q; exact (sz_posV (so g go)).mono (pow_le (by rw [e3, e2]; omega))
          · refine LatEq.trans (latEq_of lN lS' (fun w hw => ?_) fun w hw => ?_) h.eq
            · have inO : ∀ r ∈ out, Lat n (s.1 ++ s.2) r := fun r hr => tk.into _ lS' (fun r hr => .gen lS' (List.mem_append_right _ hr)) r hr
              rcases List.mem_append.mp hw with q | q
              · rcases List.mem_append.mp q with q | q
                · obtain ⟨o, ho, rfl⟩ := List.mem_map.mp q
                  exact (Lat.gen lS' (List.mem_append_left _ ho)).comb lS' (inPos _ lS' (inO g go)) _
                · simp at q; subst q; exact inPos _ lS' (inO g go)
              · exact inO w ((zm w).mp q).1
            · have hP : Lat n (s.1.map (redV p (posV p g)) ++ [posV p g] ++ zR p out) (posV p g) := .gen lN (by simp)
              rcases List.mem_append.mp hw with q | q
              · have h1 : Lat n (s.1.map (redV p (posV p g)) ++ [posV p g] ++ zR p out) (redV p (posV p g) w) := .gen lN (List.mem_append_left _ (List.mem_append_left _ (List.mem_map.mpr ⟨w, q, rfl⟩)))
                have := h1.comb lN hP (-((ge w p).fdiv (ge (posV p g) p)))
                have e : lessV (redV p (posV p g) w) (-((ge w p).fdiv (ge (posV p g) p))) (posV p g) = w := by
                  have a1 := rlen w q
                  have a2 := h.st.len w q
                  refine ext (by rw [len_less (by omega), a1, a2]) fun j _ => ?_
                  rw [ge_less (by omega)]
                  unfold redV
                  rw [ge_less (by omega), Int.neg_mul]; omega
                rwa [e] at this
              · refine tk.back _ lN (fun r hr => ?_) w q
                by_cases z : ge r p = 0
                · exact .gen lN (List.mem_append_right _ ((zm r).mpr ⟨hr, z⟩))
                · have : r ∈ nzR p out := nz_mem.mpr ⟨hr, z⟩
                  rw [hg] at this
                  simp at this
                  subst this
                  exact outPos _ lN hP
        obtain ⟨res, r1, r2⟩ := rg_ex hl hK hE hG hK2 k (p + 1) (s.1.map (redV p (posV p g)) ++ [posV p g], zR p out) (by omega) (by dsimp only; rw [nl]; exact LI') (by dsimp only; rw [nl]; omega) (by dsimp only; rw [nl]; omega)
        refine ⟨res, .yes hp' f0 t hg (by omega) (by omega) (divOk_sz (by omega) (by rw [pv2]; exact hd) e1) (fun one ho => ⟨h.st.len _ ho, fun x hx => ?_⟩) r1, r2⟩
        have f1 := fdiv_abs (a := ge one p) pv1
        have f2 := h.sz one ho p
        have f3 : ((ge one p).fdiv (ge (posV p g) p)).natAbs ≤ 2 ^ (Gq E s.1.length + 1) := by
          rw [Nat.pow_succ]
          have := Nat.pow_pos (a := 2) (n := Gq E s.1.length) (by decide)
          omega
        exact mulOk_sz f3 ((sz_posV (so g go)).mem hx) (by omega)
    · have z : ∀ r ∈ s.2, ge r p = 0 := fun r hr => Classical.byContradiction fun q => hz ⟨r, hr, q⟩
      have no : nzR p s.2 = [] := by
        unfold nzR; rw [List.filter_eq_nil_iff]; intro r hr; simp [z r hr]
      have LI' : LI n (Fq E s.1.length) (Gq E s.1.length) vs (p + 1) (s.1, s.2) := by
        refine ⟨fun r hr => ?_, h.st, fun t ht a ha => by have := h.lt t ht a ha; omega, h.sz, h.eq⟩
        obtain ⟨a, b, c⟩ := h.ll r hr
        refine ⟨a, fun j hj => ?_, c⟩
        by_cases w : j < p
        · exact b j w
        · have : j = p := by omega
          rw [this]; exact z r hr
      obtain ⟨res, r1, r2⟩ := rg_ex hl hK hE hG hK2 k (p + 1) (s.1, s.2) (by omega) LI' hk hc
      exact ⟨res, .no hp' (by omega) (.done lL (by rw [no]; simp)) no (by omega) (by omega) r1, r2⟩
theorem rg_main {n E K : Nat} {vs : List Vec} (hl : Len n vs) (sz : ∀ v ∈ vs, Sz v (2 ^ E)) (hK : (stairsV vs n).length ≤ K) (hE : ∀ k, k < K → Fq E k ≤ 8900) (hG : ∀ k, k ≤ K → Gq E k ≤ 400000) (hK2 : K ≤ 6) (hc : vs.length ≤ 40) : RG n ([], vs) (List.range n) (stairsV vs n) := by
  obtain ⟨res, r1, r2, r3⟩ := rg_ex hl hK hE hG hK2 n 0 ([], vs) (by omega) ⟨fun r hr => ⟨hl r hr, fun k hk => by omega, sz r hr⟩, .nil, fun t ht => by simp at ht, fun t ht => by simp at ht, fun w => Iff.rfl⟩ (by simp) (by simpa using hc)
  obtain ⟨o1, o2, _⟩ := stairs_ok hl
  have := r2.uniq o1 (r3.trans o2.symm)
  rw [← this, List.range_eq_range']
  exact r1
end K03

namespace K03
open L2 PySem PySem.Spec PyProof.Rows DL
open HN
/-! ### the law's way to the stairs form, walked -/
theorem isIo_v {d : D} : isIo (some (some (.val d))) = false := (Eq.refl _).trans (Eq.refl _)
theorem isIo_n : isIo (some none) = false := (Eq.refl _).trans (Eq.refl _)
theorem isIo_f {c : Cell} : isIo (some (some (.own false c))) = false := (Eq.refl _).trans (Eq.refl _)
theorem isOwn_v {d : D} : isOwn (some (some (.val d))) = false := (Eq.refl _).trans (Eq.refl _)
theorem isOwn_n : isOwn (some none) = false := (Eq.refl _).trans (Eq.refl _)
theorem kAbs_int {i : Int} : kAbs [.int i] = some (.int (i.natAbs : Int)) := by
  show some (PyData.int (if i < 0 then -i else i)) = _
  congr 2
  split <;> omega
abbrev lv (r : Vec) : D := .list (r.map PyData.int)
def NI (x : Option SV) : Prop := isIo (some x) = false
theorem VS.ni {x : Option SV} (h : VS x) : NI x := h.io
def RSl (rows : List Vec) (x : Option SV) : Prop := x = some (.own false (.lst (rows.map lv))) ∨ x = some (.val (.list (rows.map lv)))
theorem RSl.ni {rows : List Vec} {x : Option SV} (h : RSl rows x) : NI x := by rcases h with rfl | rfl <;> rfl
abbrev EE (V n : D) (rs : Option SV) (fd : List Vec) (p : Nat) (j5 j6 sm ls rst j10 j11 j12 : Option SV) : DEnv :=
  [some (.val V), some (.val n), rs, some (.val (.list (fd.map lv))), some (.val (.int (p : Int))), j5, j6, sm, ls, rst, j10, j11, j12, none, none, none]
theorem fm_filterV (P : Vec → Bool) (f : Vec → D) (l : List Vec) : l.filterMap (fun k => if P k = true then some (f k) else none) = (l.filter P).map f := by
  induction l with
  | nil => rfl
  | cons a l ih =>
    rw [List.filterMap_cons, List.filter_cons]
    by_cases h : P a = true
    · simp [h, ih]
    · simp [h, ih]
section
variable {n p : Nat} {V N : D} {rows fd : List Vec} {rs j5 j6 sm ls rst j10 j11 j12 : Option SV}
theorem cNz (hp : p < n) (ll : Len n rows) (hl : rows.length ≤ 1000) (hr : RSl rows rs) (h6 : VS j6) : xComp (iSeq (xVar 2)) [6] (bName 6) (xt2 kNe (x2 kIx (xVar 6) (xVar 4)) (xC (.int 0))) (xVar 6) (EE V N rs fd p j5 j6 sm ls rst j10 j11 j12) = .ok (.lst ((nzR p rows).map lv)) (EE V N (some (.val (.list (rows.map lv)))) fd p j5 j6 sm ls rst j10 j11 j12) := by
  have o6 := h6.own
  rcases hr with rfl | rfl <;>
  · simp [-isOwn_some, o6]
    rw [compX_eq (g := fun r : Vec => if decide (ge r p ≠ 0) = true then some (lv r) else none) (fun r hr => by
      have l := ll r hr
      have g1 := gx (v := r) (p := p) (by omega)
      by_cases z : ge r p = 0
      · simp [g1, z, backD]
      · simp [g1, z, backD]) (by rw [sizeLine_eq]; omega), fm_filterV]
    rfl
theorem cZ (hp : p < n) (ll : Len n rows) (hl : rows.length ≤ 1000) (hr : RSl rows rs) (h6 : VS j6) : xComp (iSeq (xVar 2)) [6] (bName 6) (xt2 kEq (x2 kIx (xVar 6) (xVar 4)) (xC (.int 0))) (xVar 6) (EE V N rs fd p j5 j6 sm ls rst j10 j11 j12) = .ok (.lst ((zR p rows).map lv)) (EE V N (some (.val (.list (rows.map lv)))) fd p j5 j6 sm ls rst j10 j11 j12) := by
  have o6 := h6.own
  rcases hr with rfl | rfl <;>
  · simp [-isOwn_some, o6]
    rw [compX_eq (g := fun r : Vec => if decide (ge r p = 0) = true then some (lv r) else none) (fun r hr => by
      have l := ll r hr
      have g1 := gx (v := r) (p := p) (by omega)
      by_cases z : ge r p = 0
      · simp [g1, z, backD]
      · simp [g1, z, backD]) (by rw [sizeLine_eq]; omega), fm_filterV]
    rfl
theorem alike_enc (a b : Vec) : PySem.W.alike (encR p a) (encR p b) = true := by
  have := alike_ints a b
  simp [encR, PySem.W.alike, PySem.W.alikeAll, this]
theorem depth_enc (a : Vec) : (encR p a).depth ≤ 64 := by
  simp [encR, PyData.depth, PyData.depthAll, depth_ints]
theorem kSorted_enc (L : List Vec) : kSorted [.list (L.map (encR p))] = some ((srt p L).map (encR p)) := by
  have h : sortableB (L.map (encR p)) = true := by
    simp only [sortableB, Bool.and_eq_true, List.all_eq_true, Bool.or_eq_true, decide_eq_true_eq]
    refine ⟨⟨fun d hd e he => ?_, .inl fun d hd => ?_⟩, fun d hd => ?_⟩
    · obtain ⟨a, _, rfl⟩ := List.mem_map.mp hd
      obtain ⟨b, _, rfl⟩ := List.mem_map.mp he
      exact alike_enc a b
    · obtain ⟨a, _, rfl⟩ := List.mem_map.mp hd; rfl
    · obtain ⟨a, _, rfl⟩ := List.mem_map.mp hd; exact depth_enc a
  show (if sortableB (L.map (encR p)) = true then some ((L.map (encR p)).mergeSort fun a b => !PySem.W.dataLt b a) else none) = _
  rw [if_pos h]
  unfold srt
  rw [List.map_mergeSort (s := fun a b => !PySem.W.dataLt b a) (fun a _ b _ => by rw [PySem.W.dataLe_eq]; rfl)]
/-- the sorting -/
theorem sSort (hp : p < n) (ll : Len n rows) (hl : rows.length ≤ 1000) (h6 : VS j6) :
    gSet 7 (ofL (xCBL kSorted (aCons (ofL (xComp (iSeq (xVar 7)) [6] (bName 6) (tTrue) (xTup (aCons (xCB kAbs (aCons (x2 kIx (xVar 6) (xVar 4)) (aNil))) (aCons (xVar 6) (aNil)))))) (aNil)))) (EE V N rs fd p j5 j6 (some (.own false (.lst (rows.map lv)))) ls rst j10 j11 j12) = .nx (EE V N rs fd p j5 j6 (some (.val (.list ((srt p rows).map (encR p))))) ls rst j10 j11 j12) := by
  have o6 := h6.own
  simp [-isOwn_some, -isIo_some, o6, isIo_v, isIo_f]
  rw [compX_eq (g := fun r : Vec => some (encR p r)) (fun r hr => by
    have l := ll r hr
    have g1 := gx (v := r) (p := p) (by omega)
    simp [g1, encR, backD, kAbs_int]) (by rw [sizeLine_eq]; omega), List.filterMap_eq_map']
  simp [-isOwn_some, -isIo_some, isIo_f, isIo_v, kSorted_enc]
end
end K03

namespace K03
open L2 PySem PySem.Spec PyProof.Rows DL
open HN
def cutR (o : Option D) (lo hi : Option Int) (ρ3 : DEnv) : Res Cell := match o with
  | some (.list ds) => .ok (.lst (cutD ds lo hi)) ρ3
  | _ => .bad
@[simp] theorem cutR_l {ds : List D} {lo hi : Option Int} {ρ : DEnv} : cutR (some (.list ds)) lo hi ρ = .ok (.lst (cutD ds lo hi)) ρ := (Eq.refl _).trans (Eq.refl _)
@[simp] theorem xCutL_ap {fa : DX} {fl fh : DEnv → Res (Option Int)} {ρ : DEnv} : xCutL fa fl fh ρ = bindR (fa ρ) fun a ρ1 => bindR (fl ρ1) fun lo ρ2 => bindR (fh ρ2) fun hi ρ3 => cutR (deref ρ3 a) lo hi ρ3 := by
  unfold xCutL cutR; rfl
section
variable {n p : Nat} {V : D} {rows fd rs : List Vec} {l : Vec} {rv j5 j6 sm ls rst j10 j11 j12 : Option SV}
def fB : DSt := gSeq (gSet 11 (x2 kDiv (x2 kIx (xVar 6) (xVar 4)) (x2 kIx (xVar 8) (xVar 4)))) (gExpr (xM 9 mAppend (aCons (ofL (xComp (iRange1 (aCons (xVar 1) (aNil))) [14] (bName 14) (tTrue) (x2 kSub (x2 kIx (xVar 6) (xVar 14)) (x2 kMul (xVar 11) (x2 kIx (xVar 8) (xVar 14)))))) (aNil))))
theorem red_range {r l : Vec} (hr : r.length = n) (hl : l.length = n) : (List.range n).map (fun k => ge r k - (ge r p).fdiv (ge l p) * ge l k) = redV p l r := by
  unfold redV
  rw [← less_range (by rw [hr, hl]), hr]
theorem fTurn (hn : n ≤ 1000) (hp : p < n) (ll : l.length = n) (hd : divOk (ge l p) = true) {r : Vec} (lr : r.length = n) (hm : ∀ x ∈ l, mulOk ((ge r p).fdiv (ge l p)) x = true) {acc : List Vec} (ha : acc.length ≤ 10000) (h6 : VS j6) (h10 : VS j10) (h11 : VS j11) :
    optF (bTup (bCons (bName 10) (bCons (bName 6) bNil)) (encR p r) (EE V (.int (n : Int)) rv fd p j5 j6 sm (some (.val (lv l))) (some (.own false (.lst (acc.map lv)))) j10 j11 j12)) fB =
      .nx (EE V (.int (n : Int)) rv fd p j5 (some (.val (lv r))) sm (some (.val (lv l))) (some (.own false (.lst ((acc ++ [redV p l r]).map lv)))) (some (.val (.int ((ge r p).natAbs : Int)))) (some (.val (.int ((ge r p).fdiv (ge l p))))) j12) := by
  have i6 := h6.io
  have i10 := h10.io
  have i11 := h11.io
  have g1 := gx (v := r) (p := p) (by omega)
  have g2 := gx (v := l) (p := p) (by omega)
  have k1 : (n : Int) < 4611686018427387904 := by omega
  have k2 : -4611686018427387904 ≤ (n : Int) := by omega
  have ha' : acc.length < 16777216 := by omega
  have hx : ∀ {ρ : DEnv} {o : Res Cell} {f : Nat → Option (Option D × DEnv)}, (∀ k ∈ List.range n, f k = some (some (.int (ge r k - (ge r p).fdiv (ge l p) * ge l k)), ρ)) → compX o ρ f (List.range n) = .ok (.lst ((redV p l r).map PyData.int)) ρ := by
    intro ρ o f hf
    rw [compX_eq (g := fun k : Nat => some (.int (ge r k - (ge r p).fdiv (ge l p) * ge l k))) hf (by rw [sizeLine_eq, List.length_range]; omega), List.filterMap_eq_map', ← red_range lr ll, List.map_map]
    rfl
  simp [fB, encR, -isIo_some, -isOwn_some, i6, i10, i11, isIo_v, isIo_n, isIo_f, isOwn_n, isOwn_v, g1, g2, hd, k1, k2]
  rw [hx fun k hk => by
    have hk := List.mem_range.mp hk
    have e1 := gx (v := r) (p := k) (by omega)
    have e2 := gx (v := l) (p := k) (by omega)
    have e3 := hm (ge l k) (by rw [ge_lt (by omega)]; exact List.getElem_mem _)
    simp [e1, e2, e3, backD]]
  simp [ha']
theorem fLoop (hn : n ≤ 1000) (hp : p < n) (ll : l.length = n) (hd : divOk (ge l p) = true) : ∀ (rs acc : List Vec) (j6 j10 j11 : Option SV), (∀ r ∈ rs, r.length = n ∧ ∀ x ∈ l, mulOk ((ge r p).fdiv (ge l p)) x = true) → acc.length + rs.length ≤ 10000 → VS j6 → VS j10 → VS j11 →
    ∃ j6' j10' j11', VS j6' ∧ VS j10' ∧ VS j11' ∧ forD (bTup (bCons (bName 10) (bCons (bName 6) bNil))) fB (rs.map (encR p)) (EE V (.int (n : Int)) rv fd p j5 j6 sm (some (.val (lv l))) (some (.own false (.lst (acc.map lv)))) j10 j11 j12) =
      .nx (EE V (.int (n : Int)) rv fd p j5 j6' sm (some (.val (lv l))) (some (.own false (.lst ((acc ++ rs.map (redV p l)).map lv)))) j10' j11' j12)
  | [], acc, j6, j10, j11, _, _, h6, h10, h11 => ⟨j6, j10, j11, h6, h10, h11, by simp [forD]⟩
  | r :: rs, acc, j6, j10, j11, hr, hc, h6, h10, h11 => by
    simp only [List.length_cons] at hc
    obtain ⟨h1, h2⟩ := hr r List.mem_cons_self
    obtain ⟨a, b, c, d, e, f, g⟩ := fLoop hn hp ll hd rs (acc ++ [redV p l r]) (some (.val (lv r))) (some (.val (.int ((ge r p).natAbs : Int)))) (some (.val (.int ((ge r p).fdiv (ge l p))))) (fun q hq => hr q (List.mem_cons_of_mem _ hq)) (by simp; omega) .val .val .val
    refine ⟨a, b, c, d, e, f, ?_⟩
    rw [List.map_cons, forD_nx (fTurn hn hp ll hd h1 h2 (by omega) h6 h10 h11), g]
    simp
def tB : DSt := gSeq (gSetL 7 (xComp (iSeq (xVar 2)) [6] (bName 6) (xt2 kNe (x2 kIx (xVar 6) (xVar 4)) (xC (.int 0))) (xVar 6))) (gSeq (gIf (xt2 kLt (xCB kLen (aCons (xVar 7) (aNil))) (xC (.int 2))) (gBreak) (gNext)) (gSeq (gSet 7 (ofL (xCBL kSorted (aCons (ofL (xComp (iSeq (xVar 7)) [6] (bName 6) (tTrue) (xTup (aCons (xCB kAbs (aCons (x2 kIx (xVar 6) (xVar 4)) (aNil))) (aCons (xVar 6) (aNil)))))) (aNil))))) (gSeq (gSet 8 (x2 kIx (x2 kIx (xVar 7) (xC (.int 0))) (xC (.int 1)))) (gSeq (gSetL 9 (xComp (iSeq (xVar 2)) [6] (bName 6) (xt2 kEq (x2 kIx (xVar 6) (xVar 4)) (xC (.int 0))) (xVar 6))) (gSeq (gFor (iSeq (ofL (xCutL (xVar 7) (pSome (xC (.int 1))) (pNo)))) (bTup (bCons (bName 10) (bCons (bName 6) (bNil)))) fB) (gSet 2 (ofL (x2L kAddL (xVar 9) (ofL (xLst (aCons (xVar 8) (aNil))))))))))))
theorem tBreak (hp : p < n) (ll : Len n rows) (hl : rows.length ≤ 1000) (hr : RSl rows rv) (h6 : VS j6) (hs : NI sm) (h2 : (nzR p rows).length < 2) :
    tB (EE V (.int (n : Int)) rv fd p j5 j6 sm ls rst j10 j11 j12) = .bk (EE V (.int (n : Int)) (some (.val (.list (rows.map lv)))) fd p j5 j6 (some (.own false (.lst ((nzR p rows).map lv)))) ls rst j10 j11 j12) := by
  have c := cNz (V := V) (N := .int (n : Int)) (fd := fd) (j5 := j5) (sm := sm) (ls := ls) (rst := rst) (j10 := j10) (j11 := j11) (j12 := j12) hp ll hl hr h6
  unfold NI at hs
  simp only [EE] at c
  simp [tB, -xComp_ap, c, -isIo_some, hs]
  omega
theorem cut1 {d : D} {ds : List D} : cutD (d :: ds) (some 1) none = ds := by
  have h := kCut_tail (ds := d :: ds)
  have h2 : kCut (.tuple (d :: ds)) (some 1) none = some (.tuple (cutD (d :: ds) (some 1) none)) := rfl
  rw [h2] at h
  injection h with h
  injection h with h
theorem tStep (hn : n ≤ 1000) (hp : p < n) (ll : Len n rows) (hl : rows.length ≤ 1000) (hr : RSl rows rv) (hs : srt p (nzR p rows) = l :: rs) (h2 : rs ≠ []) (hd : divOk (ge l p) = true) (hm : ∀ r ∈ rs, ∀ x ∈ l, mulOk ((ge r p).fdiv (ge l p)) x = true) (h6 : VS j6) (h10 : VS j10) (h11 : VS j11) (ns : NI sm) (nl : NI ls) (nr : NI rst) :
    ∃ j6' sm' ls' rst' j10' j11', VS j6' ∧ VS j10' ∧ VS j11' ∧ NI sm' ∧ NI ls' ∧ NI rst' ∧ tB (EE V (.int (n : Int)) rv fd p j5 j6 sm ls rst j10 j11 j12) = .nx (EE V (.int (n : Int)) (some (.val (.list ((tnew p rows l rs).map lv)))) fd p j5 j6' sm' ls' rst' j10' j11' j12) := by
  have c := cNz (V := V) (N := .int (n : Int)) (fd := fd) (j5 := j5) (sm := sm) (ls := ls) (rst := rst) (j10 := j10) (j11 := j11) (j12 := j12) hp ll hl hr h6
  obtain ⟨⟨lm, lz⟩, rm, _⟩ := srt_mem hs
  have lN : Len n (nzR p rows) := fun r hr => ll r (nz_mem.mp hr).1
  have nl1 : (nzR p rows).length ≤ rows.length := List.length_filter_le _ _
  have zl1 : (zR p rows).length ≤ rows.length := List.length_filter_le _ _
  have e2 := (srt_perm p (nzR p rows)).length_eq
  rw [hs, List.length_cons] at e2
  have two : ¬ (nzR p rows).length < 2 := by
    have := List.length_pos_iff.mpr h2; omega
  have so := sSort (V := V) (N := .int (n : Int)) (fd := fd) (rs := some (.val (.list (rows.map lv)))) (j5 := j5) (ls := ls) (rst := rst) (j10 := j10) (j11 := j11) (j12 := j12) hp lN (by omega) h6
  rw [hs] at so
  have z := cZ (V := V) (N := .int (n : Int)) (fd := fd) (rs := some (.val (.list (rows.map lv)))) (j5 := j5) (sm := some (.val (.list ((l :: rs).map (encR p))))) (ls := some (.val (lv l))) (rst := rst) (j10 := j10) (j11 := j11) (j12 := j12) hp ll hl (.inr rfl) h6
  obtain ⟨a, b, d, k1, k2, k3, f⟩ := fLoop (V := V) (rv := some (.val (.list (rows.map lv)))) (fd := fd) (j5 := j5) (sm := some (.val (.list ((l :: rs).map (encR p))))) (j12 := j12) hn hp (ll l lm) hd rs (zR p rows) j6 j10 j11 (fun r hr => ⟨ll r (rm r hr).1, hm r hr⟩) (by omega) h6 h10 h11
  refine ⟨a, some (.val (.list ((l :: rs).map (encR p)))), some (.val (lv l)), some (.own false (.lst ((zR p rows ++ rs.map (redV p l)).map lv))), b, d, k1, k2, k3, rfl, rfl, rfl, ?_⟩
  unfold NI at ns nl nr
  have two' : ¬ ((nzR p rows).length : Int) < 2 := by omega
  have l16 : (nzR p rows).length ≤ 16777216 := by omega
  have t1 : gSetL 7 (xComp (iSeq (xVar 2)) [6] (bName 6) (xt2 kNe (x2 kIx (xVar 6) (xVar 4)) (xC (.int 0))) (xVar 6)) (EE V (.int (n : Int)) rv fd p j5 j6 sm ls rst j10 j11 j12) = .nx (EE V (.int (n : Int)) (some (.val (.list (rows.map lv)))) fd p j5 j6 (some (.own false (.lst ((nzR p rows).map lv)))) ls rst j10 j11 j12) := by
    simp only [EE] at c
    simp [-xComp_ap, c, -isIo_some, ns]
  have t2 : gIf (xt2 kLt (xCB kLen (aCons (xVar 7) (aNil))) (xC (.int 2))) (gBreak) (gNext) (EE V (.int (n : Int)) (some (.val (.list (rows.map lv)))) fd p j5 j6 (some (.own false (.lst ((nzR p rows).map lv)))) ls rst j10 j11 j12) = .nx (EE V (.int (n : Int)) (some (.val (.list (rows.map lv)))) fd p j5 j6 (some (.own false (.lst ((nzR p rows).map lv)))) ls rst j10 j11 j12) := by
    simp [two', l16]
  have t4 : gSet 8 (x2 kIx (x2 kIx (xVar 7) (xC (.int 0))) (xC (.int 1))) (EE V (.int (n : Int)) (some (.val (.list (rows.map lv)))) fd p j5 j6 (some (.val (.list ((l :: rs).map (encR p))))) ls rst j10 j11 j12) = .nx (EE V (.int (n : Int)) (some (.val (.list (rows.map lv)))) fd p j5 j6 (some (.val (.list ((l :: rs).map (encR p))))) (some (.val (lv l))) rst j10 j11 j12) := by
    simp [-isIo_some, nl, encR, atI_int]
  have t5 : gSetL 9 (xComp (iSeq (xVar 2)) [6] (bName 6) (xt2 kEq (x2 kIx (xVar 6) (xVar 4)) (xC (.int 0))) (xVar 6)) (EE V (.int (n : Int)) (some (.val (.list (rows.map lv)))) fd p j5 j6 (some (.val (.list ((l :: rs).map (encR p))))) (some (.val (lv l))) rst j10 j11 j12) = .nx (EE V (.int (n : Int)) (some (.val (.list (rows.map lv)))) fd p j5 j6 (some (.val (.list ((l :: rs).map (encR p))))) (some (.val (lv l))) (some (.own false (.lst ((zR p rows).map lv)))) j10 j11 j12) := by
    simp only [EE, List.map_cons] at z
    simp [-xComp_ap, z, -isIo_some, nr]
  have t6 : gFor (iSeq (ofL (xCutL (xVar 7) (pSome (xC (.int 1))) (pNo)))) (bTup (bCons (bName 10) (bCons (bName 6) (bNil)))) fB (EE V (.int (n : Int)) (some (.val (.list (rows.map lv)))) fd p j5 j6 (some (.val (.list ((l :: rs).map (encR p))))) (some (.val (lv l))) (some (.own false (.lst ((zR p rows).map lv)))) j10 j11 j12) = .nx (EE V (.int (n : Int)) (some (.val (.list (rows.map lv)))) fd p j5 a (some (.val (.list ((l :: rs).map (encR p))))) (some (.val (lv l))) (some (.own false (.lst ((zR p rows ++ rs.map (redV p l)).map lv)))) b d j12) := by
    rw [← f]
    simp [cut1]
  have t7 : gSet 2 (ofL (x2L kAddL (xVar 9) (ofL (xLst (aCons (xVar 8) (aNil)))))) (EE V (.int (n : Int)) (some (.val (.list (rows.map lv)))) fd p j5 a (some (.val (.list ((l :: rs).map (encR p))))) (some (.val (lv l))) (some (.own false (.lst ((zR p rows ++ rs.map (redV p l)).map lv)))) b d j12) = .nx (EE V (.int (n : Int)) (some (.val (.list ((tnew p rows l rs).map lv)))) fd p j5 a (some (.val (.list ((l :: rs).map (encR p))))) (some (.val (lv l))) (some (.own false (.lst ((zR p rows ++ rs.map (redV p l)).map lv)))) b d j12) := by
    have hl3 : (zR p rows).length + rs.length ≤ 16777215 := by omega
    simp [tnew]
    omega
  unfold tB
  rw [gSeq_ap, t1, seqF_nx, gSeq_ap, t2, seqF_nx, gSeq_ap, so, seqF_nx, gSeq_ap, t4, seqF_nx, gSeq_ap, t5, seqF_nx, gSeq_ap, t6, seqF_nx, t7]
end
end K03

namespace K03
open L2 PySem PySem.Spec PyProof.Rows DL
open HN
section
variable {n p : Nat} {V : D} {fd : List Vec}
theorem turns {f : Nat} {rows out : List Vec} (hn : n ≤ 1000) (hp : p < n) (t : TG n p f rows out) : rows.length ≤ 1000 → ∀ (ds : List D), f + 1 ≤ ds.length → ∀ {rv j5 j6 sm ls rst j10 j11 j12 : Option SV}, RSl rows rv → VS j5 → VS j6 → VS j10 → VS j11 → NI sm → NI ls → NI rst →
    ∃ j5' j6' sm' ls' rst' j10' j11', VS j5' ∧ VS j6' ∧ VS j10' ∧ VS j11' ∧ NI sm' ∧ NI ls' ∧ NI rst' ∧ forD (bName 5) tB ds (EE V (.int (n : Int)) rv fd p j5 j6 sm ls rst j10 j11 j12) = .nx (EE V (.int (n : Int)) (some (.val (.list (out.map lv)))) fd p j5' j6' sm' ls' rst' j10' j11' j12) := by
  have env : ∀ {d : D} {rv j5 j6 sm ls rst j10 j11 j12 : Option SV}, VS j5 → bName 5 d (EE V (.int (n : Int)) rv fd p j5 j6 sm ls rst j10 j11 j12) = some (EE V (.int (n : Int)) rv fd p (some (.val d)) j6 sm ls rst j10 j11 j12) := fun h => by
    have i5 := h.io
    simp [-isIo_some, i5]
  induction t with
  | @done rows ll h =>
    intro hl ds hd rv j5 j6 sm ls rst j10 j11 j12 hr h5 h6 h10 h11 ns nl nr
    match ds, hd with
    | d :: ds, _ =>
      have b := tBreak (V := V) (fd := fd) (j5 := some (.val d)) (ls := ls) (rst := rst) (j10 := j10) (j11 := j11) (j12 := j12) hp ll hl hr h6 ns h
      refine ⟨some (.val d), j6, some (.own false (.lst ((nzR p rows).map lv))), ls, rst, j10, j11, .val, h6, h10, h11, rfl, nl, nr, forD_bk ?_⟩
      rw [env h5, optF_some, b]
  | step ll hl0 hs h2 hd' hm t ih =>
    intro hl ds hd rv j5 j6 sm ls rst j10 j11 j12 hr h5 h6 h10 h11 ns nl nr
    match ds, hd with
    | d :: ds, hd =>
      obtain ⟨a6, asm, als, arst, a10, a11, b6, b10, b11, bs, bl, br, e⟩ := tStep (V := V) (fd := fd) (j5 := some (.val d)) (j12 := j12) hn hp ll hl hr hs h2 hd' hm h6 h10 h11 ns nl nr
      have kk := turn_keep ll hs
      obtain ⟨c5, c6, csm, cls, crst, c10, c11, d5, d6, d10, d11, ds', dl, dr, e2⟩ := ih (by rw [kk.ct]; exact hl) ds (by simp at hd; omega) (.inr rfl) (.val (d := d)) b6 b10 b11 bs bl br
      refine ⟨c5, c6, csm, cls, crst, c10, c11, d5, d6, d10, d11, ds', dl, dr, ?_⟩
      rw [forD_nx (by rw [env h5, optF_some, e]), e2]
def hB : DSt := gSeq (gSet 12 (xIf (xt2 kGt (x2 kIx (x2 kIx (xVar 7) (xC (.int 0))) (xVar 4)) (xC (.int 0))) (x2 kIx (xVar 7) (xC (.int 0))) (ofL (xComp (iSeq (x2 kIx (xVar 7) (xC (.int 0)))) [15] (bName 15) (tTrue) (x2 kSub (xC (.int 0)) (xVar 15)))))) (gSeq (gSetL 2 (xComp (iSeq (xVar 2)) [6] (bName 6) (xt2 kEq (x2 kIx (xVar 6) (xVar 4)) (xC (.int 0))) (xVar 6))) (gSet 3 (ofL (x2L kAddL (ofL (xComp (iSeq (xVar 3)) [6] (bName 6) (tTrue) (ofL (xComp (iRange1 (aCons (xVar 1) (aNil))) [14] (bName 14) (tTrue) (x2 kSub (x2 kIx (xVar 6) (xVar 14)) (x2 kMul (x2 kDiv (x2 kIx (xVar 6) (xVar 4)) (x2 kIx (xVar 12) (xVar 4))) (x2 kIx (xVar 12) (xVar 14)))))))) (ofL (xLst (aCons (xVar 12) (aNil))))))))
def colB : DSt := gSeq (gFor (iRange1 (aCons (x2 kPow (xC (.int 10)) (xC (.int 6))) (aNil))) (bName 5) tB) (gSeq (gSetL 7 (xComp (iSeq (xVar 2)) [6] (bName 6) (xt2 kNe (x2 kIx (xVar 6) (xVar 4)) (xC (.int 0))) (xVar 6))) (gIf (xTr (xVar 7)) hB (gNext)))
variable {rows : List Vec} {rv j5 j6 sm ls rst j10 j11 j12 : Option SV}
theorem head_eq (hn : n ≤ 1000) (hp : p < n) (ll : Len n rows) (hl : rows.length ≤ 1000) {g : Vec} (hg : nzR p rows = [g]) (hf : fd.length ≤ 1000) (hd : divOk (ge (posV p g) p) = true) (hm : ∀ one ∈ fd, one.length = n ∧ ∀ x ∈ posV p g, mulOk ((ge one p).fdiv (ge (posV p g) p)) x = true) (h6 : VS j6) (n12 : NI j12) :
    hB (EE V (.int (n : Int)) (some (.val (.list (rows.map lv)))) fd p j5 j6 (some (.own false (.lst ((nzR p rows).map lv)))) ls rst j10 j11 j12) =
      .nx (EE V (.int (n : Int)) (some (.own false (.lst ((zR p rows).map lv)))) (fd.map (redV p (posV p g)) ++ [posV p g]) p j5 j6 (some (.own false (.lst ((nzR p rows).map lv)))) ls rst j10 j11 (some (.val (lv (posV p g))))) := by
  have gm := nz_mem.mp (show g ∈ nzR p rows by rw [hg]; simp)
  have gl := ll g gm.1
  have pl : (posV p g).length = n := posV_len.trans gl
  have g1 := gx (v := g) (p := p) (by omega)
  have g2 := gx (v := posV p g) (p := p) (by omega)
  have o6 := h6.own
  have k1 : (n : Int) < 4611686018427387904 := by omega
  have k2 : -4611686018427387904 ≤ (n : Int) := by omega
  unfold NI at n12
  have t1 : gSet 12 (xIf (xt2 kGt (x2 kIx (x2 kIx (xVar 7) (xC (.int 0))) (xVar 4)) (xC (.int 0))) (x2 kIx (xVar 7) (xC (.int 0))) (ofL (xComp (iSeq (x2 kIx (xVar 7) (xC (.int 0)))) [15] (bName 15) (tTrue) (x2 kSub (xC (.int 0)) (xVar 15))))) (EE V (.int (n : Int)) (some (.val (.list (rows.map lv)))) fd p j5 j6 (some (.own false (.lst ((nzR p rows).map lv)))) ls rst j10 j11 j12) =
      .nx (EE V (.int (n : Int)) (some (.val (.list (rows.map lv)))) fd p j5 j6 (some (.own false (.lst ((nzR p rows).map lv)))) ls rst j10 j11 (some (.val (lv (posV p g))))) := by
    rw [hg]
    have l16 : List.length g ≤ 16777216 := by omega
    by_cases z : 0 < ge g p
    · have z2 : ¬ ge g p < 0 := by omega
      simp [-isIo_some, n12, g1, z, posV, z2, atI_int]
    · have z2 : ge g p < 0 := by have := gm.2; omega
      simp [-isIo_some, n12, isIo_n, g1, z, posV, z2, atI_int, negV, l16, Function.comp_def]
  have z := cZ (V := V) (N := .int (n : Int)) (fd := fd) (rs := some (.val (.list (rows.map lv)))) (j5 := j5) (sm := some (.own false (.lst ((nzR p rows).map lv)))) (ls := ls) (rst := rst) (j10 := j10) (j11 := j11) (j12 := some (.val (lv (posV p g)))) hp ll hl (.inr rfl) h6
  have t2 : gSetL 2 (xComp (iSeq (xVar 2)) [6] (bName 6) (xt2 kEq (x2 kIx (xVar 6) (xVar 4)) (xC (.int 0))) (xVar 6)) (EE V (.int (n : Int)) (some (.val (.list (rows.map lv)))) fd p j5 j6 (some (.own false (.lst ((nzR p rows).map lv)))) ls rst j10 j11 (some (.val (lv (posV p g))))) =
      .nx (EE V (.int (n : Int)) (some (.own false (.lst ((zR p rows).map lv)))) fd p j5 j6 (some (.own false (.lst ((nzR p rows).map lv)))) ls rst j10 j11 (some (.val (lv (posV p g))))) := by
    simp only [EE] at z
    simp [-xComp_ap, z, -isIo_some, isIo_v]
  have hx : ∀ {one : Vec} {ρ : DEnv} {o : Res Cell} {f : Nat → Option (Option D × DEnv)}, one.length = n → (∀ k ∈ List.range n, f k = some (some (.int (ge one k - (ge one p).fdiv (ge (posV p g) p) * ge (posV p g) k)), ρ)) → compX o ρ f (List.range n) = .ok (.lst ((redV p (posV p g) one).map PyData.int)) ρ := by
    intro one ρ o f l1 hf
    rw [compX_eq (g := fun k : Nat => some (.int (ge one k - (ge one p).fdiv (ge (posV p g) p) * ge (posV p g) k))) hf (by rw [sizeLine_eq, List.length_range]; omega), List.filterMap_eq_map', ← red_range l1 pl, List.map_map]
    rfl
  have c3 : xComp (iSeq (xVar 3)) [6] (bName 6) (tTrue) (ofL (xComp (iRange1 (aCons (xVar 1) (aNil))) [14] (bName 14) (tTrue) (x2 kSub (x2 kIx (xVar 6) (xVar 14)) (x2 kMul (x2 kDiv (x2 kIx (xVar 6) (xVar 4)) (x2 kIx (xVar 12) (xVar 4))) (x2 kIx (xVar 12) (xVar 14)))))) (EE V (.int (n : Int)) (some (.own false (.lst ((zR p rows).map lv)))) fd p j5 j6 (some (.own false (.lst ((nzR p rows).map lv)))) ls rst j10 j11 (some (.val (lv (posV p g))))) =
      .ok (.lst ((fd.map (redV p (posV p g))).map lv)) (EE V (.int (n : Int)) (some (.own false (.lst ((zR p rows).map lv)))) fd p j5 j6 (some (.own false (.lst ((nzR p rows).map lv)))) ls rst j10 j11 (some (.val (lv (posV p g))))) := by
    rw [xComp_ap]
    simp [-isOwn_some, o6]
    rw [compX_eq (g := fun one : Vec => some (lv (redV p (posV p g) one))) (fun one ho => by
      obtain ⟨l1, l2⟩ := hm one ho
      have e0 := gx (v := one) (p := p) (by omega)
      simp [-isOwn_some, -isIo_some, isOwn_n, isIo_n, k1, k2]
      rw [hx l1 fun k hk => by
        have hk := List.mem_range.mp hk
        have e1 := gx (v := one) (p := k) (by omega)
        have e2 := gx (v := posV p g) (p := k) (by omega)
        have e3 := l2 (ge (posV p g) k) (by rw [ge_lt (by omega)]; exact List.getElem_mem _)
        simp [e0, e1, e2, e3, g2, hd, backD]]
      simp [backD]) (by rw [sizeLine_eq]; omega), List.filterMap_eq_map']
    simp
  have t3 : gSet 3 (ofL (x2L kAddL (ofL (xComp (iSeq (xVar 3)) [6] (bName 6) (tTrue) (ofL (xComp (iRange1 (aCons (xVar 1) (aNil))) [14] (bName 14) (tTrue) (x2 kSub (x2 kIx (xVar 6) (xVar 14)) (x2 kMul (x2 kDiv (x2 kIx (xVar 6) (xVar 4)) (x2 kIx (xVar 12) (xVar 4))) (x2 kIx (xVar 12) (xVar 14)))))))) (ofL (xLst (aCons (xVar 12) (aNil)))))) (EE V (.int (n : Int)) (some (.own false (.lst ((zR p rows).map lv)))) fd p j5 j6 (some (.own false (.lst ((nzR p rows).map lv)))) ls rst j10 j11 (some (.val (lv (posV p g))))) =
      .nx (EE V (.int (n : Int)) (some (.own false (.lst ((zR p rows).map lv)))) (fd.map (redV p (posV p g)) ++ [posV p g]) p j5 j6 (some (.own false (.lst ((nzR p rows).map lv)))) ls rst j10 j11 (some (.val (lv (posV p g))))) := by
    simp only [EE] at c3
    simp [-xComp_ap, c3, -isIo_some, isIo_v, show fd.length ≤ 16777215 by omega]
  unfold hB
  rw [gSeq_ap, t1, seqF_nx, gSeq_ap, t2, seqF_nx, t3]
end
end K03

namespace K03
open L2 PySem PySem.Spec PyProof.Rows DL
open HN
section
variable {n : Nat} {V : D}
theorem million (ρ : DEnv) : iRange1 (aCons (x2 kPow (xC (.int 10)) (xC (.int 6))) (aNil)) ρ = .ok ((List.range 1000000).map fun (k : Nat) => PyData.int (k : Int)) ρ :=
  iRange1_nat (n := 1000000) (by
    have : kPow (.int 10) (.int 6) = some (.int ((1000000 : Nat) : Int)) := by simp [kPow]
    simp [this]) (by omega)
theorem colStep (hn : n ≤ 1000) {s s2 : SS} {p : Nat} {ps : List Nat} {res : List Vec} (h : RG n s (p :: ps) res) (hs2 : s.2.length ≤ 1000) {rv a j5 j6 sm ls rst j10 j11 j12 : Option SV} (hr : RSl s.2 rv) (h5 : VS j5) (h6 : VS j6) (h10 : VS j10) (h11 : VS j11) (ns : NI sm) (nl : NI ls) (nr : NI rst) (n12 : NI j12) :
    ∃ (s' : SS) (rv' j5' j6' sm' ls' rst' j10' j11' j12' : Option SV), RG n s' ps res ∧ s'.2.length ≤ 1000 ∧ RSl s'.2 rv' ∧ VS j5' ∧ VS j6' ∧ VS j10' ∧ VS j11' ∧ NI sm' ∧ NI ls' ∧ NI rst' ∧ NI j12' ∧
      colB (EE V (.int (n : Int)) rv s.1 p j5 j6 sm ls rst j10 j11 j12) = .nx (EE V (.int (n : Int)) rv' s'.1 p j5' j6' sm' ls' rst' j10' j11' j12') := by
  have core : ∀ {f : Nat} {out : List Vec}, p < n → f < 999999 → TG n p f s.2 out → out.length ≤ 1000 → ∃ j5' j6' ls' rst' j10' j11', VS j5' ∧ VS j6' ∧ VS j10' ∧ VS j11' ∧ NI ls' ∧ NI rst' ∧
      colB (EE V (.int (n : Int)) rv s.1 p j5 j6 sm ls rst j10 j11 j12) = gIf (xTr (xVar 7)) hB gNext (EE V (.int (n : Int)) (some (.val (.list (out.map lv)))) s.1 p j5' j6' (some (.own false (.lst ((nzR p out).map lv)))) ls' rst' j10' j11' j12) := by
    intro f out hp f6 t ho
    obtain ⟨a5, a6, asm, als, arst, a10, a11, b5, b6, b10, b11, bs, bl, br, e⟩ := turns (V := V) (fd := s.1) hn hp t hs2 ((List.range 1000000).map fun (k : Nat) => PyData.int (k : Int)) (by rw [List.length_map, List.length_range]; omega) (j12 := j12) hr h5 h6 h10 h11 ns nl nr
    obtain ⟨tk, _⟩ := t.keep
    refine ⟨a5, a6, als, arst, a10, a11, b5, b6, b10, b11, bl, br, ?_⟩
    have c := cNz (V := V) (N := .int (n : Int)) (fd := s.1) (j5 := a5) (sm := asm) (ls := als) (rst := arst) (j10 := a10) (j11 := a11) (j12 := j12) hp tk.ll ho (.inr rfl) b6
    unfold NI at bs
    have t1 : gSetL 7 (xComp (iSeq (xVar 2)) [6] (bName 6) (xt2 kNe (x2 kIx (xVar 6) (xVar 4)) (xC (.int 0))) (xVar 6)) (EE V (.int (n : Int)) (some (.val (.list (out.map lv)))) s.1 p a5 a6 asm als arst a10 a11 j12) = .nx (EE V (.int (n : Int)) (some (.val (.list (out.map lv)))) s.1 p a5 a6 (some (.own false (.lst ((nzR p out).map lv)))) als arst a10 a11 j12) := by
      simp only [EE] at c
      simp [-xComp_ap, c, -isIo_some, bs]
    have t0 : gFor (iRange1 (aCons (x2 kPow (xC (.int 10)) (xC (.int 6))) (aNil))) (bName 5) tB (EE V (.int (n : Int)) rv s.1 p j5 j6 sm ls rst j10 j11 j12) = .nx (EE V (.int (n : Int)) (some (.val (.list (out.map lv)))) s.1 p a5 a6 asm als arst a10 a11 j12) := by
      rw [gFor_ap, million, bindF_ok]
      exact e
    unfold colB
    rw [gSeq_ap, t0, seqF_nx, gSeq_ap, t1, seqF_nx]
  cases h with
  | no hp f6 t h hl ho r =>
    obtain ⟨a5, a6, als, arst, a10, a11, b5, b6, b10, b11, bl, br, e⟩ := core hp f6 t ho
    refine ⟨_, _, a5, a6, _, als, arst, a10, a11, j12, r, ho, .inr rfl, b5, b6, b10, b11, (rfl : NI (some (.own false (.lst ([] : List D))))), bl, br, n12, ?_⟩
    rw [e, h]
    simp
  | @yes _ _ _ _ out _ g hp f6 t h hl ho hd hm r =>
    obtain ⟨a5, a6, als, arst, a10, a11, b5, b6, b10, b11, bl, br, e⟩ := core hp f6 t ho
    obtain ⟨tk, _⟩ := t.keep
    have hh := head_eq (V := V) (fd := s.1) (j5 := a5) (ls := als) (rst := arst) (j10 := a10) (j11 := a11) hn hp tk.ll ho h hl hd hm b6 n12
    have zl : (zR p out).length ≤ out.length := List.length_filter_le _ _
    refine ⟨_, _, a5, a6, some (.own false (.lst ((nzR p out).map lv))), als, arst, a10, a11, some (.val (lv (posV p g))), r, by dsimp only; omega, .inl rfl, b5, b6, b10, b11, rfl, bl, br, rfl, ?_⟩
    rw [e]
    have tr : xTr (xVar 7) (EE V (.int (n : Int)) (some (.val (.list (out.map lv)))) s.1 p a5 a6 (some (.own false (.lst ((nzR p out).map lv)))) als arst a10 a11 j12) = .ok true (EE V (.int (n : Int)) (some (.val (.list (out.map lv)))) s.1 p a5 a6 (some (.own false (.lst ((nzR p out).map lv)))) als arst a10 a11 j12) := by
      rw [h]; simp
    rw [gIf_ap, tr, bindF_ok, if_pos rfl, hh]
abbrev EF (V : D) (n : D) (rs : Option SV) (fd : List Vec) (a j5 j6 sm ls rst j10 j11 j12 : Option SV) : DEnv :=
  [some (.val V), some (.val n), rs, some (.val (.list (fd.map lv))), a, j5, j6, sm, ls, rst, j10, j11, j12, none, none, none]
theorem cols (hn : n ≤ 1000) : ∀ {ps : List Nat} {s : SS} {res : List Vec}, RG n s ps res → s.2.length ≤ 1000 → ∀ {rv a j5 j6 sm ls rst j10 j11 j12 : Option SV}, RSl s.2 rv → VS a → VS j5 → VS j6 → VS j10 → VS j11 → NI sm → NI ls → NI rst → NI j12 →
    ∃ ρ, forD (bName 4) colB (ps.map fun (k : Nat) => PyData.int (k : Int)) (EF V (.int (n : Int)) rv s.1 a j5 j6 sm ls rst j10 j11 j12) = .nx ρ ∧ ρ[3]? = some (some (.val (.list (res.map lv)))) ∧ ∃ rv a j5 j6 sm ls rst j10 j11 j12, VS j6 ∧ ρ = EF V (.int (n : Int)) rv res a j5 j6 sm ls rst j10 j11 j12
  | [], s, res, h, _, rv, a, j5, j6, sm, ls, rst, j10, j11, j12, _, _, _, h6, _, _, _, _, _, _ => by
    cases h
    exact ⟨_, rfl, rfl, rv, a, j5, j6, sm, ls, rst, j10, j11, j12, h6, rfl⟩
  | p :: ps, s, res, h, hl, rv, a, j5, j6, sm, ls, rst, j10, j11, j12, hr, ha, h5, h6, h10, h11, ns, nl, nr, n12 => by
    obtain ⟨s', rv', a5, a6, asm, als, arst, a10, a11, a12, r, hl', hr', b5, b6, b10, b11, bs, bl, br, b12, e⟩ := colStep (V := V) (s2 := s) (a := a) hn h hl hr h5 h6 h10 h11 ns nl nr n12
    obtain ⟨ρ, e2, rest⟩ := cols hn r hl' (rv := rv') (a := some (.val (.int (p : Int)))) hr' .val b5 b6 b10 b11 bs bl br b12
    refine ⟨ρ, ?_, rest⟩
    have ia := ha.io
    have env : bName 4 (PyData.int (p : Int)) (EF V (.int (n : Int)) rv s.1 a j5 j6 sm ls rst j10 j11 j12) = some (EE V (.int (n : Int)) rv s.1 p j5 j6 sm ls rst j10 j11 j12) := by
      simp [-isIo_some, ia]
    rw [List.map_cons, forD_nx (by rw [env, optF_some, e]), e2]
theorem law_reduced_eq (hn : n ≤ 1000) {vs res : List Vec} (hl : vs.length ≤ 1000) (h : RG n ([], vs) (List.range n) res) (hres : res.length ≤ 1000) : f_u_law_reduced [lvs vs, .int (n : Int)] = .ok (.val (mtx res)) := by
  unfold f_u_law_reduced
  rw [runF_out]
  have eb : b_u_law_reduced = gSeq (gSetL 2 (xComp (iSeq (xVar 0)) [13] (bName 13) (tTrue) (ofL (xCBL kList (aCons (xVar 13) (aNil)))))) (gSeq (gSet 3 (ofL (xLst (aNil)))) (gSeq (gFor (iRange1 (aCons (xVar 1) (aNil))) (bName 4) colB) (gRet (xCB kTuple (aCons (ofL (xComp (iSeq (xVar 3)) [6] (bName 6) (tTrue) (xCB kTuple (aCons (xVar 6) (aNil))))) (aNil)))))) := rfl
  have t1 : gSetL 2 (xComp (iSeq (xVar 0)) [13] (bName 13) (tTrue) (ofL (xCBL kList (aCons (xVar 13) (aNil))))) [some (.val (lvs vs)), some (.val (.int (n : Int))), none, none, none, none, none, none, none, none, none, none, none, none, none, none] = .nx [some (.val (lvs vs)), some (.val (.int (n : Int))), some (.own false (.lst (vs.map lv))), none, none, none, none, none, none, none, none, none, none, none, none, none] := by
    have kl : ∀ v : Vec, kList [vec v] = some (v.map PyData.int) := fun _ => rfl
    simp [kl, show vs.length ≤ 16777216 by omega]
  have t2 : gSet 3 (ofL (xLst (aNil))) [some (.val (lvs vs)), some (.val (.int (n : Int))), some (.own false (.lst (vs.map lv))), none, none, none, none, none, none, none, none, none, none, none, none, none] = .nx (EF (lvs vs) (.int (n : Int)) (some (.own false (.lst (vs.map lv)))) [] none none none none none none none none none) := by
    simp
  obtain ⟨ρ, e, _, rv, a, j5, j6, sm, ls, rst, j10, j11, j12, h6, rfl⟩ := cols (V := lvs vs) hn h hl (rv := some (.own false (.lst (vs.map lv)))) (a := none) (.inl rfl) (.inl rfl : VS none) (.inl rfl : VS none) (.inl rfl : VS none) (.inl rfl : VS none) (.inl rfl : VS none) (rfl : NI none) (rfl : NI none) (rfl : NI none) (rfl : NI none)
  have t3 : gFor (iRange1 (aCons (xVar 1) (aNil))) (bName 4) colB (EF (lvs vs) (.int (n : Int)) (some (.own false (.lst (vs.map lv)))) [] none none none none none none none none none) = .nx (EF (lvs vs) (.int (n : Int)) rv res a j5 j6 sm ls rst j10 j11 j12) := by
    have it : iRange1 (aCons (xVar 1) (aNil)) (EF (lvs vs) (.int (n : Int)) (some (.own false (.lst (vs.map lv)))) [] none none none none none none none none none) = .ok ((List.range n).map fun (k : Nat) => PyData.int (k : Int)) (EF (lvs vs) (.int (n : Int)) (some (.own false (.lst (vs.map lv)))) [] none none none none none none none none none) := iRange1_nat (by simp) (by omega)
    rw [gFor_ap, it, bindF_ok]
    exact e
  have o6 := h6.own
  show outF (b_u_law_reduced [some (.val (lvs vs)), some (.val (.int (n : Int))), none, none, none, none, none, none, none, none, none, none, none, none, none, none]) = _
  rw [eb, gSeq_ap, t1, seqF_nx, gSeq_ap, t2, seqF_nx, gSeq_ap, t3, seqF_nx]
  have kt : ∀ v : Vec, kTuple [lv v] = some (vec v) := fun _ => rfl
  simp [-isOwn_some, o6]
  rw [compX_eq (g := fun v : Vec => some (vec v)) (fun v hv => by simp [kt, backD]) (by rw [sizeLine_eq]; omega), List.filterMap_eq_map']
  simp
end
end K03

namespace K03
open L2 PySem PySem.Spec PyProof.Rows DL
theorem next_eq (xs : List Int) : f_u_law_next (zs xs) [] = some (.val (.int (xs.getLastD 0)), zs xs.dropLast) := by
  unfold f_u_law_next
  rw [runI_out]
  rcases List.eq_nil_or_concat xs with rfl | ⟨ys, y, rfl⟩
  · simp [b_u_law_next, startI, startD]
  · simp [b_u_law_next, startI, startD]
theorem last_dr {xs : List Int} (h : Dr xs) : 0 ≤ xs.getLastD 0 ∧ xs.getLastD 0 < 1000 ∧ Dr xs.dropLast := by
  rcases List.eq_nil_or_concat xs with rfl | ⟨ys, y, rfl⟩
  · simp [Dr]
  · have := h y (by simp)
    refine ⟨by simpa using this.1, by simpa using this.2, fun x hx => h x ?_⟩
    simp at hx ⊢; exact .inl hx
theorem next_ex {xs : List Int} (h : Dr xs) : ∃ a ys, f_u_law_next (zs xs) [] = some (.val (.int a), zs ys) ∧ 0 ≤ a ∧ a < 1000 ∧ Dr ys ∧ ys.length ≤ xs.length :=
  ⟨_, _, next_eq xs, (last_dr h).1, (last_dr h).2.1, (last_dr h).2.2, by simp⟩
theorem number_eq (n : Int) : ∃ k : Int, 0 ≤ k ∧ f_u_law_number [.int n] = .ok (.val (.int k)) := by
  unfold f_u_law_number
  by_cases h : n < 0
  · refine ⟨0 - n, by omega, ?_⟩
    rw [runF_out]; simp [b_u_law_number, startD, h]
  · refine ⟨n, by omega, ?_⟩
    rw [runF_out]; simp [b_u_law_number, startD, h]
/-- the inner loop: a digit of base 1000 a turn -/
def inner : DSt := gFor (DL.iRange1 (aCons (xC (.int 60)) aNil)) (bName 4) (gSeq (gIf (xt2 kEq (xVar 3) (xC (.int 0))) gBreak gNext) (gSeq (gExpr (xM 1 mAppend (aCons (x2 kMod (xCB kInt (aCons (xVar 3) aNil)) (xC (.int 1000))) aNil))) (gSet 3 (x2 kDiv (xVar 3) (xC (.int 1000))))))
theorem inner_eq {s c o t : Option SV} {k : Option SV} (hk : VS k) {xs : List Int} (hx : Dr xs) {r : Int} (hr : 0 ≤ r) (hl : xs.length ≤ 1000000) : ∃ ys r' k', inner [s, some (.own false (.lst (zs xs))), c, some (.val (.int r)), k, o, t] = .nx [s, some (.own false (.lst (zs ys))), c, some (.val (.int r')), k', o, t] ∧ Dr ys ∧ ys.length ≤ xs.length + 60 ∧ VS k' := by
  have hit : DL.iRange1 (aCons (xC (.int 60)) aNil) [s, some (.own false (.lst (zs xs))), c, some (.val (.int r)), k, o, t] = .ok ((List.range 60).map fun (k : Nat) => PyData.int (k : Int)) [s, some (.own false (.lst (zs xs))), c, some (.val (.int r)), k, o, t] := iRange1_nat (by simp) (by omega)
  unfold inner
  rw [gFor_ap, hit, bindF_ok]
  obtain ⟨ρ', n', h1, ⟨ys, r', k', rfl, h2, h3, h4, h5⟩, h6⟩ := forD_brk (bind := bName 4) (body := gSeq (gIf (xt2 kEq (xVar 3) (xC (.int 0))) gBreak gNext) (gSeq (gExpr (xM 1 mAppend (aCons (x2 kMod (xCB kInt (aCons (xVar 3) aNil)) (xC (.int 1000))) aNil))) (gSet 3 (x2 kDiv (xVar 3) (xC (.int 1000))))))
    (fun n ρ => ∃ ys r' k', ρ = [s, some (.own false (.lst (zs ys))), c, some (.val (.int r')), k', o, t] ∧ Dr ys ∧ 0 ≤ r' ∧ ys.length ≤ xs.length + n ∧ VS k') (ds := (List.range 60).map fun (k : Nat) => PyData.int (k : Int)) (n := 0) ⟨xs, r, k, rfl, hx, hr, by omega, hk⟩ (fun j d ρ hd ⟨ys, r', k', e, h1, h2, h3, h4⟩ => by
      subst e
      have hj : j < 60 := by
        have := (List.getElem?_eq_some_iff.mp hd).1
        simpa using this
      have io := h4.io
      have hlen : ys.length < 16777216 := by omega
      by_cases z : r' = 0
      · refine ⟨[s, some (.own false (.lst (zs ys))), c, some (.val (.int r')), some (.val d), o, t], [s, some (.own false (.lst (zs ys))), c, some (.val (.int r')), some (.val d), o, t], by rcases h4 with rfl | ⟨d', rfl⟩ <;> simp, .inr ?_, ys, r', _, rfl, h1, h2, by omega, .val⟩
        simp [z]
      · refine ⟨[s, some (.own false (.lst (zs ys))), c, some (.val (.int r')), some (.val d), o, t], [s, some (.own false (.lst (zs (ys ++ [r'.fmod 1000])))), c, some (.val (.int (r'.fdiv 1000))), some (.val d), o, t], by rcases h4 with rfl | ⟨d', rfl⟩ <;> simp, .inl ?_, _, _, _, rfl, h1.app (.one r'), fdiv_nonneg h2 (by decide), by simp; omega, .val⟩
        simp [z, hlen, dk1000])
  exact ⟨ys, r', k', h1, h2, by simp at h6; omega, h5⟩
/-- one cell of the script -/
def cellB : DSt := gSeq (gSet 3 (xCall f_u_law_number (aCons (xVar 2) aNil))) (gIf (xt2 kGe (xVar 3) (xC (.int 1000000000000000000))) inner
  (gSeq (gSet 5 (x2 kMod (xCB kInt (aCons (x2 kAdd (x2 kMul (xVar 3) (xC (.int 48271))) (xC (.int 11))) aNil)) (xC (.int 2147483647)))) (gSeq (gSet 6 (x2 kMod (xCB kInt (aCons (x2 kAdd (x2 kMul (xVar 5) (xC (.int 69621))) (xVar 3)) aNil)) (xC (.int 2147483629))))
    (gExtend 1 (xLst (aCons (x2 kMod (xCB kInt (aCons (xVar 3) aNil)) (xC (.int 1000))) (aCons (x2 kMod (xCB kInt (aCons (xVar 5) aNil)) (xC (.int 1000))) (aCons (x2 kMod (xCB kInt (aCons (xVar 6) aNil)) (xC (.int 1000))) aNil))))))))
theorem cellB_eq {s r k o t : Option SV} (hr : VS r) (hk : VS k) (ho : VS o) (ht : VS t) {xs : List Int} (hx : Dr xs) (hl : xs.length ≤ 1000000) (c : Int) :
    ∃ ys r' k' o' t', cellB [s, some (.own false (.lst (zs xs))), some (.val (.int c)), r, k, o, t] = .nx [s, some (.own false (.lst (zs ys))), some (.val (.int c)), r', k', o', t'] ∧ Dr ys ∧ ys.length ≤ xs.length + 60 ∧ VS r' ∧ VS k' ∧ VS o' ∧ VS t' := by
  obtain ⟨n, hn, en⟩ := number_eq c
  by_cases h : 1000000000000000000 ≤ n
  · obtain ⟨ys, r', k', e, h1, h2, h3⟩ := inner_eq (s := s) (c := some (.val (.int c))) (o := o) (t := t) hk hx hn hl
    refine ⟨ys, some (.val (.int r')), k', o, t, ?_, h1, h2, .val, h3, ho, ht⟩
    · rcases hr with rfl | ⟨d, rfl⟩ <;> simp [cellB, en, h, e]
  · have m1 := mulOk_small hn (by omega) (b := 48271) (by decide) (by decide)
    have f1 := fmod_pos (a := n * 48271 + 11) (b := 2147483647) (by decide)
    have m2 := mulOk_small f1.1 (by omega) (b := 69621) (by decide) (by decide)
    have hlen : xs.length + 3 ≤ 16777216 := by omega
    refine ⟨xs ++ [n.fmod 1000, ((n * 48271 + 11).fmod 2147483647).fmod 1000, ((((n * 48271 + 11).fmod 2147483647) * 69621 + n).fmod 2147483629).fmod 1000], some (.val (.int n)), k, some (.val (.int ((n * 48271 + 11).fmod 2147483647))), some (.val (.int ((((n * 48271 + 11).fmod 2147483647) * 69621 + n).fmod 2147483629))), ?_, hx.app ?_, by simp, .val, hk, .val, .val⟩
    · rcases hr with rfl | ⟨d, rfl⟩ <;> rcases ho with rfl | ⟨d2, rfl⟩ <;> rcases ht with rfl | ⟨d3, rfl⟩ <;> simp [cellB, en, h, m1, m2, hlen]
    · intro x hx'
      simp at hx'
      rcases hx' with rfl | rfl | rfl <;> exact fmod_pos (by decide)
theorem draws_eq (ns : List Int) (hl : ns.length ≤ 63) : ∃ xs, f_u_law_draws [.list (zs ns)] = .ok (.own (.lst (zs xs))) ∧ Dr xs ∧ xs.length ≤ 5000 := by
  unfold f_u_law_draws
  rw [runF_out]
  obtain ⟨ρ', h1, ys, c, r, k, o, t, rfl, h2, h3, h4, h5, h6, h7, h8⟩ := forD_inv (bind := bName 2) (body := cellB)
    (fun n ρ => ∃ ys c r k o t, ρ = [some (.val (.list (zs ns))), some (.own false (.lst (zs ys))), c, r, k, o, t] ∧ Dr ys ∧ ys.length ≤ 60 * n ∧ VS c ∧ VS r ∧ VS k ∧ VS o ∧ VS t) (ds := zs ns) (n := 0) (ρ := [some (.val (.list (zs ns))), some (.own false (.lst [])), none, none, none, none, none])
    ⟨[], none, none, none, none, none, rfl, .nil, by simp, .inl rfl, .inl rfl, .inl rfl, .inl rfl, .inl rfl⟩ (fun j d ρ hd ⟨ys, c, r, k, o, t, e, h2, h3, h4, h5, h6, h7, h8⟩ => by
      subst e
      have hj : j < 63 := by
        have := (List.getElem?_eq_some_iff.mp hd).1
        simp at this; omega
      rw [List.getElem?_map] at hd
      cases q : ns[j]? with
      | none => rw [q] at hd; cases hd
      | some m =>
        rw [q] at hd
        cases hd
        obtain ⟨ys', r', k', o', t', e, g1, g2, g3, g4, g5, g6⟩ := cellB_eq (s := some (.val (.list (zs ns)))) h5 h6 h7 h8 h2 (by omega) m
        refine ⟨[some (.val (.list (zs ns))), some (.own false (.lst (zs ys))), some (.val (.int m)), r, k, o, t], _, by rcases h4 with rfl | ⟨d', rfl⟩ <;> simp, e, ys', _, r', k', o', t', rfl, g1, by omega, .val, g3, g4, g5, g6⟩)
  refine ⟨ys.reverse, ?_, h2.rev, by simp at h3 ⊢; omega⟩
  have e : b_u_law_draws = gSeq (gSetL 1 (xLst aNil)) (gSeq (gFor (iSeq (xVar 0)) (bName 2) cellB) (gSeq (gExpr (xM 1 mReverse aNil)) (gRetOwn 1))) := rfl
  rw [e]
  simp [startD, h1, List.map_reverse]
theorem more_eq (xs : List Int) (hx : Dr xs) (hl : xs.length ≤ 5000) (m : Nat) (hm : m ≤ 1000) : ∃ ys zs', f_u_law_more (zs xs) [.int (m : Int)] = some (.own (.lst (zs ys)), zs zs') ∧ Dr ys ∧ ys.length ≤ 6000 ∧ zs'.length ≤ 5000 := by
  unfold f_u_law_more
  rw [runI_out]
  obtain ⟨u, w1, n1, a1, a2, a3, l1⟩ := next_ex hx
  obtain ⟨v, w2, n2, b1, b2, b3, l2⟩ := next_ex a3
  have m1 := mulOk_small (a := 1000) (by decide) (by decide) a1 (by omega)
  have hit : ∀ (s x d e : Option SV), DL.iRange1 (aCons (xVar 1) aNil) [s, some (.val (.int (m : Int))), x, d, e] = .ok ((List.range m).map fun (k : Nat) => PyData.int (k : Int)) [s, some (.val (.int (m : Int))), x, d, e] := fun s x d e => iRange1_nat (by simp) (by omega)
  obtain ⟨ρ', h1, ys, sd, k', rfl, h2, h3, h4, h5, h6⟩ := forD_inv (bind := bName 4) (body := gSeq (gSet 2 (x2 kMod (xCB kInt (aCons (x2 kAdd (x2 kMul (xVar 2) (xC (.int 48271))) (xC (.int 12345))) (aNil))) (xC (.int 2147483647)))) (gExpr (xM 3 mAppend (aCons (x2 kMod (xCB kInt (aCons (x2 kDiv (xVar 2) (xC (.int 7))) (aNil))) (xC (.int 1000))) (aNil)))))
    (fun n ρ => ∃ ys sd k', ρ = [some (.own true (.lst (zs w2))), some (.val (.int (m : Int))), some (.val (.int sd)), some (.own false (.lst (zs ys))), k'] ∧ Dr ys ∧ ys.length ≤ n ∧ 0 ≤ sd ∧ sd < 3000000000 ∧ VS k') (ds := (List.range m).map fun (k : Nat) => PyData.int (k : Int)) (n := 0)
    (ρ := [some (.own true (.lst (zs w2))), some (.val (.int (m : Int))), some (.val (.int (1000 * u + v + 1))), some (.own false (.lst [])), none])
    ⟨[], _, none, rfl, .nil, by simp, by omega, by omega, .inl rfl⟩ (fun j d ρ hd ⟨ys, sd, k', e, g1, g2, g3, g4, g5⟩ => by
      subst e
      have hj : j < m := by
        have := (List.getElem?_eq_some_iff.mp hd).1
        simpa using this
      have q1 := mulOk_small g3 (by omega) (b := 48271) (by decide) (by decide)
      have f1 := fmod_pos (a := sd * 48271 + 12345) (b := 2147483647) (by decide)
      have hlen : ys.length < 16777216 := by omega
      refine ⟨[some (.own true (.lst (zs w2))), some (.val (.int (m : Int))), some (.val (.int sd)), some (.own false (.lst (zs ys))), some (.val d)],
        [some (.own true (.lst (zs w2))), some (.val (.int (m : Int))), some (.val (.int ((sd * 48271 + 12345).fmod 2147483647))), some (.own false (.lst (zs (ys ++ [(((sd * 48271 + 12345).fmod 2147483647).fdiv 7).fmod 1000])))), some (.val d)], by rcases g5 with rfl | ⟨d', rfl⟩ <;> simp, ?_, _, _, _, rfl, g1.app (.one _), by simp; omega, f1.1, by omega, .val⟩
      simp [q1, hlen, dk1000, dk7])
  have hys : ys.length ≤ m := by simpa using h3
  refine ⟨ys ++ w2, w2, ?_, h2.app b3, by simp; omega, by omega⟩
  have hlen : ys.length + w2.length ≤ 16777216 := by omega
  have hit' := hit (some (.own true (.lst (zs w2)))) (some (.val (.int (1000 * u + v + 1)))) (some (.own false (.lst []))) none
  have hb1 : (-4611686018427387904 : Int) ≤ (m : Int) := by omega
  have hb2 : (m : Int) < 4611686018427387904 := by omega
  simp [b_u_law_more, startI, startD, n1, n2, m1, hb1, hb2, h1, hlen]
/-- a draw taken within a comprehension -/
theorem vec_comp {ow : List Nat} {b : D → DEnv → Option DEnv} {elt : DX} {it : DEnv → Res (List D)} (q : Int → Prop) (rest : List (Option SV)) (n : Nat) (hn : n ≤ 1000) {xs : List Int} (hx : Dr xs)
    (hi : it (some (.own true (.lst (zs xs))) :: rest) = .ok ((List.range n).map fun (k : Nat) => PyData.int (k : Int)) (some (.own true (.lst (zs xs))) :: rest)) (ho : (ow.all fun i => !isOwn (some (.own true (.lst (zs xs))) :: rest)[i]?) = true)
    (h : ∀ d ys, Dr ys → ∃ a ys', cstep ow b tTrue elt d (some (.own true (.lst (zs ys))) :: rest) = some (some (.int a), some (.own true (.lst (zs ys'))) :: rest) ∧ q a ∧ Dr ys' ∧ ys'.length ≤ ys.length) :
    ∃ as ys, xComp it ow b tTrue elt (some (.own true (.lst (zs xs))) :: rest) = .ok (.lst (zs as)) (some (.own true (.lst (zs ys))) :: rest) ∧ as.length = n ∧ (∀ a ∈ as, q a) ∧ Dr ys ∧ ys.length ≤ xs.length := by
  obtain ⟨es, ρ', h1, ⟨ys, rfl, h2, h3⟩, h4⟩ := xComp_inv (fun ρ => ∃ ys, ρ = some (.own true (.lst (zs ys))) :: rest ∧ Dr ys ∧ ys.length ≤ xs.length) (fun _ z => ∃ a, z = .int a ∧ q a) hi ho (by rw [sizeLine_eq]; simp; omega) ⟨xs, rfl, hx, Nat.le_refl _⟩ (fun d _ ρ ⟨ys, e, g1, g2⟩ => by
    subst e
    obtain ⟨a, ys', k1, k2, k3, k4⟩ := h d ys g1
    exact ⟨_, _, k1, ⟨ys', rfl, k3, by omega⟩, a, rfl, k2⟩)
  have : ∃ as : List Int, es = zs as ∧ ∀ a ∈ as, q a := by
    have hr := All2.right (Q := fun z => ∃ a, z = PyData.int a ∧ q a) h4 fun _ _ h => h
    clear h4 h1
    induction es with
    | nil => exact ⟨[], rfl, fun a h => by simp at h⟩
    | cons z es ih =>
      obtain ⟨a, rfl, ha⟩ := hr z List.mem_cons_self
      obtain ⟨as, rfl, has⟩ := ih fun y hy => hr y (List.mem_cons_of_mem _ hy)
      exact ⟨a :: as, rfl, fun x hx => by rcases List.mem_cons.mp hx with rfl | hx; exact ha; exact has x hx⟩
  obtain ⟨as, rfl, has⟩ := this
  refine ⟨as, ys, h1, ?_, has, h2, h3⟩
  have := h4.len
  simpa using this.symm
theorem vector_eq {xs : List Int} (hx : Dr xs) (n : Nat) (hn : n ≤ 1000) (lo hi : Int) (hlh : lo ≤ hi) : ∃ as ys, f_u_law_vector (zs xs) [.int (n : Int), .int lo, .int hi] = some (.val (vec as), zs ys) ∧ as.length = n ∧ (∀ a ∈ as, lo ≤ a ∧ a ≤ hi) ∧ Dr ys ∧ ys.length ≤ xs.length := by
  unfold f_u_law_vector
  obtain ⟨as, ys, h1, h2, h3, h4, h5⟩ := vec_comp (ow := [4]) (b := bName 4) (it := DL.iRange1 (aCons (xVar 1) aNil)) (elt := x2 kAdd (xVar 2) (x2 kMod (xCB kInt (aCons (xCallI f_u_law_next (aCons (xVar 0) aNil)) aNil)) (x2 kAdd (x2 kSub (xVar 3) (xVar 2)) (xC (.int 1)))))
    (fun a => lo ≤ a ∧ a ≤ hi) [some (.val (.int (n : Int))), some (.val (.int lo)), some (.val (.int hi)), none] n hn hx (iRange1_nat (by simp) (by omega)) (by simp) (fun d ys hy => by
      obtain ⟨u, w, n1, a1, a2, a3, l1⟩ := next_ex hy
      have f1 := fmod_pos (a := u) (b := hi - lo + 1) (by omega)
      have f2 : ¬ hi - lo + 1 = 0 := by omega
      refine ⟨lo + u.fmod (hi - lo + 1), w, ?_, by omega, a3, l1⟩
      simp [n1, f2])
  refine ⟨as, ys, ?_, h2, h3, h4, h5⟩
  rw [runI_out]
  simp [-xComp_ap, b_u_law_vector, startI, startD, h1]
open HN
/-! ### the lists of the law -/
/-- a list of vectors, some of them combinations of at most four -/
theorem xComp_it {it : DEnv → Res (List D)} {ow : List Nat} {b : D → DEnv → Option DEnv} {t : DEnv → Res Bool} {elt : DX} {ρ ρ1 : DEnv} {ds : List D} (h : it ρ = .ok ds ρ1) : xComp it ow b t elt ρ = xComp (fun ρ => .ok ds ρ) ow b t elt ρ1 := by
  unfold xComp
  rw [h]
theorem vecs_comp {ow : List Nat} {b : D → DEnv → Option DEnv} {elt : DX} (q : Vec → Prop) (rest : List (Option SV)) (ds : List D) (hn : ds.length ≤ 1000) {xs : List Int} (hx : Dr xs)
    (ho : (ow.all fun i => !isOwn (some (.own true (.lst (zs xs))) :: rest)[i]?) = true)
    (h : ∀ d ys, Dr ys → ∃ a ys', cstep ow b tTrue elt d (some (.own true (.lst (zs ys))) :: rest) = some (some (vec a), some (.own true (.lst (zs ys'))) :: rest) ∧ q a ∧ Dr ys' ∧ ys'.length ≤ ys.length) :
    ∃ (as : List Vec) (ys : List Int), xComp (fun ρ => .ok ds ρ) ow b tTrue elt (some (.own true (.lst (zs xs))) :: rest) = .ok (.lst (as.map vec)) (some (.own true (.lst (zs ys))) :: rest) ∧ as.length = ds.length ∧ (∀ a ∈ as, q a) ∧ Dr ys ∧ ys.length ≤ xs.length := by
  obtain ⟨es, ρ', h1, ⟨ys, rfl, h2, h3⟩, h4⟩ := xComp_inv (it := fun ρ => .ok ds ρ) (ow := ow) (bind := b) (test := tTrue) (elt := elt) (fun ρ => ∃ ys, ρ = some (.own true (.lst (zs ys))) :: rest ∧ Dr ys ∧ ys.length ≤ xs.length) (fun _ z => ∃ a, z = vec a ∧ q a) rfl ho (by rw [sizeLine_eq]; omega) ⟨xs, rfl, hx, Nat.le_refl _⟩ (fun d _ ρ ⟨ys, e, g1, g2⟩ => by
    subst e
    obtain ⟨a, ys', k1, k2, k3, k4⟩ := h d ys g1
    exact ⟨_, _, k1, ⟨ys', rfl, k3, by omega⟩, a, rfl, k2⟩)
  have : ∃ as : List Vec, es = as.map vec ∧ ∀ a ∈ as, q a := by
    have hr := All2.right (Q := fun z => ∃ a, z = vec a ∧ q a) h4 fun _ _ h => h
    clear h4 h1
    induction es with
    | nil => exact ⟨[], rfl, fun a h => by simp at h⟩
    | cons z es ih =>
      obtain ⟨a, rfl, ha⟩ := hr z List.mem_cons_self
      obtain ⟨as, rfl, has⟩ := ih fun y hy => hr y (List.mem_cons_of_mem _ hy)
      exact ⟨a :: as, rfl, fun x hx => by rcases List.mem_cons.mp hx with rfl | hx; exact ha; exact has x hx⟩
  obtain ⟨as, rfl, has⟩ := this
  refine ⟨as, ys, h1, ?_, has, h2, h3⟩
  have := h4.len
  simpa using this.symm
theorem comb_range {n : Nat} {v o : Vec} {f : Int} (hv : v.length = n) (ho : o.length = n) : (List.range n).map (fun k => ge v k + f * ge o k) = lessV v (-f) o := by
  rw [← less_range (by rw [hv, ho]), hv]
  refine List.map_congr_left fun k _ => ?_
  rw [Int.neg_mul]; omega
theorem fmod_len {u : Int} {m : Nat} (hm : 0 < m) : ∃ j : Nat, j < m ∧ u.fmod (m : Int) = (j : Int) := by
  have h := fmod_pos (a := u) (b := (m : Int)) (by omega)
  exact ⟨(u.fmod (m : Int)).toNat, by omega, by omega⟩
end K03

namespace K03
open L2 PySem PySem.Spec PyProof.Rows DL
open HN
/-! ### the way down with its factors -/
def facs : List Vec → Vec → List Int
  | [], _ => []
  | s :: S, v => (ge v (stepN s)).fdiv (ge s (stepN s)) :: facs S (inStep v s)
theorem facs_len : ∀ (S : List Vec) (v : Vec), (facs S v).length = S.length
  | [], _ => rfl
  | s :: S, v => by rw [facs, List.length_cons, List.length_cons, facs_len S]
def isZ (v : Vec) : Bool := v.all fun x => decide (x = 0)
theorem isZ_t {v : Vec} (h : isZ v = true) : ¬ ∃ x, x ∈ v ∧ ¬ x = 0 := fun ⟨x, hx, q⟩ => q (by simpa using List.all_eq_true.mp h x hx)
theorem isZ_f {v : Vec} (h : isZ v = false) : ∃ x, x ∈ v ∧ ¬ x = 0 := by
  have h2 : ¬ v.all (fun x => decide (x = 0)) = true := by
    intro z
    unfold isZ at h; rw [z] at h; cases h
  obtain ⟨x, hx⟩ := Classical.not_forall.mp (fun z => h2 (List.all_eq_true.mpr z))
  obtain ⟨a, b⟩ := Classical.not_imp.mp hx
  exact ⟨x, a, by simpa using b⟩
theorem isZ_zero {n : Nat} : isZ (zeroV n) = true := List.all_eq_true.mpr fun x hx => by unfold zeroV at hx; simpa using (List.mem_replicate.mp hx).2
theorem isZ_at {v : Vec} {k : Nat} (h : ge v k ≠ 0) : isZ v = false := by
  cases q : isZ v with
  | false => rfl
  | true =>
    have hk : k < v.length := by
      by_cases z : k < v.length
      · exact z
      · exact absurd (ge_ge (by omega)) h
    exact absurd (by simpa using List.all_eq_true.mp q (ge v k) (by rw [ge_lt hk]; exact List.getElem_mem _)) h
def inD (S : List Vec) (v : Vec) : D := if isZ (S.foldl inStep v) = true then .tuple (zs (facs S v)) else .none
theorem nLoop {n X : Nat} (hn : n ≤ 1000) (hX : X ≤ 8900) {c : D} : ∀ {S : List Vec} {v : Vec} {A : Nat} {fs : List Int} {j3 j4 j5 : Option SV}, v.length = n → (∀ s ∈ S, Step n s (stepN s) ∧ Sz s (2 ^ X)) → Sz v (2 ^ A) → A + S.length * (X + 2) ≤ 400000 → fs.length + S.length ≤ 1000 → VS j3 → VS j4 → VS j5 →
    ∃ j3' j4' j5', forD (bName 3) nB (S.map vec) (rN c v fs j3 j4 j5) = .nx (rN c (S.foldl inStep v) (fs ++ facs S v) j3' j4' j5') ∧ (S.foldl inStep v).length = n ∧ Sz (S.foldl inStep v) (2 ^ (A + S.length * (X + 2)))
  | [], v, A, fs, j3, j4, j5, lv, _, sv, _, hf, _, _, _ => ⟨j3, j4, j5, by rw [facs, List.append_nil]; rfl, lv, by simpa using sv⟩
  | s :: S, v, A, fs, j3, j4, j5, lv, hS, sv, hA, hf, h3, h4, h5 => by
    obtain ⟨st, ss⟩ := hS s List.mem_cons_self
    have hp := st.pos
    simp only [List.length_cons] at hA hf
    have ks : (S.length + 1) * (X + 2) = S.length * (X + 2) + (X + 2) := by rw [Nat.add_mul, Nat.one_mul]
    have f1 := fdiv_abs (a := ge v (stepN s)) hp
    have f2 := sv (stepN s)
    have f3 : ((ge v (stepN s)).fdiv (ge s (stepN s))).natAbs ≤ 2 ^ (A + 1) := by
      rw [Nat.pow_succ]
      have := Nat.pow_pos (a := 2) (n := A) (by decide)
      omega
    obtain ⟨a4, a5, b4, b5, e⟩ := nTurn (c := c) hn lv st.len st.lt (divOk_sz (by omega) (ss _) hX) (fun x hx => mulOk_sz f3 (ss.mem hx) (by omega)) (fs := fs) (by omega) h3 h4 h5
    have l1 : (inStep v s).length = n := by unfold inStep; rw [len_less (by rw [lv, st.len]), lv]
    have s1 : Sz (inStep v s) (2 ^ (A + X + 2)) := sz_red (p := stepN s) (by rw [lv, st.len]) hp sv ss
    obtain ⟨c3, c4, c5, e2, k, k2⟩ := nLoop hn hX (c := c) (v := inStep v s) (A := A + X + 2) (fs := fs ++ [(ge v (stepN s)).fdiv (ge s (stepN s))]) (j3 := some (.val (vec s))) l1 (fun t ht => hS t (List.mem_cons_of_mem _ ht)) s1 (by omega) (by simp; omega) .val b4 b5
    refine ⟨c3, c4, c5, ?_, k, ?_⟩
    · rw [List.map_cons, forD_nx e, List.foldl_cons, facs]
      rw [List.append_assoc] at e2
      exact e2
    · rw [List.foldl_cons, List.length_cons]
      exact k2.mono (pow_le (by omega))
theorem law_in_eq {n X A : Nat} (hn : n ≤ 1000) (hX : X ≤ 8900) {S : List Vec} {v : Vec} (hS : ∀ s ∈ S, Step n s (stepN s) ∧ Sz s (2 ^ X)) (lv : v.length = n) (sv : Sz v (2 ^ A)) (hA : A ≤ 20000) (hl : S.length ≤ 40) : f_u_law_in [mtx S, vec v] = .ok (.val (inD S v)) := by
  unfold f_u_law_in
  rw [runF_out]
  have b := Nat.mul_le_mul hl (Nat.add_le_add_right hX 2)
  obtain ⟨j3, j4, j5, e, k, _⟩ := nLoop hn hX (c := mtx S) (S := S) (v := v) (A := A) (fs := []) (j3 := none) (j4 := none) (j5 := none) lv hS sv (by omega) (by simp; omega) (.inl rfl) (.inl rfl) (.inl rfl)
  have eb : b_u_law_in = gSeq (gSetL 2 (xLst (aNil))) (gSeq (gFor (iSeq (xVar 0)) (bName 3) nB) (gRet (xIf (xTr (xCB kAny (aCons (ofL (xComp (iSeq (xVar 1)) [7] (bName 7) (tTrue) (x2 (kB kNe) (xVar 7) (xC (.int 0))))) (aNil)))) (xC .none) (xCB kTuple (aCons (xVar 2) (aNil)))))) := rfl
  simp only [rN, zs, List.map_nil, List.nil_append] at e
  have hl0 : (S.foldl inStep v).length ≤ 16777216 := by omega
  unfold inD
  cases q : isZ (S.foldl inStep v) with
  | true =>
    have h0 := isZ_t q
    simp [eb, startD, e]
    rw [if_pos hl0, if_neg h0]
  | false =>
    have h0 := isZ_f q
    simp [eb, startD, e]
    rw [if_pos hl0, if_pos h0]
abbrev rCi (c : D) (v : Vec) (fs : List Int) (j3 j4 j5 : Option SV) : DEnv := [some (.val c), some (.val (vec v)), some (.own false (.lst (zs fs))), j3, j4, j5, none]
def crB : DSt := gSeq (gSet 4 (xCall f_step_of (aCons (xVar 3) (aNil)))) (gSeq (gSet 5 (x2 kDiv (x2 kIx (xVar 1) (xVar 4)) (x2 kIx (xVar 3) (xVar 4)))) (gSeq (gExpr (xM 2 mAppend (aCons (xVar 5) (aNil)))) (gSeq (gSet 1 (xCall f_less (aCons (xVar 1) (aCons (xVar 5) (aCons (xVar 3) (aNil)))))) (gIf (xt2 kNe (x2 kIx (xVar 1) (xVar 4)) (xC (.int 0))) (gRet (xC .none)) (gNext)))))
theorem crTurn {n : Nat} (hn : n ≤ 1000) {c : D} {v one : Vec} (lv : v.length = n) (lo : one.length = n) (hs : stepN one < n) (hd : divOk (ge one (stepN one)) = true) (hm : ∀ x ∈ one, mulOk ((ge v (stepN one)).fdiv (ge one (stepN one))) x = true) {fs : List Int} (hf : fs.length ≤ 1000) {j3 j4 j5 : Option SV} (h3 : VS j3) (h4 : VS j4) (h5 : VS j5) :
    (ge (inStep v one) (stepN one) = 0 → ∃ j4' j5', VS j4' ∧ VS j5' ∧ optF (bName 3 (vec one) (rCi c v fs j3 j4 j5)) crB = .nx (rCi c (inStep v one) (fs ++ [(ge v (stepN one)).fdiv (ge one (stepN one))]) (some (.val (vec one))) j4' j5')) ∧
    (ge (inStep v one) (stepN one) ≠ 0 → ∃ ρ, optF (bName 3 (vec one) (rCi c v fs j3 j4 j5)) crB = .rt (.val .none) ρ) := by
  have hL := step_of_eq (v := one) (by omega)
  have hq := less_eq (v := v) (o := one) (f := (ge v (stepN one)).fdiv (ge one (stepN one))) (by omega) hm
  have g1 := gx (v := one) (p := stepN one) (by omega)
  have g2 := gx (v := v) (p := stepN one) (by omega)
  have l1 : (inStep v one).length = n := by unfold inStep; rw [len_less (by omega), lv]
  have g3 := gx (v := inStep v one) (p := stepN one) (by omega)
  have hf' : fs.length < 16777216 := by omega
  have hq' : f_less [vec v, .int ((ge v (stepN one)).fdiv (ge one (stepN one))), vec one] = .ok (.val (vec (inStep v one))) := hq
  refine ⟨fun z => ⟨some (.val (.int (stepN one : Int))), some (.val (.int ((ge v (stepN one)).fdiv (ge one (stepN one))))), .val, .val, ?_⟩, fun z => ?_⟩
  · rcases h3 with rfl | ⟨d3, rfl⟩ <;> rcases h4 with rfl | ⟨d4, rfl⟩ <;> rcases h5 with rfl | ⟨d5, rfl⟩ <;>
    · simp [crB, hL, g1, g2, hd, hf', hq', g3, z]
  · rcases h3 with rfl | ⟨d3, rfl⟩ <;> rcases h4 with rfl | ⟨d4, rfl⟩ <;> rcases h5 with rfl | ⟨d5, rfl⟩ <;>
    · simp [crB, hL, g1, g2, hd, hf', hq', g3, z]
theorem keep_at {a n : Nat} : ∀ {S : List Vec} {v : Vec}, (∀ t ∈ S, t.length = n ∧ ge t a = 0) → v.length = n → ge (S.foldl inStep v) a = ge v a
  | [], _, _, _ => rfl
  | s :: S, v, h, lv => by
    obtain ⟨l, z⟩ := h s List.mem_cons_self
    have l1 : (inStep v s).length = n := by unfold inStep; rw [len_less (by omega), lv]
    rw [List.foldl_cons, keep_at (fun t ht => h t (List.mem_cons_of_mem _ ht)) l1]
    unfold inStep
    rw [ge_less (by omega), z, Int.mul_zero]; omega
theorem crLoop {n X : Nat} (hn : n ≤ 1000) (hX : X ≤ 8900) {c : D} : ∀ {S : List Vec} {v : Vec} {A : Nat} {fs : List Int} {j3 j4 j5 : Option SV}, v.length = n → Stairs n S → (∀ s ∈ S, Sz s (2 ^ X)) → Sz v (2 ^ A) → A + S.length * (X + 2) ≤ 400000 → fs.length + S.length ≤ 1000 → VS j3 → VS j4 → VS j5 →
    (∃ j3' j4' j5', forD (bName 3) crB (S.map vec) (rCi c v fs j3 j4 j5) = .nx (rCi c (S.foldl inStep v) (fs ++ facs S v) j3' j4' j5') ∧ (S.foldl inStep v).length = n) ∨ (isZ (S.foldl inStep v) = false ∧ ∃ ρ, forD (bName 3) crB (S.map vec) (rCi c v fs j3 j4 j5) = .rt (.val .none) ρ)
  | [], v, A, fs, j3, j4, j5, lv, _, _, sv, _, hf, _, _, _ => .inl ⟨j3, j4, j5, by rw [facs, List.append_nil]; rfl, lv⟩
  | s :: S, v, A, fs, j3, j4, j5, lv, hS, hz, sv, hA, hf, h3, h4, h5 => by
    obtain ⟨p1, p2⟩ := stairs_pw.mp hS
    have st := p1 s List.mem_cons_self
    have ss := hz s List.mem_cons_self
    have hp := st.pos
    simp only [List.length_cons] at hA hf
    have ks : (S.length + 1) * (X + 2) = S.length * (X + 2) + (X + 2) := by rw [Nat.add_mul, Nat.one_mul]
    have f1 := fdiv_abs (a := ge v (stepN s)) hp
    have f2 := sv (stepN s)
    have f3 : ((ge v (stepN s)).fdiv (ge s (stepN s))).natAbs ≤ 2 ^ (A + 1) := by
      rw [Nat.pow_succ]
      have := Nat.pow_pos (a := 2) (n := A) (by decide)
      omega
    obtain ⟨t1, t2⟩ := crTurn (c := c) hn lv st.len st.lt (divOk_sz (by omega) (ss _) hX) (fun x hx => mulOk_sz f3 (ss.mem hx) (by omega)) (fs := fs) (by omega) h3 h4 h5
    have l1 : (inStep v s).length = n := by unfold inStep; rw [len_less (by rw [lv, st.len]), lv]
    have s1 : Sz (inStep v s) (2 ^ (A + X + 2)) := sz_red (p := stepN s) (by rw [lv, st.len]) hp sv ss
    have hS2 : Stairs n S ∧ ∀ t ∈ S, t.length = n ∧ ge t (stepN s) = 0 := by
      cases hS with
      | @cons _ _ a hs hz hr h =>
        have := step_stepN hs
        exact ⟨h, fun t ht => ⟨(hz t ht).1, (hz t ht).2 _ (by omega)⟩⟩
    rw [List.map_cons, List.foldl_cons]
    by_cases z : ge (inStep v s) (stepN s) = 0
    · obtain ⟨a4, a5, b4, b5, e⟩ := t1 z
      rw [forD_nx e, facs]
      rcases crLoop hn hX (c := c) (v := inStep v s) (A := A + X + 2) (fs := fs ++ [(ge v (stepN s)).fdiv (ge s (stepN s))]) (j3 := some (.val (vec s))) l1 hS2.1 (fun t ht => hz t (List.mem_cons_of_mem _ ht)) s1 (by omega) (by simp; omega) .val b4 b5 with ⟨c3, c4, c5, e2, k⟩ | ⟨q, ρ, e2⟩
      · refine .inl ⟨c3, c4, c5, ?_, k⟩
        rw [List.append_assoc] at e2
        exact e2
      · exact .inr ⟨q, ρ, e2⟩
    · obtain ⟨ρ, e⟩ := t2 z
      refine .inr ⟨isZ_at (k := stepN s) ?_, ρ, forD_rt e⟩
      rw [keep_at hS2.2 l1]; exact z
theorem coordinates_in_eq {n X A : Nat} (hn : n ≤ 1000) (hX : X ≤ 8900) {S : List Vec} {v : Vec} (hS : Stairs n S) (sS : ∀ s ∈ S, Sz s (2 ^ X)) (lv : v.length = n) (sv : Sz v (2 ^ A)) (hA : A ≤ 20000) (hl : S.length ≤ 40) {c : D} (hc : c = lvs S ∨ c = mtx S) : f_coordinates_in [c, vec v] = .ok (.val (inD S v)) := by
  unfold f_coordinates_in
  rw [runF_out]
  have b := Nat.mul_le_mul hl (Nat.add_le_add_right hX 2)
  have eb : b_coordinates_in = gSeq (gSetL 2 (xLst (aNil))) (gSeq (gFor (iSeq (xVar 0)) (bName 3) crB) (gRet (xIf (xTr (xCB kAny (aCons (ofL (xComp (iSeq (xVar 1)) [6] (bName 6) (tTrue) (x2 (kB kNe) (xVar 6) (xC (.int 0))))) (aNil)))) (xC .none) (xCB kTuple (aCons (xVar 2) (aNil)))))) := rfl
  unfold inD
  rcases crLoop hn hX (c := c) (S := S) (v := v) (A := A) (fs := []) (j3 := none) (j4 := none) (j5 := none) lv hS sS sv (by omega) (by simp; omega) (.inl rfl) (.inl rfl) (.inl rfl) with ⟨j3, j4, j5, e, k⟩ | ⟨q, ρ, e⟩
  · simp only [rCi, zs, List.map_nil, List.nil_append] at e
    have hl0 : (S.foldl inStep v).length ≤ 16777216 := by omega
    cases q : isZ (S.foldl inStep v) with
    | true =>
      have h0 := isZ_t q
      rcases hc with rfl | rfl <;>
      · simp [eb, startD, e]
        rw [if_pos hl0, if_neg h0]
    | false =>
      have h0 := isZ_f q
      rcases hc with rfl | rfl <;>
      · simp [eb, startD, e]
        rw [if_pos hl0, if_pos h0]
  · simp only [rCi, zs, List.map_nil, List.nil_append] at e
    rw [q]
    rcases hc with rfl | rfl <;> simp [eb, startD, e]
theorem coordinates_eq {n X A : Nat} (h1 : 1 ≤ n) (hn : n ≤ 6) (hX : X ≤ 8900) {S : List Vec} {v : Vec} (hS : Stairs n S) (sS : ∀ s ∈ S, Sz s (2 ^ X)) (lv : v.length = n) (sv : Sz v (2 ^ A)) (hA : A ≤ 20000) (hl : S.length ≤ 40) : f_coordinates [lvs S, vec v] = .ok (.val (inD S v)) := by
  unfold f_coordinates
  rw [runF_out]
  have e1 := is_stairs_eq hn hS.len (fun _ => h1) hl (sep_main hn hX hS.len (stairs_apart hS) sS hl)
  rw [chkS_iff hS.len, (isSt_iff hS.len).mpr hS] at e1
  have e2 := coordinates_in_eq (by omega) hX hS sS lv sv hA hl (.inl rfl)
  have e3 := size_of_eq (vs := S) (fun s hs => by rw [hS.len s hs]; omega)
  have k1 : (1 : Int) ≤ (n : Int) := by omega
  have k2 : (n : Int) ≤ 6 := by omega
  have k3 : n ≤ 16777216 := by omega
  cases S with
  | nil => simp [b_coordinates, startD, e1, e2, lv, k1, k2, k3]
  | cons s S =>
    have ls : s.length = n := hS.len s List.mem_cons_self
    simp only [sizeN] at e3
    rw [ls] at e3
    simp [b_coordinates, startD, e1, e2, e3, lv, k1, k2, k3]
end K03

namespace K03
open L2 PySem PySem.Spec PyProof.Rows DL
open HN
/-! ### tuples whose products with some are 0: what is built -/
def chkM (vs : List Vec) (m : Nat) : Bool := decide (vs.length ≤ 40) && sameL vs && vs.all fun v => decide (v.length = m)
theorem check_many_eq {vs : List (List Int)} {m : Nat} (hl : ∀ v ∈ vs, v.length ≤ 1000) (hn : vs.length ≤ 900) : f_check_vectors [lvs vs, .tuple [.int (m : Int)]] = if chkM vs m = true then .ok (.val .none) else .err ⟨"BadNumber", none⟩ := by
  unfold f_check_vectors
  rw [runF_out]
  have hk := lens_loop (lvs vs) (.tuple [.int (m : Int)]) vs [] hl (by simp; omega)
  have hl2 : vs.length ≤ 16777216 := by omega
  simp [b_check_vectors, startD, hk]
  rw [compX_eq (g := fun v : List Int => some (.bool (decide (v.length = m)))) (fun v hv => by
    have := hl v hv
    simp [kB, kIn2, intsOf]; omega) (by rw [sizeLine_eq]; omega)]
  rw [List.filterMap_eq_map']
  simp only [chkM, sameL]
  by_cases h1 : vs.length ≤ 40
  · have h1' : ¬ (40 : Int) < vs.length := by omega
    by_cases h2 : (vs.foldl lenK1 []).length ≤ 1
    · have h2' : ¬ (1 : Int) < (vs.foldl lenK1 []).length := by omega
      by_cases h3 : (vs.all fun v => decide (v.length = m)) = true
      · simp [h1, h1', h2, h2', h3]
      · simp [h1, h1', h2, h2', h3]
    · have h2' : (1 : Int) < (vs.foldl lenK1 []).length := by omega
      simp [h1, h1', h2, h2']
  · have h1' : (40 : Int) < vs.length := by omega
    simp [h1, h1']
def unitV (m at' : Nat) : Vec := (List.range m).map fun k => if k = at' then 1 else 0
def longV (vs : List Vec) (m at' : Nat) : Vec := vs.map (fun v => ge v at') ++ unitV m at'
def longL (vs : List Vec) (m : Nat) : List Vec := (List.range m).map (longV vs m)
theorem unit_len {m at' : Nat} : (unitV m at').length = m := by simp [unitV]
theorem long_len {vs : List Vec} {m at' : Nat} : (longV vs m at').length = vs.length + m := by simp [longV, unit_len]
theorem longL_len {vs : List Vec} {m : Nat} : Len (vs.length + m) (longL vs m) := fun v hv => by
  obtain ⟨k, _, rfl⟩ := List.mem_map.mp hv
  exact long_len
theorem cut_from {ds : List D} {w : Nat} : DL.cutD ds (some (w : Int)) none = ds.drop w := by
  unfold DL.cutD
  have h : ¬ (w : Int) < 0 := by omega
  simp only [HT.sIx, h, if_false, Int.toNat_natCast]
  rw [List.take_of_length_le (by rw [List.length_drop]; omega)]
  by_cases z : w ≤ ds.length
  · rw [Nat.min_eq_left z]
  · rw [Nat.min_eq_right (by omega), List.drop_length, List.drop_eq_nil_of_le (by omega)]
theorem kCut_from {ds : List D} {w : Nat} : kCut (.tuple ds) (some (w : Int)) none = some (.tuple (ds.drop w)) := by
  show some (PyData.tuple (DL.cutD ds (some (w : Int)) none)) = _
  rw [cut_from]
abbrev rQ (vs : List Vec) (m : Nat) (ls : List Vec) (j4 j5 : Option SV) : DEnv := [some (.val (lvs vs)), some (.val (.int (m : Int))), some (.val (.int (vs.length : Int))), some (.own false (.lst (ls.map vec))), j4, j5, none, none, none, none]
def qB : DSt := gSeq (gSet 5 (xCB kTuple (aCons (ofL (xComp (iRange1 (aCons (xVar 1) (aNil))) [7] (bName 7) (tTrue) (xCB kInt (aCons (x2 (kB kEq) (xVar 7) (xVar 4)) (aNil))))) (aNil)))) (gExpr (xM 3 mAppend (aCons (xTup (aStar (ofL (xComp (iSeq (xVar 0)) [8] (bName 8) (tTrue) (x2 kIx (xVar 8) (xVar 4)))) (aStar (xVar 5) (aNil)))) (aNil))))
@[simp] theorem kInt_bool {b : Bool} : kInt [.bool b] = some (.int (if b = true then 1 else 0)) := (Eq.refl _).trans (Eq.refl _)
theorem keeps_one (ds : List D) {ρ : DEnv} : keeps (ds.map EV.val) ρ = some (ds, ρ) := by
  have := keeps_vals (vs := []) (ρ := ρ) (ds := ds)
  rw [List.append_nil] at this
  rw [this]
  show (some (([] : List D), ρ)).map _ = _
  simp
theorem qTurn {vs : List Vec} {m at' : Nat} (hm : m ≤ 6) (hl : Len m vs) (hc : vs.length ≤ 40) (ha : at' < m) {ls : List Vec} (hls : ls.length ≤ 100) {j4 j5 : Option SV} (h4 : VS j4) (h5 : VS j5) :
    ∃ j5', VS j5' ∧ optF (bName 4 (.int (at' : Int)) (rQ vs m ls j4 j5)) qB = .nx (rQ vs m (ls ++ [longV vs m at']) (some (.val (.int (at' : Int)))) j5') := by
  refine ⟨some (.val (vec (unitV m at'))), .val, ?_⟩
  have env : bName 4 (.int (at' : Int)) (rQ vs m ls j4 j5) = some (rQ vs m ls (some (.val (.int (at' : Int)))) j5) := by
    have := h4.io
    simp [-isIo_some, this]
  rw [env, optF_some]
  have k1 : (m : Int) < 4611686018427387904 := by omega
  have k2 : -4611686018427387904 ≤ (m : Int) := by omega
  have c1 : xComp (iRange1 (aCons (xVar 1) (aNil))) [7] (bName 7) (tTrue) (xCB kInt (aCons (x2 (kB kEq) (xVar 7) (xVar 4)) (aNil))) (rQ vs m ls (some (.val (.int (at' : Int)))) j5) = .ok (.lst ((unitV m at').map PyData.int)) (rQ vs m ls (some (.val (.int (at' : Int)))) j5) := by
    have k3 : m ≤ 16777216 := by omega
    simp [k1, k2, k3, unitV]
    intro k _
    by_cases z : k = at'
    · simp [z]
    · have : ¬ (k : Int) = (at' : Int) := by omega
      simp [z, this]
  have t1 : gSet 5 (xCB kTuple (aCons (ofL (xComp (iRange1 (aCons (xVar 1) (aNil))) [7] (bName 7) (tTrue) (xCB kInt (aCons (x2 (kB kEq) (xVar 7) (xVar 4)) (aNil))))) (aNil))) (rQ vs m ls (some (.val (.int (at' : Int)))) j5) = .nx (rQ vs m ls (some (.val (.int (at' : Int)))) (some (.val (vec (unitV m at'))))) := by
    have := h5.io
    simp only [rQ] at c1
    simp [-xComp_ap, -isIo_some, c1, this]
  have c2 : xComp (iSeq (xVar 0)) [8] (bName 8) (tTrue) (x2 kIx (xVar 8) (xVar 4)) (rQ vs m ls (some (.val (.int (at' : Int)))) (some (.val (vec (unitV m at'))))) = .ok (.lst ((vs.map fun v => ge v at').map PyData.int)) (rQ vs m ls (some (.val (.int (at' : Int)))) (some (.val (vec (unitV m at'))))) := by
    simp
    rw [compX_eq (g := fun v : Vec => some (.int (ge v at'))) (fun v hv => by
      have g := gx (v := v) (p := at') (by rw [hl v hv]; exact ha)
      simp [g]) (by rw [sizeLine_eq]; omega), List.filterMap_eq_map']
    rfl
  have e : ((vs.map fun v => ge v at').map PyData.int).map EV.val ++ (((unitV m at').map PyData.int).map EV.val ++ []) = ((longV vs m at').map PyData.int).map EV.val := by
    rw [List.append_nil, longV, List.map_append, List.map_append]
  have ll := long_len (vs := vs) (m := m) (at' := at')
  have t2 : gExpr (xM 3 mAppend (aCons (xTup (aStar (ofL (xComp (iSeq (xVar 0)) [8] (bName 8) (tTrue) (x2 kIx (xVar 8) (xVar 4)))) (aStar (xVar 5) (aNil)))) (aNil))) (rQ vs m ls (some (.val (.int (at' : Int)))) (some (.val (vec (unitV m at'))))) = .nx (rQ vs m (ls ++ [longV vs m at']) (some (.val (.int (at' : Int)))) (some (.val (vec (unitV m at'))))) := by
    have tp : xTup (aStar (ofL (xComp (iSeq (xVar 0)) [8] (bName 8) (tTrue) (x2 kIx (xVar 8) (xVar 4)))) (aStar (xVar 5) (aNil))) (rQ vs m ls (some (.val (.int (at' : Int)))) (some (.val (vec (unitV m at'))))) = .ok (.val (vec (longV vs m at'))) (rQ vs m ls (some (.val (.int (at' : Int)))) (some (.val (vec (unitV m at'))))) := by
      have ga : aStar (ofL (xComp (iSeq (xVar 0)) [8] (bName 8) (tTrue) (x2 kIx (xVar 8) (xVar 4)))) (aStar (xVar 5) (aNil)) (rQ vs m ls (some (.val (.int (at' : Int)))) (some (.val (vec (unitV m at'))))) = .ok (((vs.map fun v => ge v at').map PyData.int).map EV.val ++ (((unitV m at').map PyData.int).map EV.val ++ [])) (rQ vs m ls (some (.val (.int (at' : Int)))) (some (.val (vec (unitV m at'))))) := by
        simp only [rQ] at c2
        simp [-xComp_ap, c2]
      rw [e] at ga
      have l2 : ((longV vs m at').map PyData.int).length ≤ sizeLine := by rw [sizeLine_eq, List.length_map, ll]; omega
      unfold xTup
      rw [ga, bindR_ok, keeps_one, optR_some, if_pos l2]
    have l3 : ls.length < 16777216 := by omega
    simp only [rQ] at tp
    simp [-xTup_ap, tp, l3]
  unfold qB
  rw [gSeq_ap, t1, seqF_nx, t2]
theorem qLoop {vs : List Vec} {m : Nat} (hm : m ≤ 6) (hl : Len m vs) (hc : vs.length ≤ 40) : ∀ (k a : Nat) {ls : List Vec} {j4 j5 : Option SV}, a + k = m → ls.length ≤ a → VS j4 → VS j5 →
    ∃ j4' j5', VS j4' ∧ VS j5' ∧ forD (bName 4) qB ((List.range' a k).map fun (k : Nat) => PyData.int (k : Int)) (rQ vs m ls j4 j5) = .nx (rQ vs m (ls ++ (List.range' a k).map (longV vs m)) j4' j5')
  | 0, a, ls, j4, j5, _, _, h4, h5 => ⟨j4, j5, h4, h5, by simp only [List.range'_zero, List.map_nil, List.append_nil]; rfl⟩
  | k + 1, a, ls, j4, j5, e, hls, h4, h5 => by
    obtain ⟨b5, v5, t⟩ := qTurn hm hl hc (at' := a) (by omega) (ls := ls) (by omega) h4 h5
    obtain ⟨c4, c5, w4, w5, t2⟩ := qLoop hm hl hc k (a + 1) (ls := ls ++ [longV vs m a]) (by omega) (by simp; omega) .val v5
    refine ⟨c4, c5, w4, w5, ?_⟩
    rw [List.range'_succ, List.map_cons, forD_nx t, t2, List.map_cons, List.append_assoc]
    rfl
/-- the rows beyond the width, cut -/
def kern (w : Nat) (R : List Vec) : List Vec := (R.filter fun r => decide (w ≤ stepN r)).map fun r => r.drop w
theorem orthogonal_to_eq {vs : List Vec} {m : Nat} (hm : m ≤ 6) (hl : Len m vs) (hc : vs.length ≤ 40) (h1 : SG (vs.length + m) ([], longL vs m) (List.range (vs.length + m))) (h2 : SG m ([], kern vs.length (stairsV (longL vs m) (vs.length + m))) (List.range m)) (h3 : (stairsV (longL vs m) (vs.length + m)).length ≤ 1000) :
    f_orthogonal_to [lvs vs, .int (m : Int)] = .ok (.val (mtx (stairsV (kern vs.length (stairsV (longL vs m) (vs.length + m))) m))) := by
  unfold f_orthogonal_to
  rw [runF_out]
  have s1 := stairs_of_eq (n := vs.length + m) (by omega) h1
  have s2 := stairs_of_eq (n := m) (by omega) h2
  obtain ⟨o1, _, _⟩ := stairs_ok (longL_len (vs := vs) (m := m))
  generalize hR : stairsV (longL vs m) (vs.length + m) = R at *
  obtain ⟨j4, j5, v4, v5, e⟩ := qLoop hm hl hc m 0 (ls := []) (j4 := none) (j5 := none) (by omega) (by simp) (.inl rfl) (.inl rfl)
  rw [← List.range_eq_range', List.nil_append] at e
  have eb : b_orthogonal_to = gSeq (gSet 2 (xCB kLen (aCons (xVar 0) (aNil)))) (gSeq (gSetL 3 (xLst (aNil))) (gSeq (gFor (iRange1 (aCons (xVar 1) (aNil))) (bName 4) qB) (gSeq (gSet 6 (xCall f_stairs_of (aCons (xVar 3) (aCons (x2 kAdd (xVar 2) (xVar 1)) (aNil))))) (gRet (xCall f_stairs_of (aCons (ofL (xComp (iSeq (xVar 6)) [9] (bName 9) (xt2 kGe (xCall f_step_of (aCons (xVar 9) (aNil))) (xVar 2)) (xCut (xVar 9) (pSome (xVar 2)) (pNo)))) (aCons (xVar 1) (aNil)))))))) := rfl
  have k1 : (m : Int) < 4611686018427387904 := by omega
  have k2 : -4611686018427387904 ≤ (m : Int) := by omega
  have k3 : vs.length ≤ 16777216 := by omega
  have t3 : gFor (iRange1 (aCons (xVar 1) (aNil))) (bName 4) qB (rQ vs m [] none none) = .nx (rQ vs m (longL vs m) j4 j5) := by
    rw [gFor_ap, iRange1_nat (n := m) (ρ1 := rQ vs m [] none none) (by simp) (by omega), bindF_ok, e]
    rfl
  have s1' : f_stairs_of [.list ((longL vs m).map vec), .int ((vs.length : Int) + (m : Int))] = .ok (.val (mtx R)) := by
    rw [← s1, Int.natCast_add]
  have t4 : gSet 6 (xCall f_stairs_of (aCons (xVar 3) (aCons (x2 kAdd (xVar 2) (xVar 1)) (aNil)))) (rQ vs m (longL vs m) j4 j5) = .nx [some (.val (lvs vs)), some (.val (.int (m : Int))), some (.val (.int (vs.length : Int))), some (.val (lvs (longL vs m))), j4, j5, some (.val (mtx R)), none, none, none] := by
    simp [s1']
  have c5 : xComp (iSeq (xVar 6)) [9] (bName 9) (xt2 kGe (xCall f_step_of (aCons (xVar 9) (aNil))) (xVar 2)) (xCut (xVar 9) (pSome (xVar 2)) (pNo)) [some (.val (lvs vs)), some (.val (.int (m : Int))), some (.val (.int (vs.length : Int))), some (.val (lvs (longL vs m))), j4, j5, some (.val (mtx R)), none, none, none] = .ok (.lst ((kern vs.length R).map vec)) [some (.val (lvs vs)), some (.val (.int (m : Int))), some (.val (.int (vs.length : Int))), some (.val (lvs (longL vs m))), j4, j5, some (.val (mtx R)), none, none, none] := by
    simp
    rw [compX_eq (g := fun r : Vec => if decide (vs.length ≤ stepN r) = true then some (vec (r.drop vs.length)) else none) (fun r hr => by
      have e := step_of_eq (v := r) (by rw [o1.len r hr]; omega)
      have cf := kCut_from (ds := r.map PyData.int) (w := vs.length)
      by_cases z : vs.length ≤ stepN r
      · simp [e, z, cf]
      · simp [e, z]) (by rw [sizeLine_eq]; omega), fm_filterV, kern, List.map_map]
    rfl
  have eK : List.map vec (kern vs.length R) = List.map vec (kern vs.length R) := rfl
  show outF (b_orthogonal_to [some (.val (lvs vs)), some (.val (.int (m : Int))), none, none, none, none, none, none, none, none]) = _
  have t1 : gSet 2 (xCB kLen (aCons (xVar 0) (aNil))) [some (.val (lvs vs)), some (.val (.int (m : Int))), none, none, none, none, none, none, none, none] = .nx [some (.val (lvs vs)), some (.val (.int (m : Int))), some (.val (.int (vs.length : Int))), none, none, none, none, none, none, none] := by simp [k3]
  have t2 : gSetL 3 (xLst (aNil)) [some (.val (lvs vs)), some (.val (.int (m : Int))), some (.val (.int (vs.length : Int))), none, none, none, none, none, none, none] = .nx (rQ vs m [] none none) := by simp
  rw [eb, gSeq_ap, t1, seqF_nx, gSeq_ap, t2, seqF_nx, gSeq_ap, t3, seqF_nx, gSeq_ap, t4, seqF_nx]
  simp [-xComp_ap, c5, s2]
theorem orthogonal_eq {vs : List Vec} {m : Nat} (hm1 : 1 ≤ m) (hm : m ≤ 6) (hl : Len m vs) (hc : vs.length ≤ 40) {res : D} (h : f_orthogonal_to [lvs vs, .int (m : Int)] = .ok (.val res)) : f_orthogonal [lvs vs, .int (m : Int)] = .ok (.val res) := by
  unfold f_orthogonal
  rw [runF_out]
  have hk : chkM vs m = true := by
    unfold chkM
    rw [sameL_of hl, decide_eq_true hc]
    simp only [Bool.and_true, Bool.true_and, List.all_eq_true, decide_eq_true_eq]
    exact hl
  have e := check_many_eq (vs := vs) (m := m) (fun v hv => by rw [hl v hv]; omega) (by omega)
  rw [if_pos hk] at e
  have k1 : (1 : Int) ≤ (m : Int) := by omega
  have k2 : (m : Int) ≤ 6 := by omega
  simp [b_orthogonal, startD, e, h, k1, k2]
theorem orthogonal_bad {vs : List Vec} {m : Nat} (hl : ∀ v ∈ vs, v.length ≤ 1000) (hc : vs.length ≤ 900) (h : (1 ≤ m ∧ m ≤ 6) → chkM vs m = false) : f_orthogonal [lvs vs, .int (m : Int)] = .err ⟨"BadNumber", none⟩ := by
  unfold f_orthogonal
  rw [runF_out]
  by_cases k1 : 1 ≤ m
  · have k1' : (1 : Int) ≤ (m : Int) := by omega
    by_cases k2 : m ≤ 6
    · have k2' : (m : Int) ≤ 6 := by omega
      have e := check_many_eq (vs := vs) (m := m) hl hc
      rw [h ⟨k1, k2⟩] at e
      have e' : f_check_vectors [lvs vs, .tuple [.int (m : Int)]] = .err ⟨"BadNumber", none⟩ := e
      simp [b_orthogonal, startD, e', k1', k2']
    · have k2' : ¬ (m : Int) ≤ 6 := by omega
      simp [b_orthogonal, startD, k1', k2']
  · have k1' : ¬ (1 : Int) ≤ (m : Int) := by omega
    simp [b_orthogonal, startD, k1']
end K03

namespace K03
open L2 PySem PySem.Spec PyProof.Rows DL
open HN
/-! ### the law's way for lists that stand apart -/
theorem nz_lt {p : Nat} {vs : List Vec} (h : vs.Pairwise (fun v w => ge v p = 0 ∨ ge w p = 0)) : (nzR p vs).length < 2 := by
  have h2 : (nzR p vs).Pairwise (fun v w => ge v p = 0 ∨ ge w p = 0) := List.Pairwise.sublist List.filter_sublist h
  match q : nzR p vs with
  | [] => decide
  | [_] => simp
  | a :: b :: l =>
    rw [q] at h2
    have h3 := (List.pairwise_cons.mp h2).1 b List.mem_cons_self
    have ma := (nz_mem.mp (show a ∈ nzR p vs by rw [q]; exact List.mem_cons_self)).2
    have mb := (nz_mem.mp (show b ∈ nzR p vs by rw [q]; exact List.mem_cons_of_mem _ List.mem_cons_self)).2
    exact absurd h3 (by simp [ma, mb])
theorem sep_rg {n E : Nat} (hE : E ≤ 8900) : ∀ (k p B : Nat) (s : SS), p + k = n → s.2.Pairwise Apart → (∀ v ∈ s.2, v.length = n ∧ (∀ j, j < p → ge v j = 0) ∧ Sz v (2 ^ E)) → (∀ v ∈ s.1, v.length = n ∧ Sz v (2 ^ B)) → s.1.length + s.2.length ≤ 40 → B + k * (E + 2) ≤ 400000 → RG n s (List.range' p k) (((List.range' p k).foldl stepS s).1)
  | 0, _, _, s, _, _, _, _, hc, _ => .nil (by omega)
  | k + 1, p, B, s, hp, pw, h2, h1, hc, hb => by
    rw [List.range'_succ, List.foldl_cons]
    have hp' : p < n := by omega
    have lL : Len n s.2 := fun r hr => (h2 r hr).1
    have pw' : s.2.Pairwise (fun v w => ge v p = 0 ∨ ge w p = 0) := by
      refine List.Pairwise.imp_of_mem (fun {v w} hv hw q => q p fun j hj => ⟨(h2 v hv).2.1 j hj, (h2 w hw).2.1 j hj⟩) pw
    obtain ⟨c1, c2⟩ := clear_one (o := none) (r := []) pw' fun q => absurd rfl q
    rw [List.nil_append] at c1
    have cl2 : (clearV p s.2).2 = zR p s.2 := c1
    have n2 := nz_lt pw'
    have left' : ∀ v ∈ zR p s.2, v.length = n ∧ (∀ j, j < p + 1 → ge v j = 0) ∧ Sz v (2 ^ E) := fun v hv => by
      obtain ⟨m1, m2⟩ := List.mem_filter.mp hv
      obtain ⟨a, b, c⟩ := h2 v m1
      refine ⟨a, fun j hj => ?_, c⟩
      by_cases z : j < p
      · exact b j z
      · have : j = p := by omega
        rw [this]; simpa using m2
    have pw2 : (zR p s.2).Pairwise Apart := pw.filter _
    have ks : (k + 1) * (E + 2) = k * (E + 2) + (E + 2) := by rw [Nat.add_mul, Nat.one_mul]
    have tg : TG n p 0 s.2 s.2 := .done lL n2
    have lf : (zR p s.2).length ≤ s.2.length := List.length_filter_le _ _
    cases q : (clearV p s.2).1 with
    | none =>
      have q' : (s.2.foldl (stepCl p) (none, [])).1 = none := by
        unfold clearV at q
        cases z : (s.2.foldl (stepCl p) (none, [])).1 with
        | none => rfl
        | some g => rw [z] at q; cases q
      have z0 := (clear_none q').2
      have nz : nzR p s.2 = [] := by
        unfold nzR
        rw [List.filter_eq_nil_iff]
        intro r hr
        simp [z0 r hr]
      have zz : zR p s.2 = s.2 := by
        unfold zR
        rw [List.filter_eq_self]
        intro r hr
        simp [z0 r hr]
      have es : stepS s p = (s.1, s.2) := by
        unfold stepS; rw [q, cl2, zz]
      rw [es]
      rw [zz] at left'
      exact .no hp' (by decide) tg nz (by omega) (by omega) (sep_rg hE k (p + 1) B (s.1, s.2) (by omega) pw left' h1 hc (by omega))
    | some h =>
      have q' : ∃ g, (s.2.foldl (stepCl p) (none, [])).1 = some g ∧ posV p g = h := by
        unfold clearV at q
        exact Option.map_eq_some_iff.mp q
      obtain ⟨g, q1, rfl⟩ := q'
      rcases c2 g q1 with z | ⟨g1, g2⟩
      · cases z
      have nz : nzR p s.2 = [g] := by
        have gm : g ∈ nzR p s.2 := nz_mem.mpr ⟨g1, g2⟩
        rcases nz_one n2 with z | ⟨g', z⟩
        · rw [z] at gm; cases gm
        · rw [z] at gm ⊢
          simp at gm
          rw [gm]
      have es : stepS s p = (s.1.map (redV p (posV p g)) ++ [posV p g], zR p s.2) := by
        unfold stepS; rw [q, cl2]
      rw [es]
      obtain ⟨a, b, c⟩ := h2 g g1
      obtain ⟨e1, e2⟩ := ge_posV g2
      refine .yes hp' (by decide) tg nz (by omega) (by omega) (divOk_sz (by omega) (by rw [e2]; exact c p) hE) (fun one ho => ⟨(h1 one ho).1, fun x hx => ?_⟩) (sep_rg hE k (p + 1) (B + E + 2) _ (by omega) pw2 left' (fun v hv => ?_) ?_ (by omega))
      · have f1 := fdiv_abs (a := ge one p) e1
        have f2 := (h1 one ho).2 p
        have f3 : ((ge one p).fdiv (ge (posV p g) p)).natAbs ≤ 2 ^ (B + 1) := by
          rw [Nat.pow_succ]
          have := Nat.pow_pos (a := 2) (n := B) (by decide)
          omega
        exact mulOk_sz f3 ((sz_posV c).mem hx) (by omega)
      · dsimp only at hv
        rcases List.mem_append.mp hv with z | z
        · obtain ⟨one, o1, rfl⟩ := List.mem_map.mp z
          have ol := (h1 one o1).1
          have pl : (posV p g).length = n := posV_len.trans a
          refine ⟨?_, sz_red (by rw [ol, pl]) e1 (h1 one o1).2 (sz_posV c)⟩
          unfold redV
          rw [len_less (by rw [ol, pl])]; exact ol
        · simp at z
          subst z
          exact ⟨posV_len.trans a, (sz_posV c).mono (pow_le (by omega))⟩
      · dsimp only
        rw [List.length_append, List.length_map, List.length_singleton]
        have : (zR p s.2).length < s.2.length := by
          unfold zR
          rw [List.length_filter_lt_length_iff_exists]
          exact ⟨g, g1, by simpa using g2⟩
        omega
theorem sep_rg_main {n E : Nat} {vs : List Vec} (hn : n ≤ 6) (hE : E ≤ 8900) (hl : Len n vs) (pw : vs.Pairwise Apart) (sz : ∀ v ∈ vs, Sz v (2 ^ E)) (hc : vs.length ≤ 40) : RG n ([], vs) (List.range n) (stairsV vs n) := by
  unfold stairsV stairsS
  rw [List.range_eq_range']
  refine sep_rg hE n 0 0 ([], vs) (by omega) pw (fun v hv => ⟨hl v hv, fun j hj => by omega, sz v hv⟩) (fun v hv => by simp at hv) (by simpa using hc) ?_
  have := Nat.mul_le_mul hn (Nat.add_le_add_right hE 2)
  omega
/-! ### the law's own orthogonal tuples -/
theorem col_map {vs : List Vec} {j : Nat} : (List.range vs.length).map (fun i => ge (gl vs i) j) = vs.map fun v => ge v j := by
  refine List.ext_getElem (by simp) fun i h1 h2 => ?_
  have hi : i < vs.length := by simpa using h1
  simp [gl_eq hi]
theorem law_orthogonal_eq {vs : List Vec} {m : Nat} (hm : m ≤ 6) (hl : Len m vs) (hc : vs.length ≤ 40) (h1 : RG (vs.length + m) ([], longL vs m) (List.range (vs.length + m)) (stairsV (longL vs m) (vs.length + m))) (h3 : (stairsV (longL vs m) (vs.length + m)).length ≤ 1000)
    (h2 : RG m ([], kern vs.length (stairsV (longL vs m) (vs.length + m))) (List.range m) (stairsV (kern vs.length (stairsV (longL vs m) (vs.length + m))) m)) (h4 : (stairsV (kern vs.length (stairsV (longL vs m) (vs.length + m))) m).length ≤ 1000) :
    f_u_law_orthogonal [lvs vs, .int (m : Int)] = .ok (.val (mtx (stairsV (kern vs.length (stairsV (longL vs m) (vs.length + m))) m))) := by
  unfold f_u_law_orthogonal
  rw [runF_out]
  have s1 := law_reduced_eq (n := vs.length + m) (by omega) (by unfold longL; simp; omega) h1 h3
  have s2 := law_reduced_eq (n := m) (by omega) (by
    unfold kern
    have := List.length_filter_le (fun r => decide (vs.length ≤ stepN r)) (stairsV (longL vs m) (vs.length + m))
    rw [List.length_map]; omega) h2 h4
  obtain ⟨o1, _, _⟩ := stairs_ok (longL_len (vs := vs) (m := m))
  generalize hR : stairsV (longL vs m) (vs.length + m) = R at *
  have k1 : (m : Int) < 4611686018427387904 := by omega
  have k2 : -4611686018427387904 ≤ (m : Int) := by omega
  have k3 : vs.length ≤ 16777216 := by omega
  have k4 : (vs.length : Int) < 4611686018427387904 := by omega
  have k5 : -4611686018427387904 ≤ (vs.length : Int) := by omega
  have k6 : m ≤ 16777216 := by omega
  have k7 : vs.length + m ≤ 16777216 := by omega
  have cA : ∀ {j : Nat}, j < m → xComp (iRange1 (aCons (xVar 2) (aNil))) [6] (bName 6) (tTrue) (x2 kIx (x2 kIx (xVar 0) (xVar 6)) (xVar 5)) [some (.val (lvs vs)), some (.val (.int (m : Int))), some (.val (.int (vs.length : Int))), none, none, some (.val (.int (j : Int))), none, none, none] = .ok (.lst ((vs.map fun v => ge v j).map PyData.int)) [some (.val (lvs vs)), some (.val (.int (m : Int))), some (.val (.int (vs.length : Int))), none, none, some (.val (.int (j : Int))), none, none, none] := fun {j} hj => by
    simp [k4, k5]
    rw [compX_eq (g := fun i : Nat => some (.int (ge (gl vs i) j))) (fun i hi => by
      have hi := List.mem_range.mp hi
      have g1 := gl_at hi
      have g2 := gx (v := gl vs i) (p := j) (by rw [hl _ (gl_mem hi)]; exact hj)
      simp [g1, g2]) (by rw [sizeLine_eq, List.length_range]; omega), List.filterMap_eq_map']
    have h := congrArg (List.map PyData.int) (col_map (vs := vs) (j := j))
    simp only [List.map_map, Function.comp_def] at h ⊢
    rw [h]
  have cB' : ∀ {j : Nat}, j < m → xComp (iRange1 (aCons (xVar 1) (aNil))) [7] (bName 7) (tTrue) (xCB kInt (aCons (x2 (kB kEq) (xVar 7) (xVar 5)) (aNil))) [some (.val (lvs vs)), some (.val (.int (m : Int))), some (.val (.int (vs.length : Int))), none, none, some (.val (.int (j : Int))), none, none, none] = .ok (.lst ((unitV m j).map PyData.int)) [some (.val (lvs vs)), some (.val (.int (m : Int))), some (.val (.int (vs.length : Int))), none, none, some (.val (.int (j : Int))), none, none, none] := fun {j} hj => by
    simp [k1, k2, k6, unitV]
    intro k _
    by_cases z : k = j
    · simp [z]
    · have : ¬ (k : Int) = (j : Int) := by omega
      simp [z, this]
  have c3 : xComp (iRange1 (aCons (xVar 1) (aNil))) [5] (bName 5) (tTrue) (x2 kAdd (xCB kTuple (aCons (ofL (xComp (iRange1 (aCons (xVar 2) (aNil))) [6] (bName 6) (tTrue) (x2 kIx (x2 kIx (xVar 0) (xVar 6)) (xVar 5)))) (aNil))) (xCB kTuple (aCons (ofL (xComp (iRange1 (aCons (xVar 1) (aNil))) [7] (bName 7) (tTrue) (xCB kInt (aCons (x2 (kB kEq) (xVar 7) (xVar 5)) (aNil))))) (aNil)))) [some (.val (lvs vs)), some (.val (.int (m : Int))), some (.val (.int (vs.length : Int))), none, none, none, none, none, none] = .ok (.lst ((longL vs m).map vec)) [some (.val (lvs vs)), some (.val (.int (m : Int))), some (.val (.int (vs.length : Int))), none, none, none, none, none, none] := by
    rw [xComp_it (ρ1 := [some (.val (lvs vs)), some (.val (.int (m : Int))), some (.val (.int (vs.length : Int))), none, none, none, none, none, none]) (iRange1_nat (n := m) (by simp) (by omega))]
    rw [xComp_of_map (e := fun (k : Nat) => PyData.int (k : Int)) (xs := List.range m) (g := fun j => vec (longV vs m j)) rfl (by simp) (by rw [List.length_range]; omega) (fun j hj => by
      have hj := List.mem_range.mp hj
      have a1 := cA hj
      have a2 := cB' hj
      have ul : (unitV m j).length = m := unit_len
      simp [-xComp_ap, a1, a2, ul, k7, longV])]
    rw [longL, List.map_map]
    rfl
  have t2 : gSetL 3 (xComp (iRange1 (aCons (xVar 1) (aNil))) [5] (bName 5) (tTrue) (x2 kAdd (xCB kTuple (aCons (ofL (xComp (iRange1 (aCons (xVar 2) (aNil))) [6] (bName 6) (tTrue) (x2 kIx (x2 kIx (xVar 0) (xVar 6)) (xVar 5)))) (aNil))) (xCB kTuple (aCons (ofL (xComp (iRange1 (aCons (xVar 1) (aNil))) [7] (bName 7) (tTrue) (xCB kInt (aCons (x2 (kB kEq) (xVar 7) (xVar 5)) (aNil))))) (aNil))))) [some (.val (lvs vs)), some (.val (.int (m : Int))), some (.val (.int (vs.length : Int))), none, none, none, none, none, none] = .nx [some (.val (lvs vs)), some (.val (.int (m : Int))), some (.val (.int (vs.length : Int))), some (.own false (.lst ((longL vs m).map vec))), none, none, none, none, none] := by
    rw [gSetL_ap, c3]
    simp
  have s1' : f_u_law_reduced [.list ((longL vs m).map vec), .int ((vs.length : Int) + (m : Int))] = .ok (.val (mtx R)) := by
    rw [← s1, Int.natCast_add]
  have c5 : xComp (iSeq (xVar 4)) [8] (bName 8) (xt2 kGe (xCall f_u_law_step (aCons (xVar 8) (aNil))) (xVar 2)) (xCut (xVar 8) (pSome (xVar 2)) (pNo)) [some (.val (lvs vs)), some (.val (.int (m : Int))), some (.val (.int (vs.length : Int))), some (.val (lvs (longL vs m))), some (.val (mtx R)), none, none, none, none] = .ok (.lst ((kern vs.length R).map vec)) [some (.val (lvs vs)), some (.val (.int (m : Int))), some (.val (.int (vs.length : Int))), some (.val (lvs (longL vs m))), some (.val (mtx R)), none, none, none, none] := by
    simp
    rw [compX_eq (g := fun r : Vec => if decide (vs.length ≤ stepN r) = true then some (vec (r.drop vs.length)) else none) (fun r hr => by
      have e := law_step_eq (v := r) (by rw [o1.len r hr]; omega)
      have cf := kCut_from (ds := r.map PyData.int) (w := vs.length)
      by_cases z : vs.length ≤ stepN r
      · simp [e, z, cf]
      · simp [e, z]) (by rw [sizeLine_eq]; omega), fm_filterV, kern, List.map_map]
    rfl
  have eb : b_u_law_orthogonal = gSeq (gSet 2 (xCB kLen (aCons (xVar 0) (aNil)))) (gSeq (gSetL 3 (xComp (iRange1 (aCons (xVar 1) (aNil))) [5] (bName 5) (tTrue) (x2 kAdd (xCB kTuple (aCons (ofL (xComp (iRange1 (aCons (xVar 2) (aNil))) [6] (bName 6) (tTrue) (x2 kIx (x2 kIx (xVar 0) (xVar 6)) (xVar 5)))) (aNil))) (xCB kTuple (aCons (ofL (xComp (iRange1 (aCons (xVar 1) (aNil))) [7] (bName 7) (tTrue) (xCB kInt (aCons (x2 (kB kEq) (xVar 7) (xVar 5)) (aNil))))) (aNil)))))) (gSeq (gSet 4 (xCall f_u_law_reduced (aCons (xVar 3) (aCons (x2 kAdd (xVar 2) (xVar 1)) (aNil))))) (gRet (xCall f_u_law_reduced (aCons (ofL (xComp (iSeq (xVar 4)) [8] (bName 8) (xt2 kGe (xCall f_u_law_step (aCons (xVar 8) (aNil))) (xVar 2)) (xCut (xVar 8) (pSome (xVar 2)) (pNo)))) (aCons (xVar 1) (aNil))))))) := rfl
  have t1 : gSet 2 (xCB kLen (aCons (xVar 0) (aNil))) [some (.val (lvs vs)), some (.val (.int (m : Int))), none, none, none, none, none, none, none] = .nx [some (.val (lvs vs)), some (.val (.int (m : Int))), some (.val (.int (vs.length : Int))), none, none, none, none, none, none] := by simp [k3]
  have t4 : gSet 4 (xCall f_u_law_reduced (aCons (xVar 3) (aCons (x2 kAdd (xVar 2) (xVar 1)) (aNil)))) [some (.val (lvs vs)), some (.val (.int (m : Int))), some (.val (.int (vs.length : Int))), some (.own false (.lst ((longL vs m).map vec))), none, none, none, none, none] = .nx [some (.val (lvs vs)), some (.val (.int (m : Int))), some (.val (.int (vs.length : Int))), some (.val (lvs (longL vs m))), some (.val (mtx R)), none, none, none, none] := by
    simp [s1']
  show outF (b_u_law_orthogonal [some (.val (lvs vs)), some (.val (.int (m : Int))), none, none, none, none, none, none, none]) = _
  rw [eb, gSeq_ap, t1, seqF_nx, gSeq_ap, t2, seqF_nx, gSeq_ap, t4, seqF_nx]
  simp [-xComp_ap, c5, s2]
end K03

namespace K03
open L2 PySem PySem.Spec PyProof.Rows DL
open HN
/-! ### the tuples whose products are 0, plain -/
def dS (x v : Vec) (w k : Nat) : Int := ((List.range k).map fun j => ge x (w + j) * ge v j).sum
theorem dS_zero {x v : Vec} {w : Nat} : dS x v w 0 = 0 := rfl
theorem dS_succ {x v : Vec} {w k : Nat} : dS x v w (k + 1) = dS x v w k + ge x (w + k) * ge v k := by
  unfold dS
  rw [List.range_succ, List.map_append, List.sum_append]; simp
theorem dS_less {a b v : Vec} {f : Int} {w : Nat} (h : a.length = b.length) : ∀ k, dS (lessV a f b) v w k = dS a v w k - f * dS b v w k
  | 0 => by simp [dS_zero]
  | k + 1 => by
    rw [dS_succ, dS_succ, dS_succ, dS_less h k, ge_less h, Int.sub_mul, Int.mul_add, Int.mul_assoc]; omega
theorem dS_zeroV {n w : Nat} {v : Vec} : ∀ k, dS (zeroV n) v w k = 0
  | 0 => rfl
  | k + 1 => by rw [dS_succ, dS_zeroV k, ge_zero, Int.zero_mul]; rfl
theorem dS_congr {x y v : Vec} {w u : Nat} : ∀ k, (∀ j, j < k → ge x (w + j) = ge y (u + j)) → dS x v w k = dS y v u k
  | 0, _ => rfl
  | k + 1, h => by rw [dS_succ, dS_succ, dS_congr k fun j hj => h j (by omega), h k (by omega)]
theorem dot_dS {a b : Vec} (h : a.length ≤ b.length) : dotI a b = dS a b 0 a.length := by
  have e := range_dot a b h
  unfold dotI dS
  rw [← e]
  congr 1
  refine List.map_congr_left fun k _ => ?_
  rw [Nat.zero_add]; rfl
theorem ge_app1 {a b : Vec} {k : Nat} (h : k < a.length) : ge (a ++ b) k = ge a k := by
  unfold ge
  rw [List.getD_eq_getElem?_getD, List.getD_eq_getElem?_getD, List.getElem?_append_left h]
theorem ge_app2 {a b : Vec} {k w : Nat} (h : a.length = w) : ge (a ++ b) (w + k) = ge b k := by
  unfold ge
  rw [List.getD_eq_getElem?_getD, List.getD_eq_getElem?_getD, List.getElem?_append_right (by omega)]
  congr 2; omega
theorem ge_drop {a : Vec} {k w : Nat} : ge (a.drop w) k = ge a (w + k) := by
  unfold ge
  rw [List.getD_eq_getElem?_getD, List.getD_eq_getElem?_getD, List.getElem?_drop]
theorem ge_unit {m at' k : Nat} (h : k < m) : ge (unitV m at') k = if k = at' then 1 else 0 := by
  rw [ge_lt (by rw [unit_len]; exact h)]
  simp [unitV]
theorem ge_long1 {vs : List Vec} {m at' i : Nat} (h : i < vs.length) : ge (longV vs m at') i = ge (gl vs i) at' := by
  unfold longV
  rw [ge_app1 (by simpa using h), ge_lt (by simpa using h)]
  simp [gl_eq h]
theorem ge_long2 {vs : List Vec} {m at' k : Nat} (h : k < m) : ge (longV vs m at') (vs.length + k) = if k = at' then 1 else 0 := by
  unfold longV
  rw [ge_app2 (by simp), ge_unit h]
theorem dS_long {vs : List Vec} {m at' : Nat} {v : Vec} : ∀ k, k ≤ m → dS (longV vs m at') v vs.length k = if at' < k then ge v at' else 0
  | 0, _ => by simp [dS_zero]
  | k + 1, h => by
    rw [dS_succ, dS_long k (by omega), ge_long2 (by omega)]
    by_cases z : k = at'
    · subst z; simp
    · rw [if_neg z]
      by_cases y : at' < k
      · rw [if_pos y, if_pos (by omega)]; omega
      · rw [if_neg y, if_neg (by omega)]; omega
theorem lat_dot {vs : List Vec} {m : Nat} {x : Vec} (h : Lat (vs.length + m) (longL vs m) x) : ∀ i, i < vs.length → ge x i = dS x (gl vs i) vs.length m := by
  induction h with
  | zero => intro i hi; rw [ge_zero, dS_zeroV]
  | @step w g c q hg ih =>
    intro i hi
    have lw := q.len longL_len
    have lg := longL_len _ hg
    rw [ge_less (by omega), dS_less (by omega), ih i hi]
    obtain ⟨k, hk, rfl⟩ := List.mem_map.mp hg
    have hk := List.mem_range.mp hk
    rw [ge_long1 hi, dS_long m (Nat.le_refl _), if_pos hk]
theorem step_lt {n w : Nat} {r : Vec} (hs : Step n r (stepN r)) : (w ≤ stepN r) ↔ ∀ i, i < w → ge r i = 0 := by
  constructor
  · exact fun h i hi => hs.z i (by omega)
  · intro h
    by_cases z : w ≤ stepN r
    · exact z
    · have := h (stepN r) (by omega)
      have := hs.pos
      omega
theorem drop_step {w m : Nat} {r : Vec} (hs : Step (w + m) r (stepN r)) (h : w ≤ stepN r) : Step m (r.drop w) (stepN r - w) := by
  refine ⟨by rw [List.length_drop, hs.len]; omega, by have := hs.lt; omega, fun k hk => ?_, ?_⟩
  · rw [ge_drop]; exact hs.z _ (by omega)
  · rw [ge_drop, show w + (stepN r - w) = stepN r by omega]; exact hs.pos
theorem kern_stairs {w m : Nat} {R : List Vec} (h : Stairs (w + m) R) : Stairs m (kern w R) := by
  obtain ⟨p1, p2⟩ := stairs_pw.mp h
  have sub : ∀ r ∈ R.filter (fun r => decide (w ≤ stepN r)), Step (w + m) r (stepN r) ∧ w ≤ stepN r := fun r hr => by
    obtain ⟨a, b⟩ := List.mem_filter.mp hr
    exact ⟨p1 r a, by simpa using b⟩
  refine stairs_pw.mpr ⟨fun v hv => ?_, ?_⟩
  · obtain ⟨r, hr, rfl⟩ := List.mem_map.mp hv
    obtain ⟨a, b⟩ := sub r hr
    have s := drop_step a b
    rw [step_stepN s]; exact s
  · refine List.pairwise_map.mpr (List.Pairwise.imp_of_mem (fun {a b} ha hb q => ?_) (p2.filter _))
    obtain ⟨a1, a2⟩ := sub a ha
    obtain ⟨b1, b2⟩ := sub b hb
    obtain ⟨q1, q2, q3⟩ := q
    unfold Rel2
    rw [step_stepN (drop_step a1 a2), step_stepN (drop_step b1 b2), ge_drop, ge_drop, show w + (stepN b - w) = stepN b by omega]
    exact ⟨by omega, q2, q3⟩
theorem kern_dot {vs : List Vec} {m : Nat} (hl : Len m vs) {R : List Vec} (h : Stairs (vs.length + m) R) (e : LatEq (vs.length + m) R (longL vs m)) : ∀ r ∈ kern vs.length R, ∀ v ∈ vs, dotI r v = 0 := by
  intro r hr v hv
  obtain ⟨r', hr', rfl⟩ := List.mem_map.mp hr
  obtain ⟨a, b⟩ := List.mem_filter.mp hr'
  have hs := (stairs_pw.mp h).1 r' a
  have z := (step_lt hs).mp (by simpa using b)
  obtain ⟨i, hi, ei⟩ := List.getElem_of_mem hv
  have lr : (r'.drop vs.length).length = m := by rw [List.length_drop, hs.len]; omega
  have lv := hl v hv
  rw [dot_dS (by omega), lr, dS_congr (y := r') (u := vs.length) m (fun j hj => by rw [ge_drop, Nat.zero_add])]
  have q := lat_dot ((e r').mp (.gen h.len a)) i hi
  rw [z i hi, gl_eq hi, ei] at q
  exact q.symm
/-- sums of the long tuples -/
def sumL (vs : List Vec) (m : Nat) (c : Vec) : Nat → Vec
  | 0 => zeroV (vs.length + m)
  | k + 1 => lessV (sumL vs m c k) (-(ge c k)) (longV vs m k)
theorem sumL_ok {vs : List Vec} {m : Nat} {c : Vec} : ∀ k, k ≤ m → (sumL vs m c k).length = vs.length + m ∧ Lat (vs.length + m) (longL vs m) (sumL vs m c k) ∧ (∀ i, i < vs.length → ge (sumL vs m c k) i = dS c (gl vs i) 0 k) ∧ (∀ j, j < m → ge (sumL vs m c k) (vs.length + j) = if j < k then ge c j else 0)
  | 0, _ => ⟨len_zero, .zero, fun i hi => by rw [sumL, ge_zero, dS_zero], fun j hj => by rw [sumL, ge_zero]; simp⟩
  | k + 1, h => by
    have h' : k ≤ m := by omega
    obtain ⟨a, b, d, e⟩ := sumL_ok (vs := vs) (m := m) (c := c) k h'
    have ll := long_len (vs := vs) (m := m) (at' := k)
    have lg : longV vs m k ∈ longL vs m := List.mem_map.mpr ⟨k, List.mem_range.mpr (by omega), rfl⟩
    refine ⟨by rw [sumL, len_less (by rw [a, ll]), a], .step _ b lg, fun i hi => ?_, fun j hj => ?_⟩
    · rw [sumL, ge_less (by omega), d i hi, ge_long1 hi, dS_succ, Nat.zero_add, Int.neg_mul]; omega
    · rw [sumL, ge_less (by omega), e j hj, ge_long2 hj]
      by_cases z : j = k
      · subst z; simp
      · rw [if_neg z]
        by_cases y : j < k
        · rw [if_pos y, if_pos (by omega)]; omega
        · rw [if_neg y, if_neg (by omega)]; omega
theorem filt_lat {n w : Nat} : ∀ {S : List Vec} {x : Vec}, Stairs n S → Lat n S x → (∀ i, i < w → ge x i = 0) → Lat n (S.filter fun r => decide (w ≤ stepN r)) x
  | [], x, _, h, _ => h
  | s :: S, x, hS, h, hz => by
    obtain ⟨p1, p2⟩ := stairs_pw.mp hS
    have st := p1 s List.mem_cons_self
    by_cases q : w ≤ stepN s
    · have all : (s :: S).filter (fun r => decide (w ≤ stepN r)) = s :: S := by
        rw [List.filter_eq_self]
        intro r hr
        rcases List.mem_cons.mp hr with rfl | hr
        · simpa using q
        · have := ((List.pairwise_cons.mp p2).1 r hr).1
          simp; omega
      rw [all]; exact h
    · have lS : Len n S := fun g hg => hS.len g (List.mem_cons_of_mem _ hg)
      obtain ⟨c, x', h1, rfl⟩ := (Lat.cons_iff st.len lS).mp h
      have lx := h1.len lS
      cases hS with
      | @cons _ _ a hs hz2 hr h2 =>
        have ea := step_stepN hs
        have z1 : ge x' (stepN s) = 0 := Lat.zeroAt lS (fun g hg => (hz2 g hg).2 _ (by omega)) h1
        have z2 := hz (stepN s) (by omega)
        rw [ge_less (by rw [lx, st.len]), z1] at z2
        have c0 : c = 0 := by
          have hp := st.pos
          have e : c * ge s (stepN s) = 0 := by omega
          rcases Int.mul_eq_zero.mp e with q | q
          · exact q
          · omega
        subst c0
        have e : lessV x' 0 s = x' := ext (len_less (by rw [lx, st.len])) fun k _ => by rw [ge_less (by rw [lx, st.len]), Int.zero_mul]; omega
        rw [e] at hz ⊢
        have fl : (s :: S).filter (fun r => decide (w ≤ stepN r)) = S.filter (fun r => decide (w ≤ stepN r)) := by
          rw [List.filter_cons]; simp [q]
        rw [fl]
        exact filt_lat h2 h1 hz
theorem lat_drop {w m : Nat} {G : List Vec} {x : Vec} (hG : Len (w + m) G) (h : Lat (w + m) G x) : Lat m (G.map fun r => r.drop w) (x.drop w) := by
  have hG2 : Len m (G.map fun r => r.drop w) := fun g hg => by
    obtain ⟨r, hr, rfl⟩ := List.mem_map.mp hg
    rw [List.length_drop, hG r hr]; omega
  induction h with
  | zero =>
    have e : (zeroV (w + m)).drop w = zeroV m := ext0 (by rw [List.length_drop, len_zero]; omega) fun k _ => by rw [ge_drop, ge_zero]
    rw [e]; exact .zero
  | @step y g c q hg ih =>
    have ly := q.len hG
    have lg := hG g hg
    have l1 : (y.drop w).length = m := by rw [List.length_drop, ly]; omega
    have l2 : (g.drop w).length = m := by rw [List.length_drop, lg]; omega
    have e : (lessV y c g).drop w = lessV (y.drop w) c (g.drop w) := by
      refine ext (by rw [List.length_drop, len_less (by omega), len_less (by omega), ly, l1]; omega) fun k _ => ?_
      rw [ge_drop, ge_less (by omega), ge_less (by omega), ge_drop, ge_drop]
    rw [e]
    exact .step c ih (List.mem_map.mpr ⟨g, hg, rfl⟩)
theorem kern_all {vs : List Vec} {m : Nat} (hl : Len m vs) {R : List Vec} (h : Stairs (vs.length + m) R) (e : LatEq (vs.length + m) R (longL vs m)) {c : Vec} (lc : c.length = m) (hc : ∀ v ∈ vs, dotI c v = 0) : Lat m (kern vs.length R) c := by
  obtain ⟨a, b, d, f⟩ := sumL_ok (vs := vs) (c := c) m (Nat.le_refl _)
  have z : ∀ i, i < vs.length → ge (sumL vs m c m) i = 0 := fun i hi => by
    rw [d i hi]
    have q := hc _ (gl_mem hi)
    rw [dot_dS (by rw [lc, hl _ (gl_mem hi)]; exact Nat.le_refl _), lc] at q
    exact q
  have k := lat_drop (w := vs.length) (m := m) (fun g hg => h.len g (List.mem_filter.mp hg).1) (filt_lat h ((e _).mpr b) z)
  have ec : (sumL vs m c m).drop vs.length = c := by
    refine ext (by rw [List.length_drop, a, lc]; omega) fun j hj => ?_
    rw [List.length_drop, a] at hj
    rw [ge_drop, f j (by omega), if_pos (by omega)]
  rw [ec] at k
  exact k
end K03

namespace K03
open L2 PySem PySem.Spec PyProof.Rows DL
open HN
/-! ### repr of large entries, sizes of the factors -/
theorem showk_ints {k : Nat} (hk : 0 < k) (k2 : k ≤ 1900) : ∀ v : List Int, (∀ x ∈ v, x.natAbs.log2 < k) → PyData.showableAll (v.map PyData.int) = true ∧ PyData.hasDictAll (v.map PyData.int) = false ∧ PyData.leavesShortAll (k + 2) (v.map PyData.int) = true ∧ PyData.weightAll (v.map PyData.int) ≤ (k + 2) * v.length
  | [], _ => ⟨rfl, rfl, rfl, by simp [PyData.weightAll]⟩
  | x :: v, h => by
    obtain ⟨a, b, c, d⟩ := showk_ints hk k2 v fun y hy => h y (List.mem_cons_of_mem _ hy)
    have hx := h x List.mem_cons_self
    have e := int_text_length_le (k := k) hk hx
    have t : (PyData.shown (.int x)).length ≤ k + 2 := by
      show (Str.ofString (toString x)).length ≤ k + 2
      rw [PySem.ofString_length]; omega
    have s : x.natAbs.log2 < 1920 := by omega
    have w : PyData.weight (.int x) ≤ k + 1 := by simp only [PyData.weight]; split <;> omega
    refine ⟨?_, ?_, ?_, ?_⟩
    · simp [PyData.showableAll, PyData.showable, a]; omega
    · simp [PyData.hasDictAll, PyData.hasDict, b]
    · simp [PyData.leavesShortAll, PyData.leavesShort, c, t]
    · simp only [List.map_cons, PyData.weightAll, List.length_cons, Nat.mul_succ]; omega
theorem log_lt {x : Int} {a b : Nat} (h : x.natAbs ≤ 2 ^ a) (k : a < b) : x.natAbs.log2 < b := by
  have := log_of h
  omega
theorem repr_vecB {v : Vec} (hl : v.length ≤ 6) (h : ∀ x ∈ v, x.natAbs ≤ 2 ^ 603) : ∃ z, kRepr [vec v] = some (.str z) := by
  obtain ⟨a, b, c, d⟩ := showk_ints (k := 640) (by decide) (by decide) v fun x hx => log_lt (h x hx) (by decide)
  have d' : PyData.weightAll (v.map PyData.int) ≤ 642 * 6 := Nat.le_trans d (Nat.mul_le_mul_left _ hl)
  refine ⟨(vec v).shown, if_pos ⟨by simpa [PyData.showable] using a, by simpa [PyData.hasDict] using b, by simp [PyData.depth, depth_ints], ?_⟩⟩
  have l := PyData.shown_le 642 (by omega) (vec v) (by simpa [PyData.leavesShort] using c)
  have w : (vec v).weight ≤ 4000 := by simp only [PyData.weight]; omega
  have l2 : (642 + 2) * (vec v).weight ≤ 644 * 4000 := Nat.mul_le_mul (by omega) w
  rw [sizeLine_eq]; omega
theorem showk_vecs : ∀ C : List Vec, (∀ v ∈ C, v.length ≤ 6 ∧ ∀ x ∈ v, x.natAbs.log2 < 400) → PyData.showableAll (C.map vec) = true ∧ PyData.hasDictAll (C.map vec) = false ∧ PyData.leavesShortAll 402 (C.map vec) = true ∧ PyData.weightAll (C.map vec) ≤ 2420 * C.length
  | [], _ => ⟨rfl, rfl, rfl, by simp [PyData.weightAll]⟩
  | v :: C, h => by
    obtain ⟨a, b, c, d⟩ := showk_vecs C fun y hy => h y (List.mem_cons_of_mem _ hy)
    obtain ⟨lv, hv⟩ := h v List.mem_cons_self
    obtain ⟨a1, b1, c1, d1⟩ := showk_ints (k := 400) (by decide) (by decide) v hv
    refine ⟨?_, ?_, ?_, ?_⟩
    · simp [PyData.showableAll, PyData.showable, a, a1]
    · simp [PyData.hasDictAll, PyData.hasDict, b, b1]
    · simp [PyData.leavesShortAll, PyData.leavesShort, c, c1]
    · simp only [List.map_cons, PyData.weightAll, PyData.weight, List.length_cons]; omega
theorem repr_mtxB {C : List Vec} (hl : C.length ≤ 6) (h : ∀ v ∈ C, v.length ≤ 6 ∧ ∀ x ∈ v, x.natAbs ≤ 2 ^ 399) : ∃ z, kRepr [mtx C] = some (.str z) := by
  obtain ⟨a, b, c, d⟩ := showk_vecs C fun v hv => ⟨(h v hv).1, fun x hx => log_lt ((h v hv).2 x hx) (by decide)⟩
  have dp := depth_vecs C
  refine ⟨(mtx C).shown, if_pos ⟨by simpa [PyData.showable] using a, by simpa [PyData.hasDict] using b, by simp [PyData.depth]; omega, ?_⟩⟩
  have l := PyData.shown_le 402 (by omega) (mtx C) (by simpa [PyData.leavesShort] using c)
  have w : (mtx C).weight ≤ 14600 := by simp only [PyData.weight]; omega
  have l2 : (402 + 2) * (mtx C).weight ≤ 404 * 14600 := Nat.mul_le_mul (by omega) w
  rw [sizeLine_eq]; omega
theorem facs_sz {n X : Nat} : ∀ {S : List Vec} {v : Vec} {A : Nat}, v.length = n → (∀ s ∈ S, Step n s (stepN s) ∧ Sz s (2 ^ X)) → Sz v (2 ^ A) → ∀ f ∈ facs S v, f.natAbs ≤ 2 ^ (A + S.length * (X + 2))
  | [], _, _, _, _, _, f, hf => by cases hf
  | s :: S, v, A, lv, hS, sv, f, hf => by
    obtain ⟨st, ss⟩ := hS s List.mem_cons_self
    have hp := st.pos
    have ks : (S.length + 1) * (X + 2) = S.length * (X + 2) + (X + 2) := by rw [Nat.add_mul, Nat.one_mul]
    have f1 := fdiv_abs (a := ge v (stepN s)) hp
    have f2 := sv (stepN s)
    have f3 : ((ge v (stepN s)).fdiv (ge s (stepN s))).natAbs ≤ 2 ^ (A + 1) := by
      rw [Nat.pow_succ]
      have := Nat.pow_pos (a := 2) (n := A) (by decide)
      omega
    have l1 : (inStep v s).length = n := by unfold inStep; rw [len_less (by rw [lv, st.len]), lv]
    have s1 : Sz (inStep v s) (2 ^ (A + X + 2)) := sz_red (p := stepN s) (by rw [lv, st.len]) hp sv ss
    rw [List.length_cons]
    rw [facs] at hf
    rcases List.mem_cons.mp hf with rfl | hf
    · exact Nat.le_trans f3 (pow_le (by omega))
    · exact Nat.le_trans (facs_sz l1 (fun t ht => hS t (List.mem_cons_of_mem _ ht)) s1 f hf) (pow_le (by omega))
/-! ### told -/
structure BL (n : Nat) (B : List Vec) : Prop where
  st : Stairs n B
  ct : B.length ≤ 3
  sz : ∀ t ∈ B, Sz t (2 ^ 82)
theorem BL.in {n : Nat} {B : List Vec} (h : BL n B) : ∀ s ∈ B, Step n s (stepN s) ∧ Sz s (2 ^ 82) := fun s hs => ⟨(stairs_pw.mp h.st).1 s hs, h.sz s hs⟩
theorem told_coord {X A n : Nat} (h1 : 1 ≤ n) (hn : n ≤ 6) (hX : X ≤ 8900) {S : List Vec} {v : Vec} (hS : Stairs n S) (sS : ∀ s ∈ S, Sz s (2 ^ X)) (lv : v.length = n) (sv : Sz v (2 ^ A)) (hA : A ≤ 20000) (hl : S.length ≤ 40) : f_u_law_told [.int 0, lvs S, vec v] = .ok (.val (inD S v)) := by
  have e := coordinates_eq h1 hn hX hS sS lv sv hA hl
  unfold f_u_law_told
  rw [runF_out]
  simp [b_u_law_told, startD, e, atI, ixN]
theorem BL.repr {n : Nat} {B : List Vec} (h : BL n B) {v : Vec} (lv : v.length = n) (sv : Sz v (2 ^ 86)) : ∃ z, kRepr [inD B v] = some (.str z) := by
  unfold inD
  split
  · refine repr_vecB (by rw [facs_len]; have := h.ct; omega) fun f hf => ?_
    refine Nat.le_trans (facs_sz lv h.in sv f hf) (pow_le ?_)
    have := Nat.mul_le_mul_right (82 + 2) h.ct
    omega
  · exact ⟨_, kRepr_nice rfl (by simp [PyData.depth]) (by simp [PyData.weight])⟩
theorem guards2 : ∀ m, m < 6 → (∀ k, k < 5 → Eseq m 2 k ≤ 8900) ∧ (∀ k, k < 6 → Dseq m 2 k ≤ 400000) := by decide +kernel
theorem guardsF : (∀ k, k < 5 → Fq 2 k ≤ 8900) ∧ (∀ k, k < 6 → Gq 2 k ≤ 400000) := by decide +kernel
theorem bound2 : ∀ m, m < 6 → Xs 2 (m - 1) + (Xs 2 (m - 1) + 2) * m ≤ 292 := by decide +kernel
structure KF (n : Nat) (vs K : List Vec) : Prop where
  st : Stairs n K
  ct : K.length ≤ 5
  sz : ∀ t ∈ K, Sz t (2 ^ 292)
  dot : ∀ r ∈ K, ∀ v ∈ vs, dotI r v = 0
  all : ∀ c : Vec, c.length = n → (∀ v ∈ vs, dotI c v = 0) → Lat n K c
  told : f_u_law_told [.int 1, lvs vs, .int (n : Int)] = .ok (.val (mtx K))
  due : f_u_law_orthogonal [lvs vs, .int (n : Int)] = .ok (.val (mtx K))
theorem kern_facts {n : Nat} (h1 : 1 ≤ n) (hn : n ≤ 5) {vs : List Vec} (hl : Len n vs) (hc : vs.length ≤ 4) (sz : ∀ v ∈ vs, Sz v 4) : ∃ K, KF n vs K := by
  have ll := longL_len (vs := vs) (m := n)
  have lc : (longL vs n).length = n := by simp [longL]
  have sL : ∀ v ∈ longL vs n, Sz v (2 ^ 2) := fun v hv => sz_of fun x hx => by
    obtain ⟨k, hk, rfl⟩ := List.mem_map.mp hv
    rcases List.mem_append.mp hx with q | q
    · obtain ⟨u, hu, rfl⟩ := List.mem_map.mp q
      exact sz u hu k
    · obtain ⟨j, _, rfl⟩ := List.mem_map.mp q
      split <;> decide
  obtain ⟨o1, o2, o3⟩ := stairs_ok ll
  have g1 := guards2 (longL vs n).length (by omega)
  have SG1 := sg_main (E := 2) (K := 5) (by omega) ll sL g1.1 (fun k hk => g1.2 k (by omega)) (by omega)
  have RG1 := rg_main (E := 2) (K := 5) ll sL (by omega) guardsF.1 (fun k hk => guardsF.2 k (by omega)) (by decide) (by omega)
  have bR : ∀ t ∈ stairsV (longL vs n) (vs.length + n), Sz t (2 ^ 292) := fun t ht => (Stairs.bound ll sL o1 o2 t ht).mono (pow_le (bound2 _ (by omega)))
  obtain ⟨R, eR⟩ : ∃ R, R = stairsV (longL vs n) (vs.length + n) := ⟨_, rfl⟩
  have kd := kern_dot hl o1 o2
  have ka := fun c lc hc => kern_all hl o1 o2 (c := c) lc hc
  have ks := kern_stairs o1
  have bK : ∀ t ∈ kern vs.length (stairsV (longL vs n) (vs.length + n)), Sz t (2 ^ 292) := fun t ht => by
    obtain ⟨r, hr, rfl⟩ := List.mem_map.mp ht
    intro k
    rw [ge_drop]
    exact bR r (List.mem_filter.mp hr).1 _
  have cK : (kern vs.length (stairsV (longL vs n) (vs.length + n))).length ≤ 5 := by
    have := List.length_filter_le (fun r => decide (vs.length ≤ stepN r)) (stairsV (longL vs n) (vs.length + n))
    unfold kern
    rw [List.length_map]; omega
  have SG2 := sep_main (by omega) (E := 292) (by decide) ks.len (stairs_apart ks) bK (by omega)
  have RG2 := sep_rg_main (by omega) (E := 292) (by decide) ks.len (stairs_apart ks) bK (by omega)
  have eK : stairsV (kern vs.length (stairsV (longL vs n) (vs.length + n))) n = kern vs.length (stairsV (longL vs n) (vs.length + n)) := by
    obtain ⟨p1, p2, _⟩ := stairs_ok ks.len
    exact p1.uniq ks p2
  have t1 := orthogonal_eq h1 (by omega) hl (by omega) (orthogonal_to_eq (by omega) hl (by omega) SG1 SG2 (by omega))
  have t2 := law_orthogonal_eq (by omega) hl (by omega) RG1 (by omega) RG2 (by rw [eK]; omega)
  rw [eK] at t1 t2
  refine ⟨_, ks, cK, bK, kd, ka, ?_, t2⟩
  unfold f_u_law_told
  rw [runF_out]
  simp [b_u_law_told, startD, t1, atI, ixN]
/-! ### what is told of wrong ones -/
theorem told_of_err0 {a b : D} (h : f_coordinates [a, b] = .err ⟨"BadNumber", none⟩) : f_u_law_told [.int 0, a, b] = .ok (.val (.str "!number")) := by
  unfold f_u_law_told
  rw [runF_out]
  simp [b_u_law_told, startD, h, h_u_law_kind, t_u_law_kind, kindD, atI, ixN]
theorem told_of_err1 {a b : D} (h : f_orthogonal [a, b] = .err ⟨"BadNumber", none⟩) : f_u_law_told [.int 1, a, b] = .ok (.val (.str "!number")) := by
  unfold f_u_law_told
  rw [runF_out]
  simp [b_u_law_told, startD, h, h_u_law_kind, t_u_law_kind, kindD, atI, ixN]
theorem coord_bad1 {n : Nat} (h1 : 1 ≤ n) (hn : n ≤ 6) {S : List Vec} (hS : Len n S) (pw : S.Pairwise Apart) (sS : ∀ s ∈ S, Sz s (2 ^ 8900)) (hl : S.length ≤ 40) (hb : isSt S = false) {d : D} : f_coordinates [lvs S, d] = .err ⟨"BadNumber", none⟩ := by
  unfold f_coordinates
  rw [runF_out]
  have e1 := is_stairs_eq hn hS (fun _ => h1) hl (sep_main hn (Nat.le_refl _) hS pw sS hl)
  rw [chkS_iff hS, hb] at e1
  simp [b_coordinates, startD, e1]
theorem coord_bad2 {n : Nat} (h1 : 1 ≤ n) (hn : n ≤ 6) {s : Vec} {S : List Vec} {v : Vec} (hS : Stairs n (s :: S)) (sS : ∀ t ∈ s :: S, Sz t (2 ^ 8900)) (hl : (s :: S).length ≤ 40) (l1 : 1 ≤ v.length) (l6 : v.length ≤ 6) (hb : v.length ≠ n) : f_coordinates [lvs (s :: S), vec v] = .err ⟨"BadNumber", none⟩ := by
  unfold f_coordinates
  rw [runF_out]
  have e1 := is_stairs_eq hn hS.len (fun _ => h1) hl (sep_main hn (Nat.le_refl _) hS.len (stairs_apart hS) sS hl)
  rw [chkS_iff hS.len, (isSt_iff hS.len).mpr hS] at e1
  have e3 := size_of_eq (vs := s :: S) (fun t ht => by rw [hS.len t ht]; omega)
  have ls : s.length = n := hS.len s List.mem_cons_self
  simp only [sizeN] at e3
  rw [ls] at e3
  have k1 : (1 : Int) ≤ (v.length : Int) := by omega
  have k2 : (v.length : Int) ≤ 6 := by omega
  have k3 : v.length ≤ 16777216 := by omega
  have k4 : ¬ (v.length : Int) = (n : Int) := by omega
  simp [b_coordinates, startD, e1, e3, k1, k2, k3, k4]
end K03

namespace K03
open L2 PySem PySem.Spec PyProof.Rows DL
noncomputable def lS4 : DSt := gSet 3 (xCall f_u_law_reduced (aCons (ofL (xComp (iRange1 (aCons (x2 kMod (xCB kInt (aCons (xCallI f_u_law_next (aCons (xVar 1) (aNil))) (aNil))) (xC (.int 4))) (aNil))) [10] (bName 10) (tTrue) (xCallI f_u_law_vector (aCons (xVar 1) (aCons (xVar 2) (aCons (x1 kNeg (xC (.int 9))) (aCons (xC (.int 9)) (aNil)))))))) (aCons (xVar 2) (aNil))))
noncomputable def lB5 : DSt := gSeq (gSet 5 (xCallI f_u_law_vector (aCons (xVar 1) (aCons (xVar 2) (aCons (x1 kNeg (xC (.int 9))) (aCons (xC (.int 9)) (aNil))))))) (gSeq (gIf (xt2 kEq (x2 kMod (xCB kInt (aCons (xCallI f_u_law_next (aCons (xVar 1) (aNil))) (aNil))) (xC (.int 2))) (xC (.int 0))) (gSeq (gSet 5 (x2 kMulT (xTup (aCons (xC (.int 0)) (aNil))) (xVar 2))) (gFor (iSeq (xVar 3)) (bName 6) (gSeq (gSet 7 (x2 kSub (x2 kMod (xCB kInt (aCons (xCallI f_u_law_next (aCons (xVar 1) (aNil))) (aNil))) (xC (.int 9))) (xC (.int 4)))) (gSet 5 (xCB kTuple (aCons (ofL (xComp (iRange1 (aCons (xVar 2) (aNil))) [10] (bName 10) (tTrue) (x2 kAdd (x2 kIx (xVar 5) (xVar 10)) (x2 kMul (xVar 7) (x2 kIx (xVar 6) (xVar 10)))))) (aNil))))))) (gNext)) (gIf (xt2 kNe (xCB kRepr (aCons (xCall f_u_law_told (aCons (xC (.int 0)) (aCons (ofL (xCBL kList (aCons (xVar 3) (aNil)))) (aCons (xVar 5) (aNil))))) (aNil))) (xCB kRepr (aCons (xCall f_u_law_in (aCons (xVar 3) (aCons (xVar 5) (aNil)))) (aNil)))) (gRet (xC (.bool false))) (gNext)))
noncomputable def lI5 : DEnv → Res (List D) := iRange1 (aCons (xC (.int 4)) (aNil))
noncomputable def lS6 : DSt := gSet 8 (ofL (xComp (iRange1 (aCons (x2 kMod (xCB kInt (aCons (xCallI f_u_law_next (aCons (xVar 1) (aNil))) (aNil))) (xC (.int 5))) (aNil))) [10] (bName 10) (tTrue) (xCallI f_u_law_vector (aCons (xVar 1) (aCons (xVar 2) (aCons (x1 kNeg (xC (.int 4))) (aCons (xC (.int 4)) (aNil))))))))
noncomputable def lS7 : DSt := gSet 9 (xCall f_u_law_told (aCons (xC (.int 1)) (aCons (xVar 8) (aCons (xVar 2) (aNil)))))
noncomputable def lS8 : DSt := gIf (xtOr (xt2 kNe (xCB kRepr (aCons (xVar 9) (aNil))) (xCB kRepr (aCons (xCall f_u_law_orthogonal (aCons (xVar 8) (aCons (xVar 2) (aNil)))) (aNil)))) (xTr (xCB kAny (aCons (ofL (xComp (iSeq (xVar 9)) [6] (bName 6) (tTrue) (xCB kAny (aCons (ofL (xComp (iSeq (xVar 8)) [11] (bName 11) (tTrue) (x2 (kB kNe) (xCall f_u_law_dot (aCons (xVar 6) (aCons (xVar 11) (aNil)))) (xC (.int 0))))) (aNil))))) (aNil))))) (gRet (xC (.bool false))) (gNext)
noncomputable def lB9 : DSt := gSeq (gSet 6 (xCallI f_u_law_vector (aCons (xVar 1) (aCons (xVar 2) (aCons (x1 kNeg (xC (.int 2))) (aCons (xC (.int 2)) (aNil))))))) (gIf (xtAnd (xTr (xCB kAll (aCons (ofL (xComp (iSeq (xVar 8)) [11] (bName 11) (tTrue) (x2 (kB kEq) (xCall f_u_law_dot (aCons (xVar 6) (aCons (xVar 11) (aNil)))) (xC (.int 0))))) (aNil)))) (xt2 kIs (xCall f_u_law_in (aCons (xVar 9) (aCons (xVar 6) (aNil)))) (xC .none))) (gRet (xC (.bool false))) (gNext))
noncomputable def lI9 : DEnv → Res (List D) := iRange1 (aCons (xC (.int 6)) (aNil))
noncomputable def lS10 : DSt := gIf (xt2 kNe (ofL (xLst (aCons (xCall f_u_law_told (aCons (xC (.int 0)) (aCons (ofL (xLst (aCons (xTup (aCons (xC (.int 0)) (aCons (xC (.int 1)) (aNil)))) (aCons (xTup (aCons (xC (.int 1)) (aCons (xC (.int 0)) (aNil)))) (aNil))))) (aCons (xTup (aCons (xC (.int 0)) (aCons (xC (.int 0)) (aNil)))) (aNil))))) (aCons (xCall f_u_law_told (aCons (xC (.int 0)) (aCons (ofL (xLst (aCons (xTup (aCons (xC (.int 2)) (aCons (xC (.int 1)) (aNil)))) (aNil)))) (aCons (xTup (aCons (xC (.int 0)) (aNil))) (aNil))))) (aCons (xCall f_u_law_told (aCons (xC (.int 0)) (aCons (ofL (xLst (aCons (xTup (aCons (xC (.int 0)) (aCons (xC (.int 0)) (aNil)))) (aNil)))) (aCons (xTup (aCons (xC (.int 0)) (aCons (xC (.int 0)) (aNil)))) (aNil))))) (aCons (xCall f_u_law_told (aCons (xC (.int 0)) (aCons (ofL (xLst (aCons (xTup (aCons (x1 kNeg (xC (.int 1))) (aCons (xC (.int 0)) (aNil)))) (aNil)))) (aCons (xTup (aCons (xC (.int 0)) (aCons (xC (.int 0)) (aNil)))) (aNil))))) (aNil))))))) (ofL (xRepL (xLst (aCons (xC (.str "!number")) (aNil))) (xC (.int 4))))) (gRet (xC (.bool false))) (gNext)
noncomputable def lS11 : DSt := gIf (xtOr (xt2 kNe (ofL (xComp (iSeq (ofL (xLst (aCons (xC (.int 0)) (aCons (xC (.int 7)) (aNil)))))) [12] (bName 12) (tTrue) (xCall f_u_law_told (aCons (xC (.int 1)) (aCons (ofL (xLst (aNil))) (aCons (xVar 12) (aNil))))))) (ofL (xRepL (xLst (aCons (xC (.str "!number")) (aNil))) (xC (.int 2))))) (xtOr (xt2 kNe (xCall f_u_law_told (aCons (xC (.int 1)) (aCons (ofL (xLst (aCons (xTup (aCons (xC (.int 1)) (aCons (xC (.int 2)) (aNil)))) (aNil)))) (aCons (xC (.int 3)) (aNil))))) (xC (.str "!number"))) (xt2 kNe (xCall f_u_law_told (aCons (xC (.int 1)) (aCons (ofL (xRepL (xLst (aCons (xTup (aCons (xC (.int 1)) (aNil))) (aNil))) (xC (.int 41)))) (aCons (xC (.int 1)) (aNil))))) (xC (.str "!number"))))) (gRet (xC (.bool false))) (gNext)
noncomputable def lS12 : DSt := gRet (xAnd (x2 (kB kEq) (xCB kRepr (aCons (xCall f_u_law_told (aCons (xC (.int 1)) (aCons (ofL (xLst (aNil))) (aCons (xC (.int 2)) (aNil))))) (aNil))) (xCB kRepr (aCons (xTup (aCons (xTup (aCons (xC (.int 1)) (aCons (xC (.int 0)) (aNil)))) (aCons (xTup (aCons (xC (.int 0)) (aCons (xC (.int 1)) (aNil)))) (aNil)))) (aNil)))) (xAnd (x2 (kB kEq) (xCB kRepr (aCons (xCall f_u_law_told (aCons (xC (.int 1)) (aCons (ofL (xLst (aCons (xTup (aCons (xC (.int 2)) (aCons (xC (.int 4)) (aNil)))) (aNil)))) (aCons (xC (.int 2)) (aNil))))) (aNil))) (xCB kRepr (aCons (xTup (aCons (xTup (aCons (xC (.int 2)) (aCons (x1 kNeg (xC (.int 1))) (aNil)))) (aNil))) (aNil)))) (x2 (kB kEq) (xCB kRepr (aCons (xCall f_u_law_told (aCons (xC (.int 0)) (aCons (ofL (xLst (aCons (xTup (aCons (xC (.int 2)) (aCons (xC (.int 1)) (aNil)))) (aCons (xTup (aCons (xC (.int 0)) (aCons (xC (.int 3)) (aNil)))) (aNil))))) (aCons (xTup (aCons (xC (.int 2)) (aCons (x1 kNeg (xC (.int 5))) (aNil)))) (aNil))))) (aNil))) (xCB kRepr (aCons (xTup (aCons (xC (.int 1)) (aCons (x1 kNeg (xC (.int 2))) (aNil)))) (aNil))))))
theorem b_law_eq : b_law = gSeq (gSetL 1 (xCallL f_u_law_draws (aCons (xVar 0) (aNil)))) (gSeq (gExpr (xM 1 mReverse aNil)) (gSeq (gSetL 1 (xCallIL f_u_law_more (aCons (xVar 1) (aCons (xC (.int 120)) (aNil))))) (gSeq (gSet 2 (x2 kAdd (xC (.int 1)) (x2 kMod (xCB kInt (aCons (xCallI f_u_law_next (aCons (xVar 1) (aNil))) (aNil))) (xC (.int 5))))) (gSeq (lS4) (gSeq (gFor lI5 (bName 4) lB5) (gSeq (lS6) (gSeq (lS7) (gSeq (lS8) (gSeq (gFor lI9 (bName 4) lB9) (gSeq (lS10) (gSeq (lS11) (lS12)))))))))))) := rfl
open HN
abbrev wE (s : Option SV) (ys : List Int) (n : Nat) (j3 j4 j5 j6 j7 j8 j9 : Option SV) : DEnv := [s, some (.own false (.lst (zs ys))), some (.val (.int (n : Int))), j3, j4, j5, j6, j7, j8, j9, none, none, none]
theorem vecs_comp1 {ow : List Nat} {b : D → DEnv → Option DEnv} {elt : DX} (q : Vec → Prop) (s : Option SV) (rest : List (Option SV)) (ds : List D) (hn : ds.length ≤ 1000) {xs : List Int} (hx : Dr xs)
    (ho : (ow.all fun i => !isOwn (s :: some (.own false (.lst (zs xs))) :: rest)[i]?) = true)
    (h : ∀ d ys, Dr ys → ∃ a ys', cstep ow b tTrue elt d (s :: some (.own false (.lst (zs ys))) :: rest) = some (some (vec a), s :: some (.own false (.lst (zs ys'))) :: rest) ∧ q a ∧ Dr ys' ∧ ys'.length ≤ ys.length) :
    ∃ (as : List Vec) (ys : List Int), xComp (fun ρ => .ok ds ρ) ow b tTrue elt (s :: some (.own false (.lst (zs xs))) :: rest) = .ok (.lst (as.map vec)) (s :: some (.own false (.lst (zs ys))) :: rest) ∧ as.length = ds.length ∧ (∀ a ∈ as, q a) ∧ Dr ys ∧ ys.length ≤ xs.length := by
  obtain ⟨es, ρ', h1, ⟨ys, rfl, h2, h3⟩, h4⟩ := xComp_inv (it := fun ρ => .ok ds ρ) (ow := ow) (bind := b) (test := tTrue) (elt := elt) (fun ρ => ∃ ys, ρ = s :: some (.own false (.lst (zs ys))) :: rest ∧ Dr ys ∧ ys.length ≤ xs.length) (fun _ z => ∃ a, z = vec a ∧ q a) rfl ho (by rw [sizeLine_eq]; omega) ⟨xs, rfl, hx, Nat.le_refl _⟩ (fun d _ ρ ⟨ys, e, g1, g2⟩ => by
    subst e
    obtain ⟨a, ys', k1, k2, k3, k4⟩ := h d ys g1
    exact ⟨_, _, k1, ⟨ys', rfl, k3, by omega⟩, a, rfl, k2⟩)
  have : ∃ as : List Vec, es = as.map vec ∧ ∀ a ∈ as, q a := by
    have hr := All2.right (Q := fun z => ∃ a, z = vec a ∧ q a) h4 fun _ _ h => h
    clear h4 h1
    induction es with
    | nil => exact ⟨[], rfl, fun a h => by simp at h⟩
    | cons z es ih =>
      obtain ⟨a, rfl, ha⟩ := hr z List.mem_cons_self
      obtain ⟨as, rfl, has⟩ := ih fun y hy => hr y (List.mem_cons_of_mem _ hy)
      exact ⟨a :: as, rfl, fun x hx => by rcases List.mem_cons.mp hx with rfl | hx; exact ha; exact has x hx⟩
  obtain ⟨as, rfl, has⟩ := this
  refine ⟨as, ys, h1, ?_, has, h2, h3⟩
  have := h4.len
  simpa using this.symm
theorem drawVs {s j3 j4 j5 j6 j7 j8 j9 : Option SV} {n : Nat} (hn : n ≤ 6) {m : Nat} (m1 : 1 ≤ m) (m2 : m ≤ 100) {w : Int} (w1 : 1 ≤ w) (w2 : w ≤ 1000) {ys : List Int} (hy : Dr ys) :
    ∃ vs ys', xComp (iRange1 (aCons (x2 kMod (xCB kInt (aCons (xCallI f_u_law_next (aCons (xVar 1) (aNil))) (aNil))) (xC (.int (m : Int)))) (aNil))) [10] (bName 10) (tTrue) (xCallI f_u_law_vector (aCons (xVar 1) (aCons (xVar 2) (aCons (x1 kNeg (xC (.int w))) (aCons (xC (.int w)) (aNil)))))) (wE s ys n j3 j4 j5 j6 j7 j8 j9) = .ok (.lst (vs.map vec)) (wE s ys' n j3 j4 j5 j6 j7 j8 j9) ∧
      vs.length < m ∧ Len n vs ∧ (∀ v ∈ vs, ∀ x ∈ v, x.natAbs ≤ w.natAbs) ∧ Dr ys' := by
  obtain ⟨u, y1, n1, a1, a2, a3, l1⟩ := next_ex hy
  obtain ⟨k, hk, ek⟩ := fmod_len (u := u) (m := m) (by omega)
  have dm : divOk (m : Int) = true := divOk_of (by omega) (by omega)
  have m0 : ¬ m = 0 := by omega
  have it : iRange1 (aCons (x2 kMod (xCB kInt (aCons (xCallI f_u_law_next (aCons (xVar 1) (aNil))) (aNil))) (xC (.int (m : Int)))) (aNil)) (wE s ys n j3 j4 j5 j6 j7 j8 j9) = .ok ((List.range k).map fun (k : Nat) => PyData.int (k : Int)) (wE s y1 n j3 j4 j5 j6 j7 j8 j9) :=
    iRange1_nat (by simp [n1, dm, ek, m0]) (by omega)
  obtain ⟨as, y2, c1, c2, c3, c4, l2⟩ := vecs_comp1 (ow := [10]) (b := bName 10) (elt := xCallI f_u_law_vector (aCons (xVar 1) (aCons (xVar 2) (aCons (x1 kNeg (xC (.int w))) (aCons (xC (.int w)) (aNil))))))
    (fun a => a.length = n ∧ ∀ x ∈ a, -w ≤ x ∧ x ≤ w) s [some (.val (.int (n : Int))), j3, j4, j5, j6, j7, j8, j9, none, none, none] ((List.range k).map fun (k : Nat) => PyData.int (k : Int)) (by simp; omega) a3 (by simp) (fun d ys hy => by
      obtain ⟨a, ys', e, q1, q2, q3, q4⟩ := vector_eq hy n (by omega) (-w) w (by omega)
      exact ⟨a, ys', by simp [e], ⟨q1, fun x hx => q2 x hx⟩, q3, q4⟩)
  refine ⟨as, y2, ?_, ?_, fun v hv => (c3 v hv).1, fun v hv x hx => by have := (c3 v hv).2 x hx; omega, c4⟩
  · rw [xComp_it it]; exact c1
  · rw [c2, List.length_map, List.length_range]; exact hk
/-! ### the turns with coordinates -/
def fB' : DSt := gSeq (gSet 7 (x2 kSub (x2 kMod (xCB kInt (aCons (xCallI f_u_law_next (aCons (xVar 1) (aNil))) (aNil))) (xC (.int 9))) (xC (.int 4)))) (gSet 5 (xCB kTuple (aCons (ofL (xComp (iRange1 (aCons (xVar 2) (aNil))) [10] (bName 10) (tTrue) (x2 kAdd (x2 kIx (xVar 5) (xVar 10)) (x2 kMul (xVar 7) (x2 kIx (xVar 6) (xVar 10)))))) (aNil))))
theorem fTurn' {s j3 j4 j6 j7 j8 j9 : Option SV} {n : Nat} (hn : n ≤ 6) {ys : List Int} (hy : Dr ys) {v one : Vec} (lv : v.length = n) (lo : one.length = n) {M : Nat} (hM : M ≤ 82) (so : Sz one (2 ^ M)) {A : Nat} (sv : Sz v A) (h6 : VS j6) (h7 : VS j7) :
    ∃ ys' v' j7', optF (bName 6 (vec one) (wE s ys n j3 j4 (some (.val (vec v))) j6 j7 j8 j9)) fB' = .nx (wE s ys' n j3 j4 (some (.val (vec v'))) (some (.val (vec one))) j7' j8 j9) ∧ VS j7' ∧ Dr ys' ∧ v'.length = n ∧ Sz v' (A + 4 * 2 ^ M) := by
  obtain ⟨u, y1, n1, a1, a2, a3, l1⟩ := next_ex hy
  have f9 := fmod_pos (a := u) (b := 9) (by decide)
  have d9 : divOk 9 = true := by decide
  have env : bName 6 (vec one) (wE s ys n j3 j4 (some (.val (vec v))) j6 j7 j8 j9) = some (wE s ys n j3 j4 (some (.val (vec v))) (some (.val (vec one))) j7 j8 j9) := by
    have := h6.io
    simp [-isIo_some, this]
  rw [env, optF_some]
  refine ⟨y1, lessV v (-(u.fmod 9 - 4)) one, some (.val (.int (u.fmod 9 - 4))), ?_, .val, a3, by rw [len_less (by omega), lv], ?_⟩
  · have t1 : gSet 7 (x2 kSub (x2 kMod (xCB kInt (aCons (xCallI f_u_law_next (aCons (xVar 1) (aNil))) (aNil))) (xC (.int 9))) (xC (.int 4))) (wE s ys n j3 j4 (some (.val (vec v))) (some (.val (vec one))) j7 j8 j9) = .nx (wE s y1 n j3 j4 (some (.val (vec v))) (some (.val (vec one))) (some (.val (.int (u.fmod 9 - 4)))) j8 j9) := by
      have := h7.io
      simp [-isIo_some, n1, d9, this]
    have mk : ∀ k, mulOk (u.fmod 9 - 4) (ge one k) = true := fun k => mulOk_sz (A := 3) (B := M) (by omega) (so k) (by omega)
    have c : xComp (iRange1 (aCons (xVar 2) (aNil))) [10] (bName 10) (tTrue) (x2 kAdd (x2 kIx (xVar 5) (xVar 10)) (x2 kMul (xVar 7) (x2 kIx (xVar 6) (xVar 10)))) (wE s y1 n j3 j4 (some (.val (vec v))) (some (.val (vec one))) (some (.val (.int (u.fmod 9 - 4)))) j8 j9) = .ok (.lst ((lessV v (-(u.fmod 9 - 4)) one).map PyData.int)) (wE s y1 n j3 j4 (some (.val (vec v))) (some (.val (vec one))) (some (.val (.int (u.fmod 9 - 4)))) j8 j9) := by
      rw [xComp_it (ρ1 := wE s y1 n j3 j4 (some (.val (vec v))) (some (.val (vec one))) (some (.val (.int (u.fmod 9 - 4)))) j8 j9) (iRange1_nat (n := n) (by simp) (by omega))]
      rw [xComp_of_map (e := fun (k : Nat) => PyData.int (k : Int)) (xs := List.range n) (g := fun k => PyData.int (ge v k + (u.fmod 9 - 4) * ge one k)) rfl (by simp) (by rw [List.length_range]; omega) (fun k hk => by
        have hk := List.mem_range.mp hk
        have e1 := gx (v := v) (p := k) (by omega)
        have e2 := gx (v := one) (p := k) (by omega)
        simp [e1, e2, mk k])]
      rw [← comb_range lv lo, List.map_map]
      rfl
    unfold fB'
    rw [gSeq_ap, t1, seqF_nx]
    simp only [wE] at c
    simp [-xComp_ap, c]
  · have := sz_less (f := -(u.fmod 9 - 4)) (by omega : v.length = one.length) sv so
    refine this.mono ?_
    have h4 : (-(u.fmod 9 - 4)).natAbs ≤ 4 := by omega
    have := Nat.mul_le_mul_right (2 ^ M) h4
    omega
theorem fLoop' {s j3 j4 j8 j9 : Option SV} {n : Nat} (hn : n ≤ 6) {M : Nat} (hM : M ≤ 82) : ∀ {S : List Vec} {ys : List Int} {v : Vec} {A : Nat} {j6 j7 : Option SV}, Dr ys → v.length = n → (∀ t ∈ S, t.length = n ∧ Sz t (2 ^ M)) → Sz v A → VS j6 → VS j7 →
    ∃ ys' v' j6' j7', forD (bName 6) fB' (S.map vec) (wE s ys n j3 j4 (some (.val (vec v))) j6 j7 j8 j9) = .nx (wE s ys' n j3 j4 (some (.val (vec v'))) j6' j7' j8 j9) ∧ VS j6' ∧ VS j7' ∧ Dr ys' ∧ v'.length = n ∧ Sz v' (A + S.length * (4 * 2 ^ M))
  | [], ys, v, A, j6, j7, hy, lv, _, sv, h6, h7 => ⟨ys, v, j6, j7, rfl, h6, h7, hy, lv, sv.mono (by simp)⟩
  | t :: S, ys, v, A, j6, j7, hy, lv, hS, sv, h6, h7 => by
    obtain ⟨lt, st⟩ := hS t List.mem_cons_self
    obtain ⟨y1, v1, b7, e, w7, hy1, l1, s1⟩ := fTurn' (s := s) (j3 := j3) (j4 := j4) (j8 := j8) (j9 := j9) hn hy lv lt hM st sv h6 h7
    obtain ⟨y2, v2, c6, c7, e2, x6, x7, hy2, l2, s2⟩ := fLoop' (s := s) (j3 := j3) (j4 := j4) (j8 := j8) (j9 := j9) hn hM (S := S) (j6 := some (.val (vec t))) hy1 l1 (fun r hr => hS r (List.mem_cons_of_mem _ hr)) s1 .val w7
    refine ⟨y2, v2, c6, c7, by rw [List.map_cons, forD_nx e, e2], x6, x7, hy2, l2, s2.mono ?_⟩
    rw [List.length_cons, Nat.add_mul, Nat.one_mul]; omega
theorem wTurn {s j8 j9 : Option SV} {n : Nat} (h1 : 1 ≤ n) (hn : n ≤ 5) {B : List Vec} (hB : BL n B) {ys : List Int} (hy : Dr ys) {d : D} {j4 j5 j6 j7 : Option SV} (h4 : VS j4) (h5 : VS j5) (h6 : VS j6) (h7 : VS j7) :
    ∃ ys' j5' j6' j7', optF (bName 4 d (wE s ys n (some (.val (mtx B))) j4 j5 j6 j7 j8 j9)) lB5 = .nx (wE s ys' n (some (.val (mtx B))) (some (.val d)) j5' j6' j7' j8 j9) ∧ VS j5' ∧ VS j6' ∧ VS j7' ∧ Dr ys' := by
  have env : bName 4 d (wE s ys n (some (.val (mtx B))) j4 j5 j6 j7 j8 j9) = some (wE s ys n (some (.val (mtx B))) (some (.val d)) j5 j6 j7 j8 j9) := by
    have := h4.io
    simp [-isIo_some, this]
  rw [env, optF_some]
  obtain ⟨as, y1, e1, q1, q2, q3, _⟩ := vector_eq hy n (by omega) (-9) 9 (by omega)
  obtain ⟨u, y2, n2, a1, a2, a3, l1⟩ := next_ex q3
  have d2 : divOk 2 = true := by decide
  have t1 : gSet 5 (xCallI f_u_law_vector (aCons (xVar 1) (aCons (xVar 2) (aCons (x1 kNeg (xC (.int 9))) (aCons (xC (.int 9)) (aNil)))))) (wE s ys n (some (.val (mtx B))) (some (.val d)) j5 j6 j7 j8 j9) = .nx (wE s y1 n (some (.val (mtx B))) (some (.val d)) (some (.val (vec as))) j6 j7 j8 j9) := by
    have := h5.io
    simp [-isIo_some, e1, this]
  have sa : Sz as (2 ^ 86) := sz_of fun x hx => by
    have := q2 x hx
    have : x.natAbs ≤ 2 ^ 4 := by omega
    exact Nat.le_trans this (pow_le (by decide))
  have t2 : ∃ ys' v j6' j7', gIf (xt2 kEq (x2 kMod (xCB kInt (aCons (xCallI f_u_law_next (aCons (xVar 1) (aNil))) (aNil))) (xC (.int 2))) (xC (.int 0))) (gSeq (gSet 5 (x2 kMulT (xTup (aCons (xC (.int 0)) (aNil))) (xVar 2))) (gFor (iSeq (xVar 3)) (bName 6) fB')) (gNext) (wE s y1 n (some (.val (mtx B))) (some (.val d)) (some (.val (vec as))) j6 j7 j8 j9) = .nx (wE s ys' n (some (.val (mtx B))) (some (.val d)) (some (.val (vec v))) j6' j7' j8 j9) ∧ VS j6' ∧ VS j7' ∧ Dr ys' ∧ v.length = n ∧ Sz v (2 ^ 86) := by
    have te : xt2 kEq (x2 kMod (xCB kInt (aCons (xCallI f_u_law_next (aCons (xVar 1) (aNil))) (aNil))) (xC (.int 2))) (xC (.int 0)) (wE s y1 n (some (.val (mtx B))) (some (.val d)) (some (.val (vec as))) j6 j7 j8 j9) = .ok (decide (u.fmod 2 = 0)) (wE s y2 n (some (.val (mtx B))) (some (.val d)) (some (.val (vec as))) j6 j7 j8 j9) := by
      simp [n2, d2]
    by_cases z : u.fmod 2 = 0
    · obtain ⟨y3, v, b6, b7, e, w6, w7, hy3, lv, sv⟩ := fLoop' (s := s) (j3 := some (.val (mtx B))) (j4 := some (.val d)) (j8 := j8) (j9 := j9) (by omega : n ≤ 6) (M := 82) (by decide) (S := B) (v := zeroV n) (A := 0) (j6 := j6) (j7 := j7) a3 len_zero (fun t ht => ⟨hB.st.len t ht, hB.sz t ht⟩) (fun k => by rw [ge_zero]; exact Nat.le_refl _) h6 h7
      refine ⟨y3, v, b6, b7, ?_, w6, w7, hy3, lv, sv.mono ?_⟩
      · have zz : (List.replicate n [PyData.int 0]).flatten = (zeroV n).map PyData.int := by
          unfold zeroV
          rw [List.map_replicate, List.flatten_replicate_singleton]
        have k1 : (n : Int) ≤ 1000 := by omega
        have k2 : (-1000 : Int) ≤ n := by omega
        have z1 : gSet 5 (x2 kMulT (xTup (aCons (xC (.int 0)) (aNil))) (xVar 2)) (wE s y2 n (some (.val (mtx B))) (some (.val d)) (some (.val (vec as))) j6 j7 j8 j9) = .nx (wE s y2 n (some (.val (mtx B))) (some (.val d)) (some (.val (vec (zeroV n)))) j6 j7 j8 j9) := by
          simp [k1, k2, zz]
        have it : iSeq (xVar 3) (wE s y2 n (some (.val (mtx B))) (some (.val d)) (some (.val (vec (zeroV n)))) j6 j7 j8 j9) = .ok (B.map vec) (wE s y2 n (some (.val (mtx B))) (some (.val d)) (some (.val (vec (zeroV n)))) j6 j7 j8 j9) := by
          simp
        rw [gIf_ap, te, bindF_ok, decide_eq_true z, if_pos rfl, gSeq_ap, z1, seqF_nx, gFor_ap, it, bindF_ok, e]
      · have := Nat.mul_le_mul_right (4 * 2 ^ 82) hB.ct
        have e3 : 0 + 3 * (4 * 2 ^ 82) ≤ 2 ^ 86 := by decide +kernel
        exact Nat.le_trans (Nat.add_le_add_left this 0) e3
    · refine ⟨y2, as, j6, j7, ?_, h6, h7, a3, q1, sa⟩
      rw [gIf_ap, te, bindF_ok, decide_eq_false z, if_neg Bool.false_ne_true]
      rfl
  obtain ⟨y3, v, b6, b7, e2, w6, w7, hy3, lv, sv⟩ := t2
  obtain ⟨z, hz⟩ := hB.repr lv sv
  have td := told_coord h1 (by omega) (X := 82) (by decide) hB.st hB.sz lv sv (by decide) (by have := hB.ct; omega)
  have ti := law_in_eq (by omega : n ≤ 1000) (X := 82) (by decide) hB.in lv sv (by decide) (by have := hB.ct; omega)
  have td' : f_u_law_told [.int 0, .list (B.map vec), vec v] = .ok (.val (inD B v)) := td
  have ti' : f_u_law_in [.tuple (B.map vec), vec v] = .ok (.val (inD B v)) := ti
  have t3 : gIf (xt2 kNe (xCB kRepr (aCons (xCall f_u_law_told (aCons (xC (.int 0)) (aCons (ofL (xCBL kList (aCons (xVar 3) (aNil)))) (aCons (xVar 5) (aNil))))) (aNil))) (xCB kRepr (aCons (xCall f_u_law_in (aCons (xVar 3) (aCons (xVar 5) (aNil)))) (aNil)))) (gRet (xC (.bool false))) (gNext) (wE s y3 n (some (.val (mtx B))) (some (.val d)) (some (.val (vec v))) b6 b7 j8 j9) = .nx (wE s y3 n (some (.val (mtx B))) (some (.val d)) (some (.val (vec v))) b6 b7 j8 j9) := by
    have kl : kList [mtx B] = some (B.map vec) := rfl
    unfold inD at td' ti' hz
    split at td' <;> rename_i q
    · rw [if_pos q] at ti' hz
      simp [kl, td', ti', hz]
    · rw [if_neg q] at ti' hz
      simp [kl, td', ti', hz]
  refine ⟨y3, some (.val (vec v)), b6, b7, ?_, .val, w6, w7, hy3⟩
  unfold lB5
  rw [gSeq_ap, t1, seqF_nx, gSeq_ap]
  unfold fB' at e2
  rw [e2, seqF_nx, t3]
theorem wLoop {s j8 j9 : Option SV} {n : Nat} (h1 : 1 ≤ n) (hn : n ≤ 5) {B : List Vec} (hB : BL n B) : ∀ (ds : List D) {ys : List Int} {j4 j5 j6 j7 : Option SV}, Dr ys → VS j4 → VS j5 → VS j6 → VS j7 →
    ∃ ys' j4' j5' j6' j7', forD (bName 4) lB5 ds (wE s ys n (some (.val (mtx B))) j4 j5 j6 j7 j8 j9) = .nx (wE s ys' n (some (.val (mtx B))) j4' j5' j6' j7' j8 j9) ∧ VS j4' ∧ VS j5' ∧ VS j6' ∧ VS j7' ∧ Dr ys'
  | [], ys, j4, j5, j6, j7, hy, h4, h5, h6, h7 => ⟨ys, j4, j5, j6, j7, rfl, h4, h5, h6, h7, hy⟩
  | d :: ds, ys, j4, j5, j6, j7, hy, h4, h5, h6, h7 => by
    obtain ⟨y1, b5, b6, b7, e, w5, w6, w7, hy1⟩ := wTurn (s := s) (j8 := j8) (j9 := j9) h1 hn hB hy (d := d) h4 h5 h6 h7
    obtain ⟨y2, c4, c5, c6, c7, e2, x4, x5, x6, x7, hy2⟩ := wLoop (s := s) (j8 := j8) (j9 := j9) h1 hn hB ds (j4 := some (.val d)) hy1 .val w5 w6 w7
    exact ⟨y2, c4, c5, c6, c7, by rw [forD_nx e, e2], x4, x5, x6, x7, hy2⟩
end K03

namespace K03
open L2 PySem PySem.Spec PyProof.Rows DL
open HN
theorem law_dot_eq {a b : Vec} (hl : a.length ≤ b.length) (h10 : a.length ≤ 1000) (hm : ∀ k, mulOk (ge a k) (ge b k) = true) : f_u_law_dot [vec a, vec b] = .ok (.val (.int (dotI a b))) := by
  unfold f_u_law_dot
  rw [runF_out]
  have hc : xComp (iRange1 (aCons (xCB kLen (aCons (xVar 0) aNil)) aNil)) [2] (bName 2) tTrue (x2 kMul (x2 kIx (xVar 0) (xVar 2)) (x2 kIx (xVar 1) (xVar 2))) [some (.val (vec a)), some (.val (vec b)), none] =
      .ok (.lst ((List.range a.length).map fun k => PyData.int (ge a k * ge b k))) [some (.val (vec a)), some (.val (vec b)), none] := by
    have l16 : a.length ≤ 16777216 := by omega
    refine xComp_of_map (e := fun (k : Nat) => PyData.int (k : Int)) ?_ (by simp) (by rw [List.length_range]; omega) fun k hk => ?_
    · exact iRange1_nat (by simp [l16]) (by omega)
    · have hk' : k < a.length := List.mem_range.mp hk
      have e1 := gx (v := a) (p := k) (by omega)
      have e2 := gx (v := b) (p := k) (by omega)
      simp [e1, e2, hm k]
  have e : ((List.range a.length).map fun k => ge a k * ge b k) = List.zipWith (fun x y => x * y) a b := range_dot a b hl
  have ks := kSum_ints (f := fun k => ge a k * ge b k) (xs := List.range a.length)
  rw [e] at ks
  simp [-xComp_ap, b_u_law_dot, startD, hc, ks, dotI]
theorem st8 {s j3 j4 j5 j6 j7 : Option SV} {ys : List Int} {n : Nat} {vs K : List Vec} {z : Str} (hv : vs.length ≤ 1000) (hK : K.length ≤ 1000) (h6 : VS j6) (hr : kRepr [mtx K] = some (.str z)) (hd : f_u_law_orthogonal [lvs vs, .int (n : Int)] = .ok (.val (mtx K))) (hz : ∀ r ∈ K, ∀ v ∈ vs, f_u_law_dot [vec r, vec v] = .ok (.val (.int 0))) :
    lS8 (wE s ys n j3 j4 j5 j6 j7 (some (.val (lvs vs))) (some (.val (mtx K)))) = .nx (wE s ys n j3 j4 j5 j6 j7 (some (.val (lvs vs))) (some (.val (mtx K)))) := by
  have ci : ∀ r ∈ K, xComp (iSeq (xVar 8)) [11] (bName 11) (tTrue) (x2 (kB kNe) (xCall f_u_law_dot (aCons (xVar 6) (aCons (xVar 11) (aNil)))) (xC (.int 0))) (wE s ys n j3 j4 j5 (some (.val (vec r))) j7 (some (.val (lvs vs))) (some (.val (mtx K)))) = .ok (.lst (vs.map fun v => PyData.bool ((fun _ => false) v))) (wE s ys n j3 j4 j5 (some (.val (vec r))) j7 (some (.val (lvs vs))) (some (.val (mtx K)))) := fun r hr => by
    refine xComp_of_map (e := vec) (by simp) (by simp) (by omega) fun v hv => ?_
    simp [hz r hr v hv]
  have co : xComp (iSeq (xVar 9)) [6] (bName 6) (tTrue) (xCB kAny (aCons (ofL (xComp (iSeq (xVar 8)) [11] (bName 11) (tTrue) (x2 (kB kNe) (xCall f_u_law_dot (aCons (xVar 6) (aCons (xVar 11) (aNil)))) (xC (.int 0))))) (aNil))) (wE s ys n j3 j4 j5 j6 j7 (some (.val (lvs vs))) (some (.val (mtx K)))) = .ok (.lst (K.map fun r => PyData.bool ((fun _ => false) r))) (wE s ys n j3 j4 j5 j6 j7 (some (.val (lvs vs))) (some (.val (mtx K)))) := by
    have o6 := h6.own
    have i6 := h6.io
    refine xComp_of_map (e := vec) (by simp) (by simp [-isOwn_some, o6]) (by omega) fun r hr => ?_
    have c := ci r hr
    simp only [wE] at c
    have af : (vs.any fun _ => false) = false := by simp
    clear o6 i6
    rcases h6 with rfl | ⟨d6, rfl⟩ <;> simp [-xComp_ap, c, af]
  simp only [wE] at co
  simp [-xComp_ap, lS8, hr, hd, co]
theorem zTurn {s j3 j5 j7 : Option SV} {n : Nat} (h1 : 1 ≤ n) (hn : n ≤ 5) {vs K : List Vec} (hl : Len n vs) (hc : vs.length ≤ 4) (sz : ∀ v ∈ vs, Sz v 4) (hK : KF n vs K) {ys : List Int} (hy : Dr ys) {d : D} {j4 j6 : Option SV} (h4 : VS j4) (h6 : VS j6) :
    ∃ ys' j6', optF (bName 4 d (wE s ys n j3 j4 j5 j6 j7 (some (.val (lvs vs))) (some (.val (mtx K))))) lB9 = .nx (wE s ys' n j3 (some (.val d)) j5 j6' j7 (some (.val (lvs vs))) (some (.val (mtx K)))) ∧ VS j6' ∧ Dr ys' := by
  have env : bName 4 d (wE s ys n j3 j4 j5 j6 j7 (some (.val (lvs vs))) (some (.val (mtx K)))) = some (wE s ys n j3 (some (.val d)) j5 j6 j7 (some (.val (lvs vs))) (some (.val (mtx K)))) := by
    have := h4.io
    simp [-isIo_some, this]
  rw [env, optF_some]
  obtain ⟨as, y1, e1, q1, q2, q3, _⟩ := vector_eq hy n (by omega) (-2) 2 (by omega)
  have t1 : gSet 6 (xCallI f_u_law_vector (aCons (xVar 1) (aCons (xVar 2) (aCons (x1 kNeg (xC (.int 2))) (aCons (xC (.int 2)) (aNil)))))) (wE s ys n j3 (some (.val d)) j5 j6 j7 (some (.val (lvs vs))) (some (.val (mtx K)))) = .nx (wE s y1 n j3 (some (.val d)) j5 (some (.val (vec as))) j7 (some (.val (lvs vs))) (some (.val (mtx K)))) := by
    have := h6.io
    simp [-isIo_some, e1, this]
  have sa : Sz as 2 := sz_of fun x hx => by have := q2 x hx; omega
  have dt : ∀ v ∈ vs, f_u_law_dot [vec as, vec v] = .ok (.val (.int (dotI as v))) := fun v hv => law_dot_eq (by rw [q1, hl v hv]; exact Nat.le_refl _) (by omega) fun k => mulOk_sz (A := 1) (B := 2) (sa k) (sz v hv k) (by decide)
  have c : xComp (iSeq (xVar 8)) [11] (bName 11) (tTrue) (x2 (kB kEq) (xCall f_u_law_dot (aCons (xVar 6) (aCons (xVar 11) (aNil)))) (xC (.int 0))) (wE s y1 n j3 (some (.val d)) j5 (some (.val (vec as))) j7 (some (.val (lvs vs))) (some (.val (mtx K)))) = .ok (.lst (vs.map fun v => PyData.bool (decide (dotI as v = 0)))) (wE s y1 n j3 (some (.val d)) j5 (some (.val (vec as))) j7 (some (.val (lvs vs))) (some (.val (mtx K)))) := by
    refine xComp_of_map (e := vec) (by simp) (by simp) (by omega) fun v hv => ?_
    simp [dt v hv]
  have ti := law_in_eq (by omega : n ≤ 1000) (X := 292) (A := 1) (by decide) (fun t ht => ⟨(stairs_pw.mp hK.st).1 t ht, hK.sz t ht⟩) q1 sa (by decide) (by have := hK.ct; omega)
  refine ⟨y1, some (.val (vec as)), ?_, .val, q3⟩
  unfold lB9
  rw [gSeq_ap, t1, seqF_nx]
  simp only [wE] at c
  by_cases z : ∀ v ∈ vs, dotI as v = 0
  · have lat := hK.all as q1 z
    have iz : isZ (K.foldl inStep as) = true := by rw [in_run hK.st lat]; exact isZ_zero
    unfold inD at ti
    rw [if_pos iz] at ti
    have ti' : f_u_law_in [.tuple (K.map vec), vec as] = .ok (.val (.tuple (zs (facs K as)))) := ti
    have ki : kIs (.tuple (zs (facs K as))) .none = some false := rfl
    simp [-xComp_ap, c, ti', z]
  · have z2 : ∃ x, x ∈ vs ∧ ¬ dotI as x = 0 := by
      obtain ⟨x, hx⟩ := Classical.not_forall.mp z
      obtain ⟨a, b⟩ := Classical.not_imp.mp hx
      exact ⟨x, a, b⟩
    simp [-xComp_ap, c]
    simp [z]
theorem zLoop {s j3 j5 j7 : Option SV} {n : Nat} (h1 : 1 ≤ n) (hn : n ≤ 5) {vs K : List Vec} (hl : Len n vs) (hc : vs.length ≤ 4) (sz : ∀ v ∈ vs, Sz v 4) (hK : KF n vs K) : ∀ (ds : List D) {ys : List Int} {j4 j6 : Option SV}, Dr ys → VS j4 → VS j6 →
    ∃ ys' j4' j6', forD (bName 4) lB9 ds (wE s ys n j3 j4 j5 j6 j7 (some (.val (lvs vs))) (some (.val (mtx K)))) = .nx (wE s ys' n j3 j4' j5 j6' j7 (some (.val (lvs vs))) (some (.val (mtx K))))
  | [], ys, j4, j6, hy, h4, h6 => ⟨ys, j4, j6, rfl⟩
  | d :: ds, ys, j4, j6, hy, h4, h6 => by
    obtain ⟨y1, b6, e, w6, hy1⟩ := zTurn (s := s) (j3 := j3) (j5 := j5) (j7 := j7) h1 hn hl hc sz hK hy (d := d) h4 h6
    obtain ⟨y2, c4, c6, e2⟩ := zLoop (s := s) (j3 := j3) (j5 := j5) (j7 := j7) h1 hn hl hc sz hK ds (j4 := some (.val d)) hy1 .val w6
    exact ⟨y2, c4, c6, by rw [forD_nx e, e2]⟩
/-! ### the lists at the end -/
theorem big_sz {v : Vec} (h : ∀ x ∈ v, x.natAbs ≤ 100) : Sz v (2 ^ 8900) := (sz_of (F := 2 ^ 7) fun x hx => by have := h x hx; omega).mono (pow_le (by decide))
theorem w1 : f_u_law_told [.int 0, lvs [[0, 1], [1, 0]], vec [0, 0]] = .ok (.val (.str "!number")) :=
  told_of_err0 (coord_bad1 (n := 2) (by decide) (by decide) (S := [[0, 1], [1, 0]]) (fun v hv => by simp at hv; rcases hv with rfl | rfl <;> rfl) (by
    refine .cons (fun w hw => ?_) (.cons (fun w hw => by cases hw) .nil)
    simp at hw; subst hw
    intro k hk
    match k with
    | 0 => exact .inl rfl
    | k + 1 => have := (hk 0 (by omega)).2; simp [ge] at this) (fun v hv => big_sz (by simp at hv; rcases hv with rfl | rfl <;> decide)) (by decide) (by decide +kernel))
theorem one_apart (v : Vec) : [v].Pairwise Apart := .cons (fun w hw => by cases hw) .nil
theorem w2 : f_u_law_told [.int 0, lvs [[2, 1]], vec [0]] = .ok (.val (.str "!number")) :=
  told_of_err0 (coord_bad2 (n := 2) (by decide) (by decide) (s := [2, 1]) (S := []) (v := [0]) ((isSt_iff (fun v hv => by simp at hv; subst hv; rfl)).mp (by decide +kernel)) (fun v hv => big_sz (by simp at hv; subst hv; decide)) (by decide) (by decide) (by decide) (by decide))
theorem w3 : f_u_law_told [.int 0, lvs [[0, 0]], vec [0, 0]] = .ok (.val (.str "!number")) :=
  told_of_err0 (coord_bad1 (n := 2) (by decide) (by decide) (S := [[0, 0]]) (fun v hv => by simp at hv; subst hv; rfl) (one_apart _) (fun v hv => big_sz (by simp at hv; subst hv; decide)) (by decide) (by decide +kernel))
theorem w4 : f_u_law_told [.int 0, lvs [[-1, 0]], vec [0, 0]] = .ok (.val (.str "!number")) :=
  told_of_err0 (coord_bad1 (n := 2) (by decide) (by decide) (S := [[-1, 0]]) (fun v hv => by simp at hv; subst hv; rfl) (one_apart _) (fun v hv => big_sz (by simp at hv; subst hv; decide)) (by decide) (by decide +kernel))
theorem w5 : f_u_law_told [.int 1, lvs [], .int 0] = .ok (.val (.str "!number")) := told_of_err1 (orthogonal_bad (vs := []) (m := 0) (by simp) (by decide) (fun h => absurd h.1 (by decide)))
theorem w6 : f_u_law_told [.int 1, lvs [], .int 7] = .ok (.val (.str "!number")) := told_of_err1 (orthogonal_bad (vs := []) (m := 7) (by simp) (by decide) (fun h => absurd h.2 (by decide)))
theorem w7 : f_u_law_told [.int 1, lvs [[1, 2]], .int 3] = .ok (.val (.str "!number")) := told_of_err1 (orthogonal_bad (vs := [[1, 2]]) (m := 3) (fun v hv => by simp at hv; subst hv; decide) (by decide) (fun _ => by decide +kernel))
theorem w8 : f_u_law_told [.int 1, lvs (List.replicate 41 [1]), .int 1] = .ok (.val (.str "!number")) := told_of_err1 (orthogonal_bad (vs := List.replicate 41 [1]) (m := 1) (fun v hv => by rw [List.eq_of_mem_replicate hv]; decide) (by decide) (fun _ => by decide +kernel))
theorem len2 {v : Vec} (h : v.length = 2) : v = [ge v 0, ge v 1] := by
  match v, h with
  | [a, b], _ => rfl
theorem e1 : f_u_law_told [.int 1, lvs [], .int 2] = .ok (.val (mtx [[1, 0], [0, 1]])) := by
  obtain ⟨K, hK⟩ := kern_facts (n := 2) (by decide) (by decide) (vs := []) (fun v hv => by cases hv) (by decide) (fun v hv => by cases hv)
  have l2 : Len 2 [[1, 0], [0, 1]] := fun v hv => by simp at hv; rcases hv with rfl | rfl <;> rfl
  have e : K = [[1, 0], [0, 1]] := by
    refine hK.st.uniq ((isSt_iff l2).mp (by decide +kernel)) (latEq_of hK.st.len l2 (fun g hg => ?_) fun g hg => hK.all g (l2 g hg) fun v hv => by cases hv)
    have lg := hK.st.len g hg
    have := ((Lat.zero (n := 2) (G := [[1, 0], [0, 1]])).step (-(ge g 0)) (g := [1, 0]) (by simp)).step (-(ge g 1)) (g := [0, 1]) (by simp)
    have q : lessV (lessV (zeroV 2) (-(ge g 0)) [1, 0]) (-(ge g 1)) [0, 1] = g := by
      rw [len2 lg]
      simp [lessV, zeroV, ge, List.replicate]
    rw [q] at this; exact this
  rw [← e]; exact hK.told
theorem e2 : f_u_law_told [.int 1, lvs [[2, 4]], .int 2] = .ok (.val (mtx [[2, -1]])) := by
  obtain ⟨K, hK⟩ := kern_facts (n := 2) (by decide) (by decide) (vs := [[2, 4]]) (fun v hv => by simp at hv; subst hv; rfl) (by decide) (fun v hv => by simp at hv; subst hv; exact sz_of (by decide))
  have l2 : Len 2 [[2, -1]] := fun v hv => by simp at hv; subst hv; rfl
  have e : K = [[2, -1]] := by
    refine hK.st.uniq ((isSt_iff l2).mp (by decide +kernel)) (latEq_of hK.st.len l2 (fun g hg => ?_) fun g hg => hK.all g (l2 g hg) fun v hv => by simp at hg hv; subst hg; subst hv; decide)
    have lg := hK.st.len g hg
    have d := hK.dot g hg [2, 4] (by simp)
    rw [len2 lg] at d
    simp [dotI] at d
    have := (Lat.zero (n := 2) (G := [[2, -1]])).step (ge g 1) (g := [2, -1]) (by simp)
    have q : lessV (zeroV 2) (ge g 1) [2, -1] = g := by
      rw [len2 lg]
      simp [lessV, zeroV, ge, List.replicate]
      simp [ge] at d
      omega
    rw [q] at this; exact this
  rw [← e]; exact hK.told
theorem e3 : f_u_law_told [.int 0, lvs [[2, 1], [0, 3]], vec [2, -5]] = .ok (.val (vec [1, -2])) := by
  have l2 : Len 2 [[2, 1], [0, 3]] := fun v hv => by simp at hv; rcases hv with rfl | rfl <;> rfl
  have := told_coord (n := 2) (X := 3) (A := 3) (by decide) (by decide) (by decide) (S := [[2, 1], [0, 3]]) (v := [2, -5]) ((isSt_iff l2).mp (by decide +kernel)) (fun v hv => sz_of (by simp at hv; rcases hv with rfl | rfl <;> decide)) rfl (sz_of (by decide)) (by decide) (by decide)
  have i : inD [[2, 1], [0, 3]] [2, -5] = vec [1, -2] := by
    unfold inD
    rw [if_pos (by decide +kernel)]
    have : facs [[2, 1], [0, 3]] [2, -5] = [1, -2] := by decide +kernel
    rw [this]
  rw [i] at this; exact this
end K03

namespace K03
open L2 PySem PySem.Spec PyProof.Rows DL
open HN
theorem guards4 : (∀ k, k < 3 → Fq 4 k ≤ 8900) ∧ (∀ k, k < 4 → Gq 4 k ≤ 400000) := by decide +kernel
theorem bound4 : ∀ m, m < 4 → Xs 4 (m - 1) + (Xs 4 (m - 1) + 2) * m ≤ 82 := by decide +kernel
theorem st10 {s j3 j4 j5 j6 j7 j8 j9 : Option SV} {ys : List Int} {n : Nat} : lS10 (wE s ys n j3 j4 j5 j6 j7 j8 j9) = .nx (wE s ys n j3 j4 j5 j6 j7 j8 j9) := by
  have a1 : f_u_law_told [.int 0, .list [.tuple [.int 0, .int 1], .tuple [.int 1, .int 0]], .tuple [.int 0, .int 0]] = .ok (.val (.str "!number")) := w1
  have a2 : f_u_law_told [.int 0, .list [.tuple [.int 2, .int 1]], .tuple [.int 0]] = .ok (.val (.str "!number")) := w2
  have a3 : f_u_law_told [.int 0, .list [.tuple [.int 0, .int 0]], .tuple [.int 0, .int 0]] = .ok (.val (.str "!number")) := w3
  have a4 : f_u_law_told [.int 0, .list [.tuple [.int (-1), .int 0]], .tuple [.int 0, .int 0]] = .ok (.val (.str "!number")) := w4
  have q : kNe (.list [.str "!number", .str "!number", .str "!number", .str "!number"]) (.list [.str "!number", .str "!number", .str "!number", .str "!number"]) = some false := by decide +kernel
  have r : (List.replicate (4 : Int).toNat [PyData.str "!number"]).flatten = [.str "!number", .str "!number", .str "!number", .str "!number"] := rfl
  simp [lS10, xRepL, a1, a2, a3, a4, r, q]
theorem st11 {s j3 j4 j5 j6 j7 j8 j9 : Option SV} {ys : List Int} {n : Nat} : lS11 (wE s ys n j3 j4 j5 j6 j7 j8 j9) = .nx (wE s ys n j3 j4 j5 j6 j7 j8 j9) := by
  have a5 : f_u_law_told [.int 1, .list [], .int 0] = .ok (.val (.str "!number")) := w5
  have a6 : f_u_law_told [.int 1, .list [], .int 7] = .ok (.val (.str "!number")) := w6
  have a7 : f_u_law_told [.int 1, .list [.tuple [.int 1, .int 2]], .int 3] = .ok (.val (.str "!number")) := w7
  have a8 : f_u_law_told [.int 1, .list (List.replicate 41 (.tuple [.int 1])), .int 1] = .ok (.val (.str "!number")) := w8
  have q : kNe (.list [.str "!number", .str "!number"]) (.list (List.replicate 2 (.str "!number"))) = some false := by decide +kernel
  have r : (List.replicate (2 : Int).toNat [PyData.str "!number"]).flatten = [.str "!number", .str "!number"] := rfl
  have rf : ∀ {m : Nat} {d : D}, (List.replicate m [d]).flatten = List.replicate m d := List.flatten_replicate_singleton
  simp [lS11, xRepL, a5, a6, a7, a8, q, rf, -List.reduceReplicate]
theorem st12 {s j3 j4 j5 j6 j7 j8 j9 : Option SV} {ys : List Int} {n : Nat} : ∃ ρ, lS12 (wE s ys n j3 j4 j5 j6 j7 j8 j9) = .rt (.val (.bool true)) ρ := by
  have a1 : f_u_law_told [.int 1, .list [], .int 2] = .ok (.val (.tuple [.tuple [.int 1, .int 0], .tuple [.int 0, .int 1]])) := e1
  have a2 : f_u_law_told [.int 1, .list [.tuple [.int 2, .int 4]], .int 2] = .ok (.val (.tuple [.tuple [.int 2, .int (-1)]])) := e2
  have a3 : f_u_law_told [.int 0, .list [.tuple [.int 2, .int 1], .tuple [.int 0, .int 3]], .tuple [.int 2, .int (-5)]] = .ok (.val (.tuple [.int 1, .int (-2)])) := e3
  obtain ⟨z1, h1⟩ : ∃ z, kRepr [.tuple [.tuple [.int 1, .int 0], .tuple [.int 0, .int 1]]] = some (.str z) := repr_mtxB (C := [[1, 0], [0, 1]]) (by decide) (fun v hv => by
    simp at hv; rcases hv with rfl | rfl <;> exact ⟨by decide, fun x hx => Nat.le_trans (m := 2 ^ 7) (by simp at hx; rcases hx with rfl | rfl <;> decide) (pow_le (by decide))⟩)
  obtain ⟨z2, h2⟩ : ∃ z, kRepr [.tuple [.tuple [.int 2, .int (-1)]]] = some (.str z) := repr_mtxB (C := [[2, -1]]) (by decide) (fun v hv => by
    simp at hv; subst hv; exact ⟨by decide, fun x hx => Nat.le_trans (m := 2 ^ 7) (by simp at hx; rcases hx with rfl | rfl <;> decide) (pow_le (by decide))⟩)
  obtain ⟨z3, h3⟩ : ∃ z, kRepr [.tuple [.int 1, .int (-2)]] = some (.str z) := repr_vec (v := [1, -2]) (by decide) (by decide)
  simp [lS12, a1, a2, a3, h1, h2, h3]
theorem pure_law : ∀ ns : List Int, ns.length ≤ 63 → (∀ z ∈ ns, Builtin.Int.intBits z ≤ 1048576) → f_law [.list (ns.map PyData.int)] = .ok (.val (.bool true)) := by
  intro ns hl _
  obtain ⟨xs, d1, dx, lx⟩ := draws_eq ns hl
  have dx2 : Dr xs.reverse := fun x hx => dx x (List.mem_reverse.mp hx)
  obtain ⟨ys, zs1, e2, dy, ly, _⟩ := more_eq xs.reverse dx2 (by rw [List.length_reverse]; exact lx) 120 (by omega)
  have e2' : f_u_law_more (zs xs.reverse) [.int 120] = some (.own (.lst (zs ys)), zs zs1) := e2
  obtain ⟨u, y1, n1, a1, a2, a3, l1⟩ := next_ex dy
  obtain ⟨m, hm, em⟩ := fmod_len (u := u) (m := 5) (by decide)
  have em' : u.fmod 5 = (m : Int) := em
  obtain ⟨n, en⟩ : ∃ n, n = 1 + m := ⟨_, rfl⟩
  have h1 : 1 ≤ n := by omega
  have h5 : n ≤ 5 := by omega
  have en' : (1 : Int) + (m : Int) = (n : Int) := by omega
  have s0 : gSetL 1 (xCallL f_u_law_draws (aCons (xVar 0) (aNil))) [some (.val (.list (zs ns))), none, none, none, none, none, none, none, none, none, none, none, none] = .nx [some (.val (.list (zs ns))), some (.own false (.lst (zs xs))), none, none, none, none, none, none, none, none, none, none, none] := by
    simp [d1]
  have s1 : gExpr (xM 1 mReverse aNil) [some (.val (.list (zs ns))), some (.own false (.lst (zs xs))), none, none, none, none, none, none, none, none, none, none, none] = .nx [some (.val (.list (zs ns))), some (.own false (.lst (zs xs.reverse))), none, none, none, none, none, none, none, none, none, none, none] := by
    simp
  have s2 : gSetL 1 (xCallIL f_u_law_more (aCons (xVar 1) (aCons (xC (.int 120)) (aNil)))) [some (.val (.list (zs ns))), some (.own false (.lst (zs xs.reverse))), none, none, none, none, none, none, none, none, none, none, none] = .nx [some (.val (.list (zs ns))), some (.own false (.lst (zs ys))), none, none, none, none, none, none, none, none, none, none, none] := by
    clear e2
    revert e2'
    generalize xs.reverse = xr
    intro e2'
    simp [e2']
  have d5 : divOk 5 = true := by decide
  have s3 : gSet 2 (x2 kAdd (xC (.int 1)) (x2 kMod (xCB kInt (aCons (xCallI f_u_law_next (aCons (xVar 1) (aNil))) (aNil))) (xC (.int 5)))) [some (.val (.list (zs ns))), some (.own false (.lst (zs ys))), none, none, none, none, none, none, none, none, none, none, none] = .nx (wE (some (.val (.list (zs ns)))) y1 n none none none none none none none) := by
    simp [n1, d5, em', en']
  -- the basis
  obtain ⟨vs0, y2, c4, lt4, ll4, sz4, dy2⟩ := drawVs (s := some (.val (.list (zs ns)))) (j3 := none) (j4 := none) (j5 := none) (j6 := none) (j7 := none) (j8 := none) (j9 := none) (by omega : n ≤ 6) (m := 4) (by decide) (by decide) (w := 9) (by decide) (by decide) a3
  have sv4 : ∀ v ∈ vs0, Sz v (2 ^ 4) := fun v hv => sz_of fun x hx => by have := sz4 v hv x hx; omega
  obtain ⟨o1, o2, o3⟩ := stairs_ok ll4
  have rg := rg_main (E := 4) (K := 3) ll4 sv4 (by omega) guards4.1 (fun k hk => guards4.2 k (by omega)) (by decide) (by omega)
  have er := law_reduced_eq (n := n) (by omega) (by omega) rg (by omega)
  have hB : BL n (stairsV vs0 n) := ⟨o1, by omega, fun t ht => (Stairs.bound ll4 sv4 o1 o2 t ht).mono (pow_le (bound4 _ (by omega)))⟩
  generalize stairsV vs0 n = B at *
  have s4 : lS4 (wE (some (.val (.list (zs ns)))) y1 n none none none none none none none) = .nx (wE (some (.val (.list (zs ns)))) y2 n (some (.val (mtx B))) none none none none none none) := by
    have c4' : xComp (iRange1 (aCons (x2 kMod (xCB kInt (aCons (xCallI f_u_law_next (aCons (xVar 1) (aNil))) (aNil))) (xC (.int 4))) (aNil))) [10] (bName 10) (tTrue) (xCallI f_u_law_vector (aCons (xVar 1) (aCons (xVar 2) (aCons (x1 kNeg (xC (.int 9))) (aCons (xC (.int 9)) (aNil)))))) (wE (some (.val (.list (zs ns)))) y1 n none none none none none none none) = .ok (.lst (vs0.map vec)) (wE (some (.val (.list (zs ns)))) y2 n none none none none none none none) := c4
    simp only [wE] at c4'
    simp [-xComp_ap, lS4, c4', er]
  obtain ⟨y3, j4, j5, j6, j7, e5, v4, v5, v6, v7, dy3⟩ := wLoop (s := some (.val (.list (zs ns)))) (j8 := none) (j9 := none) h1 h5 hB ((List.range 4).map fun (k : Nat) => PyData.int (k : Int)) (j4 := none) (j5 := none) (j6 := none) (j7 := none) dy2 (.inl rfl) (.inl rfl) (.inl rfl) (.inl rfl)
  have i5 : lI5 (wE (some (.val (.list (zs ns)))) y2 n (some (.val (mtx B))) none none none none none none) = .ok ((List.range 4).map fun (k : Nat) => PyData.int (k : Int)) (wE (some (.val (.list (zs ns)))) y2 n (some (.val (mtx B))) none none none none none none) :=
    iRange1_nat (n := 4) (by simp) (by decide)
  -- the other lists
  obtain ⟨vs, y4, c6, lt6, ll6, sz6, dy4⟩ := drawVs (s := some (.val (.list (zs ns)))) (j3 := some (.val (mtx B))) (j4 := j4) (j5 := j5) (j6 := j6) (j7 := j7) (j8 := none) (j9 := none) (by omega : n ≤ 6) (m := 5) (by decide) (by decide) (w := 4) (by decide) (by decide) dy3
  have s6 : lS6 (wE (some (.val (.list (zs ns)))) y3 n (some (.val (mtx B))) j4 j5 j6 j7 none none) = .nx (wE (some (.val (.list (zs ns)))) y4 n (some (.val (mtx B))) j4 j5 j6 j7 (some (.val (lvs vs))) none) := by
    have c6' : xComp (iRange1 (aCons (x2 kMod (xCB kInt (aCons (xCallI f_u_law_next (aCons (xVar 1) (aNil))) (aNil))) (xC (.int 5))) (aNil))) [10] (bName 10) (tTrue) (xCallI f_u_law_vector (aCons (xVar 1) (aCons (xVar 2) (aCons (x1 kNeg (xC (.int 4))) (aCons (xC (.int 4)) (aNil)))))) (wE (some (.val (.list (zs ns)))) y3 n (some (.val (mtx B))) j4 j5 j6 j7 none none) = .ok (.lst (vs.map vec)) (wE (some (.val (.list (zs ns)))) y4 n (some (.val (mtx B))) j4 j5 j6 j7 none none) := c6
    simp only [wE] at c6'
    simp [-xComp_ap, lS6, c6']
  have sv6 : ∀ v ∈ vs, Sz v 4 := fun v hv => sz_of fun x hx => by have := sz6 v hv x hx; omega
  obtain ⟨K, hK⟩ := kern_facts h1 h5 ll6 (by omega) sv6
  have s7 : lS7 (wE (some (.val (.list (zs ns)))) y4 n (some (.val (mtx B))) j4 j5 j6 j7 (some (.val (lvs vs))) none) = .nx (wE (some (.val (.list (zs ns)))) y4 n (some (.val (mtx B))) j4 j5 j6 j7 (some (.val (lvs vs))) (some (.val (mtx K)))) := by
    have t := hK.told
    simp [lS7, t]
  obtain ⟨z, hz⟩ := repr_mtxB (C := K) (by have := hK.ct; omega) (fun v hv => ⟨by rw [hK.st.len v hv]; omega, fun x hx => Nat.le_trans ((hK.sz v hv).mem hx) (pow_le (by decide))⟩)
  have s8 := st8 (s := some (.val (.list (zs ns)))) (j3 := some (.val (mtx B))) (j4 := j4) (j5 := j5) (j6 := j6) (j7 := j7) (ys := y4) (n := n) (vs := vs) (K := K) (by omega) (by have := hK.ct; omega) v6 hz hK.due (fun r hr v hv => by
    have e := law_dot_eq (a := r) (b := v) (by rw [hK.st.len r hr, ll6 v hv]; exact Nat.le_refl _) (by rw [hK.st.len r hr]; omega) fun k => mulOk_sz (A := 292) (B := 2) (hK.sz r hr k) (sv6 v hv k) (by decide)
    rw [hK.dot r hr v hv] at e; exact e)
  obtain ⟨y5, k4, k6, e9⟩ := zLoop (s := some (.val (.list (zs ns)))) (j3 := some (.val (mtx B))) (j5 := j5) (j7 := j7) h1 h5 ll6 (by omega) sv6 hK ((List.range 6).map fun (k : Nat) => PyData.int (k : Int)) (j4 := j4) (j6 := j6) dy4 v4 v6
  have i9 : lI9 (wE (some (.val (.list (zs ns)))) y4 n (some (.val (mtx B))) j4 j5 j6 j7 (some (.val (lvs vs))) (some (.val (mtx K)))) = .ok ((List.range 6).map fun (k : Nat) => PyData.int (k : Int)) (wE (some (.val (.list (zs ns)))) y4 n (some (.val (mtx B))) j4 j5 j6 j7 (some (.val (lvs vs))) (some (.val (mtx K)))) :=
    iRange1_nat (n := 6) (by simp) (by decide)
  obtain ⟨ρ, e12⟩ := st12 (s := some (.val (.list (zs ns)))) (ys := y5) (n := n) (j3 := some (.val (mtx B))) (j4 := k4) (j5 := j5) (j6 := k6) (j7 := j7) (j8 := some (.val (lvs vs))) (j9 := some (.val (mtx K)))
  unfold f_law
  rw [runF_out]
  show outF (b_law [some (.val (.list (zs ns))), none, none, none, none, none, none, none, none, none, none, none, none]) = _
  rw [b_law_eq, gSeq_ap, s0, seqF_nx, gSeq_ap, s1, seqF_nx, gSeq_ap, s2, seqF_nx, gSeq_ap, s3, seqF_nx, gSeq_ap, s4, seqF_nx, gSeq_ap, gFor_ap, i5, bindF_ok, e5, seqF_nx, gSeq_ap, s6, seqF_nx, gSeq_ap, s7, seqF_nx, gSeq_ap, s8, seqF_nx, gSeq_ap, gFor_ap, i9, bindF_ok, e9, seqF_nx, gSeq_ap, st10, seqF_nx, gSeq_ap, st11, seqF_nx, e12]
  rfl
end K03

namespace K03
open L2 PySem PySem.Spec PyProof.Rows DL
theorem walk {l : PySem.W.OpenLaw} {q : Program} {loose : List Str} {XP : (Str → Option Value) → Heap → Prop} {YP : World → Heap → Prop} {d : DefRec} {K : Params → Frg} (hn : l.most = some 63) (hdf : d.params.defaults = [])
    (hY : ∀ (w : World) (h : Heap), YP w h → (K w.params).In h)
    (F : ∀ (w : World) (mg : Mg) (fa : Addr) (h : Heap), (K w.params).In h → h.Ns mainGlobals mg → mg d.name = some (.ref fa) →
      ∃ (fd : FuncData) (Fl : Fn), (∀ (s : Shared) (u : Value), BindsTo s fd ⟨[u], []⟩ [("script", u)]) ∧ (∀ ns : List Int, ns.length ≤ 63 → (∀ z ∈ ns, Builtin.Int.intBits z ≤ 1048576) → Fl [.list (ns.map PyData.int)] = .ok (.val (.bool true))) ∧
        ∀ base : Heap, (K w.params).In base → base.Ns mainGlobals mg → LawRun l.prog w (K w.params) mg base fa fd ["script"] (spP (K w.params) mg 1 Fl)) :
    PySem.W.WalkO q loose XP YP l.row.toRowW d [] (fun f vs => PySem.call f vs) :=
  walk_D hn (by decide) hdf hY F
theorem all_mk {P : Program} {w : World} {K : Frg} {h : Heap} {mg : Mg} {fa C_TallyError C_NotMatrix C_NotPointed C_NotSide C_NotVector C_NotCost C_BadNumber C_NoAnswer C_TooLarge : Addr} (X : K.In h) (G : h.Ns mainGlobals mg) (hfa : mg "law" = some (.ref fa))
    {F_check_vectors : Addr} {od_check_vectors an_check_vectors : Option Addr} {sl_check_vectors : Array (Option Value)} {oc_check_vectors kV_check_vectors dc_check_vectors pm_check_vectors cd_check_vectors ct_check_vectors : Value}
    {F_step_of : Addr} {od_step_of an_step_of : Option Addr} {sl_step_of : Array (Option Value)} {oc_step_of kV_step_of dc_step_of pm_step_of cd_step_of ct_step_of : Value}
    {F_less : Addr} {od_less an_less : Option Addr} {sl_less : Array (Option Value)} {oc_less kV_less dc_less pm_less cd_less ct_less : Value}
    {F_cleared : Addr} {od_cleared an_cleared : Option Addr} {sl_cleared : Array (Option Value)} {oc_cleared kV_cleared dc_cleared pm_cleared cd_cleared ct_cleared : Value}
    {F_stairs_of : Addr} {od_stairs_of an_stairs_of : Option Addr} {sl_stairs_of : Array (Option Value)} {oc_stairs_of kV_stairs_of dc_stairs_of pm_stairs_of cd_stairs_of ct_stairs_of : Value}
    {F_size_of : Addr} {od_size_of an_size_of : Option Addr} {sl_size_of : Array (Option Value)} {oc_size_of kV_size_of dc_size_of pm_size_of cd_size_of ct_size_of : Value}
    {F_stairs : Addr} {od_stairs an_stairs : Option Addr} {sl_stairs : Array (Option Value)} {oc_stairs kV_stairs dc_stairs pm_stairs cd_stairs ct_stairs : Value}
    {F_is_stairs : Addr} {od_is_stairs an_is_stairs : Option Addr} {sl_is_stairs : Array (Option Value)} {oc_is_stairs kV_is_stairs dc_is_stairs pm_is_stairs cd_is_stairs ct_is_stairs : Value}
    {F_coordinates_in : Addr} {od_coordinates_in an_coordinates_in : Option Addr} {sl_coordinates_in : Array (Option Value)} {oc_coordinates_in kV_coordinates_in dc_coordinates_in pm_coordinates_in cd_coordinates_in ct_coordinates_in : Value}
    {F_coordinates : Addr} {od_coordinates an_coordinates : Option Addr} {sl_coordinates : Array (Option Value)} {oc_coordinates kV_coordinates dc_coordinates pm_coordinates cd_coordinates ct_coordinates : Value}
    {F_orthogonal_to : Addr} {od_orthogonal_to an_orthogonal_to : Option Addr} {sl_orthogonal_to : Array (Option Value)} {oc_orthogonal_to kV_orthogonal_to dc_orthogonal_to pm_orthogonal_to cd_orthogonal_to ct_orthogonal_to : Value}
    {F_orthogonal : Addr} {od_orthogonal an_orthogonal : Option Addr} {sl_orthogonal : Array (Option Value)} {oc_orthogonal kV_orthogonal dc_orthogonal pm_orthogonal cd_orthogonal ct_orthogonal : Value}
    {F_u_law_number : Addr} {od_u_law_number an_u_law_number : Option Addr} {sl_u_law_number : Array (Option Value)} {oc_u_law_number kV_u_law_number dc_u_law_number pm_u_law_number cd_u_law_number ct_u_law_number : Value}
    {F_u_law_draws : Addr} {od_u_law_draws an_u_law_draws : Option Addr} {sl_u_law_draws : Array (Option Value)} {oc_u_law_draws kV_u_law_draws dc_u_law_draws pm_u_law_draws cd_u_law_draws ct_u_law_draws : Value}
    {F_u_law_next : Addr} {od_u_law_next an_u_law_next : Option Addr} {sl_u_law_next : Array (Option Value)} {oc_u_law_next kV_u_law_next dc_u_law_next pm_u_law_next cd_u_law_next ct_u_law_next : Value}
    {F_u_law_more : Addr} {od_u_law_more an_u_law_more : Option Addr} {sl_u_law_more : Array (Option Value)} {oc_u_law_more kV_u_law_more dc_u_law_more pm_u_law_more cd_u_law_more ct_u_law_more : Value}
    {F_u_law_dot : Addr} {od_u_law_dot an_u_law_dot : Option Addr} {sl_u_law_dot : Array (Option Value)} {oc_u_law_dot kV_u_law_dot dc_u_law_dot pm_u_law_dot cd_u_law_dot ct_u_law_dot : Value}
    {F_u_law_vector : Addr} {od_u_law_vector an_u_law_vector : Option Addr} {sl_u_law_vector : Array (Option Value)} {oc_u_law_vector kV_u_law_vector dc_u_law_vector pm_u_law_vector cd_u_law_vector ct_u_law_vector : Value}
    {F_u_law_step : Addr} {od_u_law_step an_u_law_step : Option Addr} {sl_u_law_step : Array (Option Value)} {oc_u_law_step kV_u_law_step dc_u_law_step pm_u_law_step cd_u_law_step ct_u_law_step : Value}
    {F_u_law_in : Addr} {od_u_law_in an_u_law_in : Option Addr} {sl_u_law_in : Array (Option Value)} {oc_u_law_in kV_u_law_in dc_u_law_in pm_u_law_in cd_u_law_in ct_u_law_in : Value}
    {F_u_law_reduced : Addr} {od_u_law_reduced an_u_law_reduced : Option Addr} {sl_u_law_reduced : Array (Option Value)} {oc_u_law_reduced kV_u_law_reduced dc_u_law_reduced pm_u_law_reduced cd_u_law_reduced ct_u_law_reduced : Value}
    {F_u_law_kind : Addr} {od_u_law_kind an_u_law_kind : Option Addr} {sl_u_law_kind : Array (Option Value)} {oc_u_law_kind kV_u_law_kind dc_u_law_kind pm_u_law_kind cd_u_law_kind ct_u_law_kind : Value}
    {F_u_law_told : Addr} {od_u_law_told an_u_law_told : Option Addr} {sl_u_law_told : Array (Option Value)} {oc_u_law_told kV_u_law_told dc_u_law_told pm_u_law_told cd_u_law_told ct_u_law_told : Value}
    {F_u_law_orthogonal : Addr} {od_u_law_orthogonal an_u_law_orthogonal : Option Addr} {sl_u_law_orthogonal : Array (Option Value)} {oc_u_law_orthogonal kV_u_law_orthogonal dc_u_law_orthogonal pm_u_law_orthogonal cd_u_law_orthogonal ct_u_law_orthogonal : Value}
    {F_law : Addr} {od_law an_law : Option Addr} {sl_law : Array (Option Value)} {oc_law kV_law dc_law pm_law cd_law ct_law : Value}
    {tk_MOST_ENTRIES : Tok}
    {tk_MOST_VECTORS : Tok}
    {A_SIZES : Addr} {ot_SIZES : Option Addr} {nt_SIZES : Nat} {st_SIZES : Array (Option Value)} {tk0_SIZES tk1_SIZES tk2_SIZES tk3_SIZES tk4_SIZES tk5_SIZES : Tok}
    (a_check_vectors : PySem.W.nsIn K mainGlobals "check_vectors" = some (some (.ref F_check_vectors)))
    (l_check_vectors : K.lookup F_check_vectors = some ⟨oc_check_vectors, od_check_vectors, .func (PySem.W.fnOf "check_vectors" "check_vectors" (defArgs s_check_vectors) (defBody s_check_vectors) (defScope s_check_vectors) .none kV_check_vectors dc_check_vectors pm_check_vectors an_check_vectors cd_check_vectors ct_check_vectors), sl_check_vectors⟩)
    (c_check_vectors : PySem.W.codeIn K cd_check_vectors "check_vectors" = true)
    (k_check_vectors : PySem.W.keepIn K (.ref F_check_vectors) = true)
    (a_step_of : PySem.W.nsIn K mainGlobals "step_of" = some (some (.ref F_step_of)))
    (l_step_of : K.lookup F_step_of = some ⟨oc_step_of, od_step_of, .func (PySem.W.fnOf "step_of" "step_of" (defArgs s_step_of) (defBody s_step_of) (defScope s_step_of) .none kV_step_of dc_step_of pm_step_of an_step_of cd_step_of ct_step_of), sl_step_of⟩)
    (c_step_of : PySem.W.codeIn K cd_step_of "step_of" = true)
    (k_step_of : PySem.W.keepIn K (.ref F_step_of) = true)
    (a_less : PySem.W.nsIn K mainGlobals "less" = some (some (.ref F_less)))
    (l_less : K.lookup F_less = some ⟨oc_less, od_less, .func (PySem.W.fnOf "less" "less" (defArgs s_less) (defBody s_less) (defScope s_less) .none kV_less dc_less pm_less an_less cd_less ct_less), sl_less⟩)
    (c_less : PySem.W.codeIn K cd_less "less" = true)
    (k_less : PySem.W.keepIn K (.ref F_less) = true)
    (a_cleared : PySem.W.nsIn K mainGlobals "cleared" = some (some (.ref F_cleared)))
    (l_cleared : K.lookup F_cleared = some ⟨oc_cleared, od_cleared, .func (PySem.W.fnOf "cleared" "cleared" (defArgs s_cleared) (defBody s_cleared) (defScope s_cleared) .none kV_cleared dc_cleared pm_cleared an_cleared cd_cleared ct_cleared), sl_cleared⟩)
    (c_cleared : PySem.W.codeIn K cd_cleared "cleared" = true)
    (k_cleared : PySem.W.keepIn K (.ref F_cleared) = true)
    (a_stairs_of : PySem.W.nsIn K mainGlobals "stairs_of" = some (some (.ref F_stairs_of)))
    (l_stairs_of : K.lookup F_stairs_of = some ⟨oc_stairs_of, od_stairs_of, .func (PySem.W.fnOf "stairs_of" "stairs_of" (defArgs s_stairs_of) (defBody s_stairs_of) (defScope s_stairs_of) .none kV_stairs_of dc_stairs_of pm_stairs_of an_stairs_of cd_stairs_of ct_stairs_of), sl_stairs_of⟩)
    (c_stairs_of : PySem.W.codeIn K cd_stairs_of "stairs_of" = true)
    (k_stairs_of : PySem.W.keepIn K (.ref F_stairs_of) = true)
    (a_size_of : PySem.W.nsIn K mainGlobals "size_of" = some (some (.ref F_size_of)))
    (l_size_of : K.lookup F_size_of = some ⟨oc_size_of, od_size_of, .func (PySem.W.fnOf "size_of" "size_of" (defArgs s_size_of) (defBody s_size_of) (defScope s_size_of) .none kV_size_of dc_size_of pm_size_of an_size_of cd_size_of ct_size_of), sl_size_of⟩)
    (c_size_of : PySem.W.codeIn K cd_size_of "size_of" = true)
    (k_size_of : PySem.W.keepIn K (.ref F_size_of) = true)
    (a_stairs : PySem.W.nsIn K mainGlobals "stairs" = some (some (.ref F_stairs)))
    (l_stairs : K.lookup F_stairs = some ⟨oc_stairs, od_stairs, .func (PySem.W.fnOf "stairs" "stairs" (defArgs s_stairs) (defBody s_stairs) (defScope s_stairs) .none kV_stairs dc_stairs pm_stairs an_stairs cd_stairs ct_stairs), sl_stairs⟩)
    (c_stairs : PySem.W.codeIn K cd_stairs "stairs" = true)
    (k_stairs : PySem.W.keepIn K (.ref F_stairs) = true)
    (a_is_stairs : PySem.W.nsIn K mainGlobals "is_stairs" = some (some (.ref F_is_stairs)))
    (l_is_stairs : K.lookup F_is_stairs = some ⟨oc_is_stairs, od_is_stairs, .func (PySem.W.fnOf "is_stairs" "is_stairs" (defArgs s_is_stairs) (defBody s_is_stairs) (defScope s_is_stairs) .none kV_is_stairs dc_is_stairs pm_is_stairs an_is_stairs cd_is_stairs ct_is_stairs), sl_is_stairs⟩)
    (c_is_stairs : PySem.W.codeIn K cd_is_stairs "is_stairs" = true)
    (k_is_stairs : PySem.W.keepIn K (.ref F_is_stairs) = true)
    (a_coordinates_in : PySem.W.nsIn K mainGlobals "coordinates_in" = some (some (.ref F_coordinates_in)))
    (l_coordinates_in : K.lookup F_coordinates_in = some ⟨oc_coordinates_in, od_coordinates_in, .func (PySem.W.fnOf "coordinates_in" "coordinates_in" (defArgs s_coordinates_in) (defBody s_coordinates_in) (defScope s_coordinates_in) .none kV_coordinates_in dc_coordinates_in pm_coordinates_in an_coordinates_in cd_coordinates_in ct_coordinates_in), sl_coordinates_in⟩)
    (c_coordinates_in : PySem.W.codeIn K cd_coordinates_in "coordinates_in" = true)
    (k_coordinates_in : PySem.W.keepIn K (.ref F_coordinates_in) = true)
    (a_coordinates : PySem.W.nsIn K mainGlobals "coordinates" = some (some (.ref F_coordinates)))
    (l_coordinates : K.lookup F_coordinates = some ⟨oc_coordinates, od_coordinates, .func (PySem.W.fnOf "coordinates" "coordinates" (defArgs s_coordinates) (defBody s_coordinates) (defScope s_coordinates) .none kV_coordinates dc_coordinates pm_coordinates an_coordinates cd_coordinates ct_coordinates), sl_coordinates⟩)
    (c_coordinates : PySem.W.codeIn K cd_coordinates "coordinates" = true)
    (k_coordinates : PySem.W.keepIn K (.ref F_coordinates) = true)
    (a_orthogonal_to : PySem.W.nsIn K mainGlobals "orthogonal_to" = some (some (.ref F_orthogonal_to)))
    (l_orthogonal_to : K.lookup F_orthogonal_to = some ⟨oc_orthogonal_to, od_orthogonal_to, .func (PySem.W.fnOf "orthogonal_to" "orthogonal_to" (defArgs s_orthogonal_to) (defBody s_orthogonal_to) (defScope s_orthogonal_to) .none kV_orthogonal_to dc_orthogonal_to pm_orthogonal_to an_orthogonal_to cd_orthogonal_to ct_orthogonal_to), sl_orthogonal_to⟩)
    (c_orthogonal_to : PySem.W.codeIn K cd_orthogonal_to "orthogonal_to" = true)
    (k_orthogonal_to : PySem.W.keepIn K (.ref F_orthogonal_to) = true)
    (a_orthogonal : PySem.W.nsIn K mainGlobals "orthogonal" = some (some (.ref F_orthogonal)))
    (l_orthogonal : K.lookup F_orthogonal = some ⟨oc_orthogonal, od_orthogonal, .func (PySem.W.fnOf "orthogonal" "orthogonal" (defArgs s_orthogonal) (defBody s_orthogonal) (defScope s_orthogonal) .none kV_orthogonal dc_orthogonal pm_orthogonal an_orthogonal cd_orthogonal ct_orthogonal), sl_orthogonal⟩)
    (c_orthogonal : PySem.W.codeIn K cd_orthogonal "orthogonal" = true)
    (k_orthogonal : PySem.W.keepIn K (.ref F_orthogonal) = true)
    (a_u_law_number : PySem.W.nsIn K mainGlobals "_law_number" = some (some (.ref F_u_law_number)))
    (l_u_law_number : K.lookup F_u_law_number = some ⟨oc_u_law_number, od_u_law_number, .func (PySem.W.fnOf "_law_number" "_law_number" (defArgs s_u_law_number) (defBody s_u_law_number) (defScope s_u_law_number) .none kV_u_law_number dc_u_law_number pm_u_law_number an_u_law_number cd_u_law_number ct_u_law_number), sl_u_law_number⟩)
    (c_u_law_number : PySem.W.codeIn K cd_u_law_number "_law_number" = true)
    (k_u_law_number : PySem.W.keepIn K (.ref F_u_law_number) = true)
    (a_u_law_draws : PySem.W.nsIn K mainGlobals "_law_draws" = some (some (.ref F_u_law_draws)))
    (l_u_law_draws : K.lookup F_u_law_draws = some ⟨oc_u_law_draws, od_u_law_draws, .func (PySem.W.fnOf "_law_draws" "_law_draws" (defArgs s_u_law_draws) (defBody s_u_law_draws) (defScope s_u_law_draws) .none kV_u_law_draws dc_u_law_draws pm_u_law_draws an_u_law_draws cd_u_law_draws ct_u_law_draws), sl_u_law_draws⟩)
    (c_u_law_draws : PySem.W.codeIn K cd_u_law_draws "_law_draws" = true)
    (k_u_law_draws : PySem.W.keepIn K (.ref F_u_law_draws) = true)
    (a_u_law_next : PySem.W.nsIn K mainGlobals "_law_next" = some (some (.ref F_u_law_next)))
    (l_u_law_next : K.lookup F_u_law_next = some ⟨oc_u_law_next, od_u_law_next, .func (PySem.W.fnOf "_law_next" "_law_next" (defArgs s_u_law_next) (defBody s_u_law_next) (defScope s_u_law_next) .none kV_u_law_next dc_u_law_next pm_u_law_next an_u_law_next cd_u_law_next ct_u_law_next), sl_u_law_next⟩)
    (c_u_law_next : PySem.W.codeIn K cd_u_law_next "_law_next" = true)
    (k_u_law_next : PySem.W.keepIn K (.ref F_u_law_next) = true)
    (a_u_law_more : PySem.W.nsIn K mainGlobals "_law_more" = some (some (.ref F_u_law_more)))
    (l_u_law_more : K.lookup F_u_law_more = some ⟨oc_u_law_more, od_u_law_more, .func (PySem.W.fnOf "_law_more" "_law_more" (defArgs s_u_law_more) (defBody s_u_law_more) (defScope s_u_law_more) .none kV_u_law_more dc_u_law_more pm_u_law_more an_u_law_more cd_u_law_more ct_u_law_more), sl_u_law_more⟩)
    (c_u_law_more : PySem.W.codeIn K cd_u_law_more "_law_more" = true)
    (k_u_law_more : PySem.W.keepIn K (.ref F_u_law_more) = true)
    (a_u_law_dot : PySem.W.nsIn K mainGlobals "_law_dot" = some (some (.ref F_u_law_dot)))
    (l_u_law_dot : K.lookup F_u_law_dot = some ⟨oc_u_law_dot, od_u_law_dot, .func (PySem.W.fnOf "_law_dot" "_law_dot" (defArgs s_u_law_dot) (defBody s_u_law_dot) (defScope s_u_law_dot) .none kV_u_law_dot dc_u_law_dot pm_u_law_dot an_u_law_dot cd_u_law_dot ct_u_law_dot), sl_u_law_dot⟩)
    (c_u_law_dot : PySem.W.codeIn K cd_u_law_dot "_law_dot" = true)
    (k_u_law_dot : PySem.W.keepIn K (.ref F_u_law_dot) = true)
    (a_u_law_vector : PySem.W.nsIn K mainGlobals "_law_vector" = some (some (.ref F_u_law_vector)))
    (l_u_law_vector : K.lookup F_u_law_vector = some ⟨oc_u_law_vector, od_u_law_vector, .func (PySem.W.fnOf "_law_vector" "_law_vector" (defArgs s_u_law_vector) (defBody s_u_law_vector) (defScope s_u_law_vector) .none kV_u_law_vector dc_u_law_vector pm_u_law_vector an_u_law_vector cd_u_law_vector ct_u_law_vector), sl_u_law_vector⟩)
    (c_u_law_vector : PySem.W.codeIn K cd_u_law_vector "_law_vector" = true)
    (k_u_law_vector : PySem.W.keepIn K (.ref F_u_law_vector) = true)
    (a_u_law_step : PySem.W.nsIn K mainGlobals "_law_step" = some (some (.ref F_u_law_step)))
    (l_u_law_step : K.lookup F_u_law_step = some ⟨oc_u_law_step, od_u_law_step, .func (PySem.W.fnOf "_law_step" "_law_step" (defArgs s_u_law_step) (defBody s_u_law_step) (defScope s_u_law_step) .none kV_u_law_step dc_u_law_step pm_u_law_step an_u_law_step cd_u_law_step ct_u_law_step), sl_u_law_step⟩)
    (c_u_law_step : PySem.W.codeIn K cd_u_law_step "_law_step" = true)
    (k_u_law_step : PySem.W.keepIn K (.ref F_u_law_step) = true)
    (a_u_law_in : PySem.W.nsIn K mainGlobals "_law_in" = some (some (.ref F_u_law_in)))
    (l_u_law_in : K.lookup F_u_law_in = some ⟨oc_u_law_in, od_u_law_in, .func (PySem.W.fnOf "_law_in" "_law_in" (defArgs s_u_law_in) (defBody s_u_law_in) (defScope s_u_law_in) .none kV_u_law_in dc_u_law_in pm_u_law_in an_u_law_in cd_u_law_in ct_u_law_in), sl_u_law_in⟩)
    (c_u_law_in : PySem.W.codeIn K cd_u_law_in "_law_in" = true)
    (k_u_law_in : PySem.W.keepIn K (.ref F_u_law_in) = true)
    (a_u_law_reduced : PySem.W.nsIn K mainGlobals "_law_reduced" = some (some (.ref F_u_law_reduced)))
    (l_u_law_reduced : K.lookup F_u_law_reduced = some ⟨oc_u_law_reduced, od_u_law_reduced, .func (PySem.W.fnOf "_law_reduced" "_law_reduced" (defArgs s_u_law_reduced) (defBody s_u_law_reduced) (defScope s_u_law_reduced) .none kV_u_law_reduced dc_u_law_reduced pm_u_law_reduced an_u_law_reduced cd_u_law_reduced ct_u_law_reduced), sl_u_law_reduced⟩)
    (c_u_law_reduced : PySem.W.codeIn K cd_u_law_reduced "_law_reduced" = true)
    (k_u_law_reduced : PySem.W.keepIn K (.ref F_u_law_reduced) = true)
    (a_u_law_kind : PySem.W.nsIn K mainGlobals "_law_kind" = some (some (.ref F_u_law_kind)))
    (l_u_law_kind : K.lookup F_u_law_kind = some ⟨oc_u_law_kind, od_u_law_kind, .func (PySem.W.fnOf "_law_kind" "_law_kind" (defArgs s_u_law_kind) (defBody s_u_law_kind) (defScope s_u_law_kind) .none kV_u_law_kind dc_u_law_kind pm_u_law_kind an_u_law_kind cd_u_law_kind ct_u_law_kind), sl_u_law_kind⟩)
    (c_u_law_kind : PySem.W.codeIn K cd_u_law_kind "_law_kind" = true)
    (k_u_law_kind : PySem.W.keepIn K (.ref F_u_law_kind) = true)
    (a_u_law_told : PySem.W.nsIn K mainGlobals "_law_told" = some (some (.ref F_u_law_told)))
    (l_u_law_told : K.lookup F_u_law_told = some ⟨oc_u_law_told, od_u_law_told, .func (PySem.W.fnOf "_law_told" "_law_told" (defArgs s_u_law_told) (defBody s_u_law_told) (defScope s_u_law_told) .none kV_u_law_told dc_u_law_told pm_u_law_told an_u_law_told cd_u_law_told ct_u_law_told), sl_u_law_told⟩)
    (c_u_law_told : PySem.W.codeIn K cd_u_law_told "_law_told" = true)
    (k_u_law_told : PySem.W.keepIn K (.ref F_u_law_told) = true)
    (a_u_law_orthogonal : PySem.W.nsIn K mainGlobals "_law_orthogonal" = some (some (.ref F_u_law_orthogonal)))
    (l_u_law_orthogonal : K.lookup F_u_law_orthogonal = some ⟨oc_u_law_orthogonal, od_u_law_orthogonal, .func (PySem.W.fnOf "_law_orthogonal" "_law_orthogonal" (defArgs s_u_law_orthogonal) (defBody s_u_law_orthogonal) (defScope s_u_law_orthogonal) .none kV_u_law_orthogonal dc_u_law_orthogonal pm_u_law_orthogonal an_u_law_orthogonal cd_u_law_orthogonal ct_u_law_orthogonal), sl_u_law_orthogonal⟩)
    (c_u_law_orthogonal : PySem.W.codeIn K cd_u_law_orthogonal "_law_orthogonal" = true)
    (k_u_law_orthogonal : PySem.W.keepIn K (.ref F_u_law_orthogonal) = true)
    (a_law : PySem.W.nsIn K mainGlobals "law" = some (some (.ref F_law)))
    (l_law : K.lookup F_law = some ⟨oc_law, od_law, .func (PySem.W.fnOf "law" "law" (defArgs s_law) (defBody s_law) (defScope s_law) .none kV_law dc_law pm_law an_law cd_law ct_law), sl_law⟩)
    (c_law : PySem.W.codeIn K cd_law "law" = true)
    (k_law : PySem.W.keepIn K (.ref F_law) = true)
    (z_abs : PySem.W.nsIn K mainGlobals "abs" = some none)
    (z_all : PySem.W.nsIn K mainGlobals "all" = some none)
    (z_any : PySem.W.nsIn K mainGlobals "any" = some none)
    (z_enumerate : PySem.W.nsIn K mainGlobals "enumerate" = some none)
    (z_int : PySem.W.nsIn K mainGlobals "int" = some none)
    (z_isinstance : PySem.W.nsIn K mainGlobals "isinstance" = some none)
    (z_len : PySem.W.nsIn K mainGlobals "len" = some none)
    (z_list : PySem.W.nsIn K mainGlobals "list" = some none)
    (z_min : PySem.W.nsIn K mainGlobals "min" = some none)
    (z_range : PySem.W.nsIn K mainGlobals "range" = some none)
    (z_repr : PySem.W.nsIn K mainGlobals "repr" = some none)
    (z_sorted : PySem.W.nsIn K mainGlobals "sorted" = some none)
    (z_sum : PySem.W.nsIn K mainGlobals "sum" = some none)
    (z_tuple : PySem.W.nsIn K mainGlobals "tuple" = some none)
    (z_zip : PySem.W.nsIn K mainGlobals "zip" = some none)
    (v_MOST_ENTRIES : PySem.W.nsIn K mainGlobals "MOST_ENTRIES" = some (some (.int 6 tk_MOST_ENTRIES)))
    (v_MOST_VECTORS : PySem.W.nsIn K mainGlobals "MOST_VECTORS" = some (some (.int 40 tk_MOST_VECTORS)))
    (v_SIZES : PySem.W.nsIn K mainGlobals "SIZES" = some (some (.ref A_SIZES)))
    (w_SIZES : K.lookup A_SIZES = some ⟨.type "tuple", ot_SIZES, .seq #[.int 1 tk0_SIZES, .int 2 tk1_SIZES, .int 3 tk2_SIZES, .int 4 tk3_SIZES, .int 5 tk4_SIZES, .int 6 tk5_SIZES] nt_SIZES, st_SIZES⟩)
    (g_TallyError : PySem.W.nsIn K mainGlobals "TallyError" = some (some (.ref C_TallyError)))
    (g_NotMatrix : PySem.W.nsIn K mainGlobals "NotMatrix" = some (some (.ref C_NotMatrix)))
    (g_NotPointed : PySem.W.nsIn K mainGlobals "NotPointed" = some (some (.ref C_NotPointed)))
    (g_NotSide : PySem.W.nsIn K mainGlobals "NotSide" = some (some (.ref C_NotSide)))
    (g_NotVector : PySem.W.nsIn K mainGlobals "NotVector" = some (some (.ref C_NotVector)))
    (g_NotCost : PySem.W.nsIn K mainGlobals "NotCost" = some (some (.ref C_NotCost)))
    (g_BadNumber : PySem.W.nsIn K mainGlobals "BadNumber" = some (some (.ref C_BadNumber)))
    (g_NoAnswer : PySem.W.nsIn K mainGlobals "NoAnswer" = some (some (.ref C_NoAnswer)))
    (g_TooLarge : PySem.W.nsIn K mainGlobals "TooLarge" = some (some (.ref C_TooLarge)))
    (x_BadNumber : PySem.W.excIn K C_BadNumber [.type "ValueError", .type "Exception", .type "BaseException", .type "object"] "ValueError.__new__" = true)
    (kc_BadNumber : PySem.W.keepIn K (.ref C_BadNumber) = true)
    (s1_BadNumber : PySem.W.subIn K (.ref C_BadNumber) (.type "BaseException") = some true)
    (s2_BadNumber : PySem.W.typeIn K (.ref C_BadNumber) = some (.type "type"))
    (e1_BadNumber : PySem.W.findIn K (.ref C_BadNumber) "__getattribute__" = some (some (.builtin "BaseException.__getattribute__")))
    (e2_BadNumber : PySem.W.findIn K (.ref C_BadNumber) "__getattr__" = some none)
    (e3_BadNumber : PySem.W.hasDictIn K C_BadNumber = true)
    (e4_BadNumber : PySem.W.findIn K (.ref C_BadNumber) "__class__" = some (some (.builtin "object.__class__")))
    (e5_BadNumber : PySem.W.mroIn K C_BadNumber (.type "object") = some true)
    (q_BadNumber_BadNumber : PySem.W.subIn K (.ref C_BadNumber) (.ref C_BadNumber) = some true)
    (q_BadNumber_NoAnswer : PySem.W.subIn K (.ref C_BadNumber) (.ref C_NoAnswer) = some false)
    (q_BadNumber_NotCost : PySem.W.subIn K (.ref C_BadNumber) (.ref C_NotCost) = some false)
    (q_BadNumber_NotMatrix : PySem.W.subIn K (.ref C_BadNumber) (.ref C_NotMatrix) = some false)
    (q_BadNumber_NotPointed : PySem.W.subIn K (.ref C_BadNumber) (.ref C_NotPointed) = some false)
    (q_BadNumber_NotSide : PySem.W.subIn K (.ref C_BadNumber) (.ref C_NotSide) = some false)
    (q_BadNumber_NotVector : PySem.W.subIn K (.ref C_BadNumber) (.ref C_NotVector) = some false)
    (q_BadNumber_TallyError : PySem.W.subIn K (.ref C_BadNumber) (.ref C_TallyError) = some true)
    (q_BadNumber_TooLarge : PySem.W.subIn K (.ref C_BadNumber) (.ref C_TooLarge) = some false)
    (i1_BadNumber : PySem.W.subIn K (.ref C_BadNumber) (.type "BaseException") = some true)
    (i2_BadNumber : PySem.W.hasDictIn K C_BadNumber = true)
    (i3_BadNumber : PySem.W.typeIn K (.ref C_BadNumber) = some (.type "type"))
    (i4_BadNumber : PySem.W.subIn K (.ref C_BadNumber) (.ref C_BadNumber) = some true)
    (i1_NoAnswer : PySem.W.subIn K (.ref C_NoAnswer) (.type "BaseException") = some true)
    (i2_NoAnswer : PySem.W.hasDictIn K C_NoAnswer = true)
    (i3_NoAnswer : PySem.W.typeIn K (.ref C_NoAnswer) = some (.type "type"))
    (i4_NoAnswer : PySem.W.subIn K (.ref C_NoAnswer) (.ref C_NoAnswer) = some true)
    (i1_NotCost : PySem.W.subIn K (.ref C_NotCost) (.type "BaseException") = some true)
    (i2_NotCost : PySem.W.hasDictIn K C_NotCost = true)
    (i3_NotCost : PySem.W.typeIn K (.ref C_NotCost) = some (.type "type"))
    (i4_NotCost : PySem.W.subIn K (.ref C_NotCost) (.ref C_NotCost) = some true)
    (i1_NotMatrix : PySem.W.subIn K (.ref C_NotMatrix) (.type "BaseException") = some true)
    (i2_NotMatrix : PySem.W.hasDictIn K C_NotMatrix = true)
    (i3_NotMatrix : PySem.W.typeIn K (.ref C_NotMatrix) = some (.type "type"))
    (i4_NotMatrix : PySem.W.subIn K (.ref C_NotMatrix) (.ref C_NotMatrix) = some true)
    (i1_NotPointed : PySem.W.subIn K (.ref C_NotPointed) (.type "BaseException") = some true)
    (i2_NotPointed : PySem.W.hasDictIn K C_NotPointed = true)
    (i3_NotPointed : PySem.W.typeIn K (.ref C_NotPointed) = some (.type "type"))
    (i4_NotPointed : PySem.W.subIn K (.ref C_NotPointed) (.ref C_NotPointed) = some true)
    (i1_NotSide : PySem.W.subIn K (.ref C_NotSide) (.type "BaseException") = some true)
    (i2_NotSide : PySem.W.hasDictIn K C_NotSide = true)
    (i3_NotSide : PySem.W.typeIn K (.ref C_NotSide) = some (.type "type"))
    (i4_NotSide : PySem.W.subIn K (.ref C_NotSide) (.ref C_NotSide) = some true)
    (i1_NotVector : PySem.W.subIn K (.ref C_NotVector) (.type "BaseException") = some true)
    (i2_NotVector : PySem.W.hasDictIn K C_NotVector = true)
    (i3_NotVector : PySem.W.typeIn K (.ref C_NotVector) = some (.type "type"))
    (i4_NotVector : PySem.W.subIn K (.ref C_NotVector) (.ref C_NotVector) = some true)
    (i1_TallyError : PySem.W.subIn K (.ref C_TallyError) (.type "BaseException") = some true)
    (i2_TallyError : PySem.W.hasDictIn K C_TallyError = true)
    (i3_TallyError : PySem.W.typeIn K (.ref C_TallyError) = some (.type "type"))
    (i4_TallyError : PySem.W.subIn K (.ref C_TallyError) (.ref C_TallyError) = some true)
    (i1_TooLarge : PySem.W.subIn K (.ref C_TooLarge) (.type "BaseException") = some true)
    (i2_TooLarge : PySem.W.hasDictIn K C_TooLarge = true)
    (i3_TooLarge : PySem.W.typeIn K (.ref C_TooLarge) = some (.type "type"))
    (i4_TooLarge : PySem.W.subIn K (.ref C_TooLarge) (.ref C_TooLarge) = some true)
    (hn : PySem.W.specialIn K (.builtin "object.__class__") "__get__" = some (some (.builtin "getset_descriptor.__get__")))
    (ht : PySem.W.takesIn K (.builtin "object.__class__") = some true)
    (hpure : ∀ ns : List Int, ns.length ≤ 63 → (∀ z ∈ ns, Builtin.Int.intBits z ≤ 1048576) → f_law [.list (ns.map PyData.int)] = .ok (.val (.bool true))) :
    ∃ (fd : FuncData) (Fl : Fn), (∀ (s : Shared) (u : Value), BindsTo s fd ⟨[u], []⟩ [("script", u)]) ∧ (∀ ns : List Int, ns.length ≤ 63 → (∀ z ∈ ns, Builtin.Int.intBits z ≤ 1048576) → Fl [.list (ns.map PyData.int)] = .ok (.val (.bool true))) ∧
      ∀ base : Heap, K.In base → base.Ns mainGlobals mg → LawRun P w K mg base fa fd ["script"] (spP K mg 1 Fl) := by
  cases hfa.symm.trans (PySem.W.mg_of X G a_law)
  have T : Txt K mg C_TallyError C_NotMatrix C_NotPointed C_NotSide C_NotVector C_NotCost C_BadNumber C_NoAnswer C_TooLarge := { b_abs := PySem.W.mg_none_of X G z_abs, b_all := PySem.W.mg_none_of X G z_all, b_any := PySem.W.mg_none_of X G z_any, b_enumerate := PySem.W.mg_none_of X G z_enumerate, b_int := PySem.W.mg_none_of X G z_int, b_isinstance := PySem.W.mg_none_of X G z_isinstance, b_len := PySem.W.mg_none_of X G z_len, b_list := PySem.W.mg_none_of X G z_list, b_min := PySem.W.mg_none_of X G z_min, b_range := PySem.W.mg_none_of X G z_range, b_repr := PySem.W.mg_none_of X G z_repr, b_sorted := PySem.W.mg_none_of X G z_sorted, b_sum := PySem.W.mg_none_of X G z_sum, b_tuple := PySem.W.mg_none_of X G z_tuple, b_zip := PySem.W.mg_none_of X G z_zip, c_MOST_ENTRIES := ⟨_, PySem.W.mg_of X G v_MOST_ENTRIES⟩, c_MOST_VECTORS := ⟨_, PySem.W.mg_of X G v_MOST_VECTORS⟩, c_SIZES := ⟨_, _, _, _, PySem.W.mg_of X G v_SIZES, w_SIZES, rfl, rfl, (by show (6 : Nat) ≤ sizeLine; rw [sizeLine_eq]; decide), (.cons ⟨_, rfl⟩ (.cons ⟨_, rfl⟩ (.cons ⟨_, rfl⟩ (.cons ⟨_, rfl⟩ (.cons ⟨_, rfl⟩ (.cons ⟨_, rfl⟩ .nil))))))⟩, g_TallyError := PySem.W.mg_of X G g_TallyError, g_NotMatrix := PySem.W.mg_of X G g_NotMatrix, g_NotPointed := PySem.W.mg_of X G g_NotPointed, g_NotSide := PySem.W.mg_of X G g_NotSide, g_NotVector := PySem.W.mg_of X G g_NotVector, g_NotCost := PySem.W.mg_of X G g_NotCost, g_BadNumber := PySem.W.mg_of X G g_BadNumber, g_NoAnswer := PySem.W.mg_of X G g_NoAnswer, g_TooLarge := PySem.W.mg_of X G g_TooLarge, o_BadNumber := ⟨x_BadNumber, PySem.W.mg_of X G g_BadNumber, kc_BadNumber, s1_BadNumber, s2_BadNumber⟩, e_BadNumber := ⟨e1_BadNumber, e2_BadNumber, s1_BadNumber, e3_BadNumber, e4_BadNumber, hn, ht, e5_BadNumber⟩, m_BadNumber_TallyError := PySem.W.exm_ref i1_TallyError i2_TallyError i3_TallyError q_BadNumber_TallyError, k_BadNumber_NotMatrix := kit_of i2_NotMatrix i3_NotMatrix q_BadNumber_NotMatrix i4_NotMatrix, k_BadNumber_NotPointed := kit_of i2_NotPointed i3_NotPointed q_BadNumber_NotPointed i4_NotPointed, k_BadNumber_NotSide := kit_of i2_NotSide i3_NotSide q_BadNumber_NotSide i4_NotSide, k_BadNumber_NotVector := kit_of i2_NotVector i3_NotVector q_BadNumber_NotVector i4_NotVector, k_BadNumber_NotCost := kit_of i2_NotCost i3_NotCost q_BadNumber_NotCost i4_NotCost, k_BadNumber_BadNumber := kit_of i2_BadNumber i3_BadNumber q_BadNumber_BadNumber i4_BadNumber, k_BadNumber_NoAnswer := kit_of i2_NoAnswer i3_NoAnswer q_BadNumber_NoAnswer i4_NoAnswer, k_BadNumber_TooLarge := kit_of i2_TooLarge i3_TooLarge q_BadNumber_TooLarge i4_TooLarge }
  refine ⟨PySem.W.fnOf "law" "law" (defArgs s_law) (defBody s_law) (defScope s_law) .none kV_law dc_law pm_law an_law cd_law ct_law, f_law, fun s v => .of_eq rfl, hpure, fun base _ _ => ?_⟩
  have D_check_vectors : Def K mg "check_vectors" s_check_vectors := ⟨F_check_vectors, _, fun_mk (st := s_check_vectors) l_check_vectors c_check_vectors k_check_vectors, PySem.W.mg_of X G a_check_vectors⟩
  have D_step_of : Def K mg "step_of" s_step_of := ⟨F_step_of, _, fun_mk (st := s_step_of) l_step_of c_step_of k_step_of, PySem.W.mg_of X G a_step_of⟩
  have D_less : Def K mg "less" s_less := ⟨F_less, _, fun_mk (st := s_less) l_less c_less k_less, PySem.W.mg_of X G a_less⟩
  have D_cleared : Def K mg "cleared" s_cleared := ⟨F_cleared, _, fun_mk (st := s_cleared) l_cleared c_cleared k_cleared, PySem.W.mg_of X G a_cleared⟩
  have D_stairs_of : Def K mg "stairs_of" s_stairs_of := ⟨F_stairs_of, _, fun_mk (st := s_stairs_of) l_stairs_of c_stairs_of k_stairs_of, PySem.W.mg_of X G a_stairs_of⟩
  have D_size_of : Def K mg "size_of" s_size_of := ⟨F_size_of, _, fun_mk (st := s_size_of) l_size_of c_size_of k_size_of, PySem.W.mg_of X G a_size_of⟩
  have D_stairs : Def K mg "stairs" s_stairs := ⟨F_stairs, _, fun_mk (st := s_stairs) l_stairs c_stairs k_stairs, PySem.W.mg_of X G a_stairs⟩
  have D_is_stairs : Def K mg "is_stairs" s_is_stairs := ⟨F_is_stairs, _, fun_mk (st := s_is_stairs) l_is_stairs c_is_stairs k_is_stairs, PySem.W.mg_of X G a_is_stairs⟩
  have D_coordinates_in : Def K mg "coordinates_in" s_coordinates_in := ⟨F_coordinates_in, _, fun_mk (st := s_coordinates_in) l_coordinates_in c_coordinates_in k_coordinates_in, PySem.W.mg_of X G a_coordinates_in⟩
  have D_coordinates : Def K mg "coordinates" s_coordinates := ⟨F_coordinates, _, fun_mk (st := s_coordinates) l_coordinates c_coordinates k_coordinates, PySem.W.mg_of X G a_coordinates⟩
  have D_orthogonal_to : Def K mg "orthogonal_to" s_orthogonal_to := ⟨F_orthogonal_to, _, fun_mk (st := s_orthogonal_to) l_orthogonal_to c_orthogonal_to k_orthogonal_to, PySem.W.mg_of X G a_orthogonal_to⟩
  have D_orthogonal : Def K mg "orthogonal" s_orthogonal := ⟨F_orthogonal, _, fun_mk (st := s_orthogonal) l_orthogonal c_orthogonal k_orthogonal, PySem.W.mg_of X G a_orthogonal⟩
  have D_u_law_number : Def K mg "_law_number" s_u_law_number := ⟨F_u_law_number, _, fun_mk (st := s_u_law_number) l_u_law_number c_u_law_number k_u_law_number, PySem.W.mg_of X G a_u_law_number⟩
  have D_u_law_draws : Def K mg "_law_draws" s_u_law_draws := ⟨F_u_law_draws, _, fun_mk (st := s_u_law_draws) l_u_law_draws c_u_law_draws k_u_law_draws, PySem.W.mg_of X G a_u_law_draws⟩
  have D_u_law_next : Def K mg "_law_next" s_u_law_next := ⟨F_u_law_next, _, fun_mk (st := s_u_law_next) l_u_law_next c_u_law_next k_u_law_next, PySem.W.mg_of X G a_u_law_next⟩
  have D_u_law_more : Def K mg "_law_more" s_u_law_more := ⟨F_u_law_more, _, fun_mk (st := s_u_law_more) l_u_law_more c_u_law_more k_u_law_more, PySem.W.mg_of X G a_u_law_more⟩
  have D_u_law_dot : Def K mg "_law_dot" s_u_law_dot := ⟨F_u_law_dot, _, fun_mk (st := s_u_law_dot) l_u_law_dot c_u_law_dot k_u_law_dot, PySem.W.mg_of X G a_u_law_dot⟩
  have D_u_law_vector : Def K mg "_law_vector" s_u_law_vector := ⟨F_u_law_vector, _, fun_mk (st := s_u_law_vector) l_u_law_vector c_u_law_vector k_u_law_vector, PySem.W.mg_of X G a_u_law_vector⟩
  have D_u_law_step : Def K mg "_law_step" s_u_law_step := ⟨F_u_law_step, _, fun_mk (st := s_u_law_step) l_u_law_step c_u_law_step k_u_law_step, PySem.W.mg_of X G a_u_law_step⟩
  have D_u_law_in : Def K mg "_law_in" s_u_law_in := ⟨F_u_law_in, _, fun_mk (st := s_u_law_in) l_u_law_in c_u_law_in k_u_law_in, PySem.W.mg_of X G a_u_law_in⟩
  have D_u_law_reduced : Def K mg "_law_reduced" s_u_law_reduced := ⟨F_u_law_reduced, _, fun_mk (st := s_u_law_reduced) l_u_law_reduced c_u_law_reduced k_u_law_reduced, PySem.W.mg_of X G a_u_law_reduced⟩
  have D_u_law_kind : Def K mg "_law_kind" s_u_law_kind := ⟨F_u_law_kind, _, fun_mk (st := s_u_law_kind) l_u_law_kind c_u_law_kind k_u_law_kind, PySem.W.mg_of X G a_u_law_kind⟩
  have D_u_law_told : Def K mg "_law_told" s_u_law_told := ⟨F_u_law_told, _, fun_mk (st := s_u_law_told) l_u_law_told c_u_law_told k_u_law_told, PySem.W.mg_of X G a_u_law_told⟩
  have D_u_law_orthogonal : Def K mg "_law_orthogonal" s_u_law_orthogonal := ⟨F_u_law_orthogonal, _, fun_mk (st := s_u_law_orthogonal) l_u_law_orthogonal c_u_law_orthogonal k_u_law_orthogonal, PySem.W.mg_of X G a_u_law_orthogonal⟩
  have C_check_vectors := ok_check_vectors (P := P) (w := w) (base := base) T D_check_vectors 
  have C_step_of := ok_step_of (P := P) (w := w) (base := base) T D_step_of 
  have C_less := ok_less (P := P) (w := w) (base := base) T D_less 
  have C_cleared := ok_cleared (P := P) (w := w) (base := base) T D_cleared C_less
  have C_stairs_of := ok_stairs_of (P := P) (w := w) (base := base) T D_stairs_of C_cleared C_less
  have C_size_of := ok_size_of (P := P) (w := w) (base := base) T D_size_of 
  have C_stairs := ok_stairs (P := P) (w := w) (base := base) T D_stairs C_check_vectors C_stairs_of C_size_of
  have C_is_stairs := ok_is_stairs (P := P) (w := w) (base := base) T D_is_stairs C_check_vectors C_step_of C_stairs
  have C_coordinates_in := ok_coordinates_in (P := P) (w := w) (base := base) T D_coordinates_in C_step_of C_less
  have C_coordinates := ok_coordinates (P := P) (w := w) (base := base) T D_coordinates C_is_stairs C_size_of C_coordinates_in
  have C_orthogonal_to := ok_orthogonal_to (P := P) (w := w) (base := base) T D_orthogonal_to C_stairs_of C_step_of
  have C_orthogonal := ok_orthogonal (P := P) (w := w) (base := base) T D_orthogonal C_check_vectors C_orthogonal_to
  have C_u_law_number := ok_u_law_number (P := P) (w := w) (base := base) T D_u_law_number 
  have C_u_law_draws := ok_u_law_draws (P := P) (w := w) (base := base) T D_u_law_draws C_u_law_number
  have C_u_law_next := ok_u_law_next (P := P) (w := w) (base := base) T D_u_law_next 
  have C_u_law_more := ok_u_law_more (P := P) (w := w) (base := base) T D_u_law_more C_u_law_next
  have C_u_law_dot := ok_u_law_dot (P := P) (w := w) (base := base) T D_u_law_dot 
  have C_u_law_vector := ok_u_law_vector (P := P) (w := w) (base := base) T D_u_law_vector C_u_law_next
  have C_u_law_step := ok_u_law_step (P := P) (w := w) (base := base) T D_u_law_step 
  have C_u_law_in := ok_u_law_in (P := P) (w := w) (base := base) T D_u_law_in C_u_law_step
  have C_u_law_reduced := ok_u_law_reduced (P := P) (w := w) (base := base) T D_u_law_reduced 
  have K_u_law_kind := ok_u_law_kind (P := P) (w := w) (base := base) T D_u_law_kind 
  have C_u_law_told := ok_u_law_told (P := P) (w := w) (base := base) T D_u_law_told C_coordinates C_orthogonal K_u_law_kind
  have C_u_law_orthogonal := ok_u_law_orthogonal (P := P) (w := w) (base := base) T D_u_law_orthogonal C_u_law_reduced C_u_law_step
  exact ok_law T (fun_mk (st := s_law) l_law c_law k_law) C_u_law_draws C_u_law_more C_u_law_next C_u_law_reduced C_u_law_vector C_u_law_told C_u_law_in C_u_law_orthogonal C_u_law_dot
end K03
open PySem PySem.W PyProof.Rows
set_option maxRecDepth 100000 in
set_option maxHeartbeats 0 in
theorem PySem.Challenge.cw_tallyhull_k03_coordinates_and_orthogonal_holds : PySem.Challenge.rw_tallyhull_k03_coordinates_and_orthogonal.Holds := by
  w_on; o_law; k_head; (case hw => w_witness2)
  k_fill
  refine K03.walk (l := PySem.Challenge.rw_tallyhull_k03_coordinates_and_orthogonal) rfl rfl (fun w h Y => PySem.W.kIn_of Y) ?F
  case F =>
    intro w mg fa h KX G hmg
    refine' K03.all_mk KX G hmg ?a_check_vectors ?l_check_vectors ?c_check_vectors ?k_check_vectors ?a_step_of ?l_step_of ?c_step_of ?k_step_of ?a_less ?l_less ?c_less ?k_less ?a_cleared ?l_cleared ?c_cleared ?k_cleared ?a_stairs_of ?l_stairs_of ?c_stairs_of ?k_stairs_of ?a_size_of ?l_size_of ?c_size_of ?k_size_of ?a_stairs ?l_stairs ?c_stairs ?k_stairs ?a_is_stairs ?l_is_stairs ?c_is_stairs ?k_is_stairs ?a_coordinates_in ?l_coordinates_in ?c_coordinates_in ?k_coordinates_in ?a_coordinates ?l_coordinates ?c_coordinates ?k_coordinates ?a_orthogonal_to ?l_orthogonal_to ?c_orthogonal_to ?k_orthogonal_to ?a_orthogonal ?l_orthogonal ?c_orthogonal ?k_orthogonal ?a_u_law_number ?l_u_law_number ?c_u_law_number ?k_u_law_number ?a_u_law_draws ?l_u_law_draws ?c_u_law_draws ?k_u_law_draws ?a_u_law_next ?l_u_law_next ?c_u_law_next ?k_u_law_next ?a_u_law_more ?l_u_law_more ?c_u_law_more ?k_u_law_more ?a_u_law_dot ?l_u_law_dot ?c_u_law_dot ?k_u_law_dot ?a_u_law_vector ?l_u_law_vector ?c_u_law_vector ?k_u_law_vector ?a_u_law_step ?l_u_law_step ?c_u_law_step ?k_u_law_step ?a_u_law_in ?l_u_law_in ?c_u_law_in ?k_u_law_in ?a_u_law_reduced ?l_u_law_reduced ?c_u_law_reduced ?k_u_law_reduced ?a_u_law_kind ?l_u_law_kind ?c_u_law_kind ?k_u_law_kind ?a_u_law_told ?l_u_law_told ?c_u_law_told ?k_u_law_told ?a_u_law_orthogonal ?l_u_law_orthogonal ?c_u_law_orthogonal ?k_u_law_orthogonal ?a_law ?l_law ?c_law ?k_law ?z_abs ?z_all ?z_any ?z_enumerate ?z_int ?z_isinstance ?z_len ?z_list ?z_min ?z_range ?z_repr ?z_sorted ?z_sum ?z_tuple ?z_zip ?v_MOST_ENTRIES ?v_MOST_VECTORS ?v_SIZES ?w_SIZES ?g_TallyError ?g_NotMatrix ?g_NotPointed ?g_NotSide ?g_NotVector ?g_NotCost ?g_BadNumber ?g_NoAnswer ?g_TooLarge ?x_BadNumber ?kc_BadNumber ?s1_BadNumber ?s2_BadNumber ?e1_BadNumber ?e2_BadNumber ?e3_BadNumber ?e4_BadNumber ?e5_BadNumber ?q_BadNumber_BadNumber ?q_BadNumber_NoAnswer ?q_BadNumber_NotCost ?q_BadNumber_NotMatrix ?q_BadNumber_NotPointed ?q_BadNumber_NotSide ?q_BadNumber_NotVector ?q_BadNumber_TallyError ?q_BadNumber_TooLarge ?i1_BadNumber ?i2_BadNumber ?i3_BadNumber ?i4_BadNumber ?i1_NoAnswer ?i2_NoAnswer ?i3_NoAnswer ?i4_NoAnswer ?i1_NotCost ?i2_NotCost ?i3_NotCost ?i4_NotCost ?i1_NotMatrix ?i2_NotMatrix ?i3_NotMatrix ?i4_NotMatrix ?i1_NotPointed ?i2_NotPointed ?i3_NotPointed ?i4_NotPointed ?i1_NotSide ?i2_NotSide ?i3_NotSide ?i4_NotSide ?i1_NotVector ?i2_NotVector ?i3_NotVector ?i4_NotVector ?i1_TallyError ?i2_TallyError ?i3_TallyError ?i4_TallyError ?i1_TooLarge ?i2_TooLarge ?i3_TooLarge ?i4_TooLarge ?hn ?ht K03.pure_law
    (case a_check_vectors => k_is)
    (case l_check_vectors => k_is)
    (case c_check_vectors => k_is)
    (case k_check_vectors => k_is)
    (case a_step_of => k_is)
    (case l_step_of => k_is)
    (case c_step_of => k_is)
    (case k_step_of => k_is)
    (case a_less => k_is)
    (case l_less => k_is)
    (case c_less => k_is)
    (case k_less => k_is)
    (case a_cleared => k_is)
    (case l_cleared => k_is)
    (case c_cleared => k_is)
    (case k_cleared => k_is)
    (case a_stairs_of => k_is)
    (case l_stairs_of => k_is)
    (case c_stairs_of => k_is)
    (case k_stairs_of => k_is)
    (case a_size_of => k_is)
    (case l_size_of => k_is)
    (case c_size_of => k_is)
    (case k_size_of => k_is)
    (case a_stairs => k_is)
    (case l_stairs => k_is)
    (case c_stairs => k_is)
    (case k_stairs => k_is)
    (case a_is_stairs => k_is)
    (case l_is_stairs => k_is)
    (case c_is_stairs => k_is)
    (case k_is_stairs => k_is)
    (case a_coordinates_in => k_is)
    (case l_coordinates_in => k_is)
    (case c_coordinates_in => k_is)
    (case k_coordinates_in => k_is)
    (case a_coordinates => k_is)
    (case l_coordinates => k_is)
    (case c_coordinates => k_is)
    (case k_coordinates => k_is)
    (case a_orthogonal_to => k_is)
    (case l_orthogonal_to => k_is)
    (case c_orthogonal_to => k_is)
    (case k_orthogonal_to => k_is)
    (case a_orthogonal => k_is)
    (case l_orthogonal => k_is)
    (case c_orthogonal => k_is)
    (case k_orthogonal => k_is)
    (case a_u_law_number => k_is)
    (case l_u_law_number => k_is)
    (case c_u_law_number => k_is)
    (case k_u_law_number => k_is)
    (case a_u_law_draws => k_is)
    (case l_u_law_draws => k_is)
    (case c_u_law_draws => k_is)
    (case k_u_law_draws => k_is)
    (case a_u_law_next => k_is)
    (case l_u_law_next => k_is)
    (case c_u_law_next => k_is)
    (case k_u_law_next => k_is)
    (case a_u_law_more => k_is)
    (case l_u_law_more => k_is)
    (case c_u_law_more => k_is)
    (case k_u_law_more => k_is)
    (case a_u_law_dot => k_is)
    (case l_u_law_dot => k_is)
    (case c_u_law_dot => k_is)
    (case k_u_law_dot => k_is)
    (case a_u_law_vector => k_is)
    (case l_u_law_vector => k_is)
    (case c_u_law_vector => k_is)
    (case k_u_law_vector => k_is)
    (case a_u_law_step => k_is)
    (case l_u_law_step => k_is)
    (case c_u_law_step => k_is)
    (case k_u_law_step => k_is)
    (case a_u_law_in => k_is)
    (case l_u_law_in => k_is)
    (case c_u_law_in => k_is)
    (case k_u_law_in => k_is)
    (case a_u_law_reduced => k_is)
    (case l_u_law_reduced => k_is)
    (case c_u_law_reduced => k_is)
    (case k_u_law_reduced => k_is)
    (case a_u_law_kind => k_is)
    (case l_u_law_kind => k_is)
    (case c_u_law_kind => k_is)
    (case k_u_law_kind => k_is)
    (case a_u_law_told => k_is)
    (case l_u_law_told => k_is)
    (case c_u_law_told => k_is)
    (case k_u_law_told => k_is)
    (case a_u_law_orthogonal => k_is)
    (case l_u_law_orthogonal => k_is)
    (case c_u_law_orthogonal => k_is)
    (case k_u_law_orthogonal => k_is)
    (case a_law => k_is)
    (case l_law => k_is)
    (case c_law => k_is)
    (case k_law => k_is)
    (case z_abs => k_is)
    (case z_all => k_is)
    (case z_any => k_is)
    (case z_enumerate => k_is)
    (case z_int => k_is)
    (case z_isinstance => k_is)
    (case z_len => k_is)
    (case z_list => k_is)
    (case z_min => k_is)
    (case z_range => k_is)
    (case z_repr => k_is)
    (case z_sorted => k_is)
    (case z_sum => k_is)
    (case z_tuple => k_is)
    (case z_zip => k_is)
    (case v_MOST_ENTRIES => k_is)
    (case v_MOST_VECTORS => k_is)
    (case v_SIZES => k_is)
    (case w_SIZES => k_is)
    (case g_TallyError => k_is)
    (case g_NotMatrix => k_is)
    (case g_NotPointed => k_is)
    (case g_NotSide => k_is)
    (case g_NotVector => k_is)
    (case g_NotCost => k_is)
    (case g_BadNumber => k_is)
    (case g_NoAnswer => k_is)
    (case g_TooLarge => k_is)
    (case x_BadNumber => k_exc)
    (case kc_BadNumber => k_is)
    (case s1_BadNumber => k_is)
    (case s2_BadNumber => k_is)
    (case e1_BadNumber => k_is)
    (case e2_BadNumber => k_is)
    (case e3_BadNumber => k_is)
    (case e4_BadNumber => k_is)
    (case e5_BadNumber => k_is)
    (case q_BadNumber_BadNumber => k_is)
    (case q_BadNumber_NoAnswer => k_is)
    (case q_BadNumber_NotCost => k_is)
    (case q_BadNumber_NotMatrix => k_is)
    (case q_BadNumber_NotPointed => k_is)
    (case q_BadNumber_NotSide => k_is)
    (case q_BadNumber_NotVector => k_is)
    (case q_BadNumber_TallyError => k_is)
    (case q_BadNumber_TooLarge => k_is)
    (case i1_BadNumber => k_is)
    (case i2_BadNumber => k_is)
    (case i3_BadNumber => k_is)
    (case i4_BadNumber => first | rfl | k_is)
    (case i1_NoAnswer => k_is)
    (case i2_NoAnswer => k_is)
    (case i3_NoAnswer => k_is)
    (case i4_NoAnswer => first | rfl | k_is)
    (case i1_NotCost => k_is)
    (case i2_NotCost => k_is)
    (case i3_NotCost => k_is)
    (case i4_NotCost => first | rfl | k_is)
    (case i1_NotMatrix => k_is)
    (case i2_NotMatrix => k_is)
    (case i3_NotMatrix => k_is)
    (case i4_NotMatrix => first | rfl | k_is)
    (case i1_NotPointed => k_is)
    (case i2_NotPointed => k_is)
    (case i3_NotPointed => k_is)
    (case i4_NotPointed => first | rfl | k_is)
    (case i1_NotSide => k_is)
    (case i2_NotSide => k_is)
    (case i3_NotSide => k_is)
    (case i4_NotSide => first | rfl | k_is)
    (case i1_NotVector => k_is)
    (case i2_NotVector => k_is)
    (case i3_NotVector => k_is)
    (case i4_NotVector => first | rfl | k_is)
    (case i1_TallyError => k_is)
    (case i2_TallyError => k_is)
    (case i3_TallyError => k_is)
    (case i4_TallyError => first | rfl | k_is)
    (case i1_TooLarge => k_is)
    (case i2_TooLarge => k_is)
    (case i3_TooLarge => k_is)
    (case i4_TooLarge => first | rfl | k_is)
    (case hn => k_is)
    (case ht => k_is)
