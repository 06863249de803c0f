import PyProof.Rows.All
import Wide.All
import OpenK.AllK
import Wide.FinOn
import HandS.ForMost
import HandS.More
import HandS.WordsExc
import HandS.Exc
import HandS.Defaults
import HandS.Walk
import HandS.Deep
import HandS.TupAny
import HandS.Style
import KE.SortData
import HandS.HeadHook1
import HandS.HeadHook2
import KE.GoesEnum
import HandS.Zip
import HandS.SetFor
import HandS.Strs
import HandS.TupSets
import HandS.IsInst
import HandS.SortKw
import KE.DataMinMax
import PySem.Challenge.RW_meetways_k74_whole_all_small_asks
import HandS.Head0
import HandS.Head1
import HandS.Head2
import HandS.HeadEnd
set_option Elab.async false
set_option linter.all false
set_option maxRecDepth 100000
set_option maxHeartbeats 0
namespace DL
open L2 PySem.Spec PySem PyProof.Rows

/-! ### data and mutable trees -/
inductive M where
  | d (x : PyData)
  /-- a tuple of data whose object is known to be bare (for its methods) -/
  | bt (ds : List PyData)
  | lst (ms : List M)
  | dK (ks : List Key) (ms : List M)
  | dT (ks : List (List Key)) (ms : List M)
  | ins (c : Str) (ns : List Str) (ms : List M)
abbrev MS := List (Option M)
abbrev Fp := Nat → List Addr

def FzL (K : PySem.W.Frag) (H : Hp) (a : Addr) (xs : List V) : Prop :=
  (∃ o, H a = some (.frz o (.lst xs))) ∨
    ∃ (o : Obj) (its : Array Value) (n : Nat), K.lookup a = some o ∧ o.cls = .type "list" ∧ o.dict = none ∧ o.data = .seq its n ∧ its.size ≤ sizeLine ∧ Vals xs its.toList

/-- what is not mutable is kept -/
def Kp (H H' : Hp) : Prop := ∀ b o, H b = some o → ¬ Mut (some o) → H' b = some o
theorem Kp.refl (H : Hp) : Kp H H := fun _ _ e _ => e
theorem Kp.trans {H H1 H2 : Hp} (a : Kp H H1) (b : Kp H1 H2) : Kp H H2 := fun c o e m => b c o (a c o e m) m
theorem Kp.of_same {H H' : Hp} (s : Same H H') : Kp H H' := fun b o e _ => s b o e

section
variable {K : PySem.W.Frag} {H H' : Hp} {a : Addr} {xs : List V}
theorem FzL.sq (h : FzL K H a xs) : SqL K H a xs := by
  rcases h with ⟨o, h⟩ | h
  · exact .inl (.inr ⟨o, h⟩)
  · exact .inr h
theorem FzL.kp (k : Kp H H') (h : FzL K H a xs) : FzL K H' a xs := by
  rcases h with ⟨o, h⟩ | h
  · exact .inl ⟨o, k _ _ h (fun z => z)⟩
  · exact .inr h
theorem sqT_kp (k : Kp H H') (h : SqT K H a xs) : SqT K H' a xs := by
  rcases h with (h | ⟨o, h⟩) | h
  · exact .inl (.inl (k _ _ h (fun z => z)))
  · exact .inl (.inr ⟨o, k _ _ h (fun z => z)⟩)
  · exact .inr h
end

mutual
/-- v is the datum -/
def RepD (K : PySem.W.Frag) (H : Hp) : PyData → V → Prop
  | .none, v => v = .non
  | .bool b, v => v = .bl b
  | .int i, v => v = .int i
  | .str x, v => v = .str x
  | .list ds, v => ∃ a vs, v = .ref a ∧ FzL K H a vs ∧ RepDs K H ds vs
  | .tuple ds, v => ∃ a vs, v = .ref a ∧ SqT K H a vs ∧ RepDs K H ds vs
  | .dict _, _ => False
def RepDs (K : PySem.W.Frag) (H : Hp) : List PyData → List V → Prop
  | [], vs => vs = []
  | d :: ds, vs => ∃ v r, vs = v :: r ∧ RepD K H d v ∧ RepDs K H ds r
end

section
variable {K : PySem.W.Frag} {H H' : Hp}
mutual
theorem RepD.kp (k : Kp H H') : ∀ (d : PyData) (v : V), RepD K H d v → RepD K H' d v
  | .none, _, h => h
  | .bool _, _, h => h
  | .int _, _, h => h
  | .str _, _, h => h
  | .list ds, _, h => by
    obtain ⟨a, vs, e, z, r⟩ := h
    exact ⟨a, vs, e, z.kp k, RepDs.kp k ds vs r⟩
  | .tuple ds, _, h => by
    obtain ⟨a, vs, e, z, r⟩ := h
    exact ⟨a, vs, e, sqT_kp k z, RepDs.kp k ds vs r⟩
  | .dict _, _, h => h
theorem RepDs.kp (k : Kp H H') : ∀ (ds : List PyData) (vs : List V), RepDs K H ds vs → RepDs K H' ds vs
  | [], _, h => h
  | d :: ds, _, h => by
    obtain ⟨v, r, e, h1, h2⟩ := h
    exact ⟨v, r, e, RepD.kp k d v h1, RepDs.kp k ds r h2⟩
end
mutual
theorem RepD.dp : ∀ (d : PyData) (v : V), RepD K H d v → Dp K H v d
  | .none, _, h => by cases h; exact .non
  | .bool b, _, h => by cases h; exact .bl b
  | .int i, _, h => by cases h; exact .int i
  | .str x, _, h => by cases h; exact .str x
  | .list ds, _, h => by
    obtain ⟨a, vs, e, z, r⟩ := h
    subst e
    exact .lst z.sq (RepDs.dp ds vs r)
  | .tuple ds, _, h => by
    obtain ⟨a, vs, e, z, r⟩ := h
    subst e
    exact .tup z (RepDs.dp ds vs r)
  | .dict _, _, h => h.elim
theorem RepDs.dp : ∀ (ds : List PyData) (vs : List V), RepDs K H ds vs → DpAll K H vs ds
  | [], _, h => by cases h; exact .nil
  | d :: ds, _, h => by
    obtain ⟨v, r, e, h1, h2⟩ := h
    subst e
    exact .cons (RepD.dp d v h1) (RepDs.dp ds r h2)
end
theorem RepDs.len : ∀ {ds : List PyData} {vs : List V}, RepDs K H ds vs → vs.length = ds.length
  | [], _, h => by cases h; rfl
  | _ :: ds, _, h => by
    obtain ⟨v, r, e, _, h2⟩ := h
    subst e
    simp [RepDs.len h2]
theorem RepDs.get : ∀ {ds : List PyData} {vs : List V} {i : Nat} {d : PyData}, RepDs K H ds vs → ds[i]? = some d → ∃ v, vs[i]? = some v ∧ RepD K H d v
  | [], _, _, _, _, e => by simp at e
  | x :: ds, _, 0, _, h, e => by
    obtain ⟨v, r, e1, h1, h2⟩ := h
    subst e1
    simp at e
    subst e
    exact ⟨v, rfl, h1⟩
  | x :: ds, _, i + 1, _, h, e => by
    obtain ⟨v, r, e1, h1, h2⟩ := h
    subst e1
    obtain ⟨u, e2, h3⟩ := RepDs.get (i := i) h2 (by simpa using e)
    exact ⟨u, by simpa using e2, h3⟩
theorem RepDs.app : ∀ {ds es : List PyData} {vs us : List V}, RepDs K H ds vs → RepDs K H es us → RepDs K H (ds ++ es) (vs ++ us)
  | [], _, _, _, h, q => by cases h; exact q
  | _ :: _, _, _, _, h, q => by
    obtain ⟨v, r, e, h1, h2⟩ := h
    subst e
    exact ⟨v, _, rfl, h1, RepDs.app h2 q⟩
theorem RepDs.take : ∀ {ds : List PyData} {vs : List V} (n : Nat), RepDs K H ds vs → RepDs K H (ds.take n) (vs.take n)
  | _, _, 0, _ => by simp [RepDs]
  | [], _, n + 1, h => by cases h; simp [RepDs]
  | _ :: ds, _, n + 1, h => by
    obtain ⟨v, r, e, h1, h2⟩ := h
    subst e
    exact ⟨v, _, rfl, h1, RepDs.take n h2⟩
theorem RepDs.drop : ∀ {ds : List PyData} {vs : List V} (n : Nat), RepDs K H ds vs → RepDs K H (ds.drop n) (vs.drop n)
  | _, _, 0, h => by simpa using h
  | [], _, n + 1, h => by cases h; simp [RepDs]
  | _ :: ds, _, n + 1, h => by
    obtain ⟨v, r, e, h1, h2⟩ := h
    subst e
    simpa using RepDs.drop n h2
theorem RepDs.rev : ∀ {ds : List PyData} {vs : List V}, RepDs K H ds vs → RepDs K H ds.reverse vs.reverse
  | [], _, h => by cases h; simp [RepDs]
  | d :: ds, _, h => by
    obtain ⟨v, r, e, h1, h2⟩ := h
    subst e
    rw [List.reverse_cons, List.reverse_cons]
    exact RepDs.app (RepDs.rev h2) ⟨v, [], rfl, h1, rfl⟩
theorem RepDs.nil_iff {ds : List PyData} {vs : List V} (h : RepDs K H ds vs) : vs = [] ↔ ds = [] := by
  have := h.len
  constructor
  · intro e; subst e; exact List.eq_nil_of_length_eq_zero (by simpa using this.symm)
  · intro e; subst e; exact List.eq_nil_of_length_eq_zero (by simpa using this)
end

/-- a tuple whose object is bare -/
def BtT (H : Hp) (a : Addr) (vs : List V) : Prop := ∃ o, H a = some (.frz o (.tup vs)) ∧ o.dict = none ∧ o.cls = .type "tuple"
mutual
/-- v is the tree m, whose mutable objects stand at fp -/
def Rep (K : PySem.W.Frag) (H : Hp) : M → V → List Addr → Prop
  | .d x, v, fp => fp = [] ∧ RepD K H x v
  | .bt ds, v, fp => fp = [] ∧ ∃ a vs, v = .ref a ∧ BtT H a vs ∧ RepDs K H ds vs
  | .lst ms, v, fp => ∃ a vs fq, v = .ref a ∧ fp = a :: fq ∧ H a = some (.lst vs) ∧ a ∉ fq ∧ Reps K H ms vs fq
  | .dK ks ms, v, fp => ∃ a vs fq, v = .ref a ∧ fp = a :: fq ∧ H a = some (.dK (ks.zip vs)) ∧ a ∉ fq ∧ vs.length = ks.length ∧ Reps K H ms vs fq
  | .dT ks ms, v, fp => ∃ a vs fq, v = .ref a ∧ fp = a :: fq ∧ H a = some (.dT (ks.zip vs)) ∧ a ∉ fq ∧ vs.length = ks.length ∧ Reps K H ms vs fq
  | .ins c ns ms, v, fp => ∃ a dx vs fq, v = .ref a ∧ fp = a :: fq ∧ H a = some (.ins (He.ga K c) dx (ns.zip vs)) ∧ a ∉ fq ∧ vs.length = ns.length ∧ Reps K H ms vs fq
def Reps (K : PySem.W.Frag) (H : Hp) : List M → List V → List Addr → Prop
  | [], vs, fp => vs = [] ∧ fp = []
  | m :: ms, vs, fp => ∃ v r f1 f2, vs = v :: r ∧ fp = f1 ++ f2 ∧ (∀ b ∈ f1, b ∉ f2) ∧ Rep K H m v f1 ∧ Reps K H ms r f2
end

section
variable {K : PySem.W.Frag} {H H' : Hp}
mutual
theorem Rep.alive : ∀ (m : M) {v : V} {fp : List Addr}, Rep K H m v fp → ∀ b ∈ fp, ∃ o, H b = some o ∧ Mut (some o)
  | .d x, _, _, h, b, hb => by
    obtain ⟨rfl, _⟩ := h
    cases hb
  | .bt x, _, _, h, b, hb => by
    obtain ⟨rfl, _⟩ := h
    cases hb
  | .lst ms, _, _, h, b, hb => by
    obtain ⟨a, vs, fq, rfl, rfl, ha, _, r⟩ := h
    rcases List.mem_cons.mp hb with rfl | hb
    · exact ⟨_, ha, trivial⟩
    · exact Reps.alive ms r b hb
  | .dK ks ms, _, _, h, b, hb => by
    obtain ⟨a, vs, fq, rfl, rfl, ha, _, _, r⟩ := h
    rcases List.mem_cons.mp hb with rfl | hb
    · exact ⟨_, ha, trivial⟩
    · exact Reps.alive ms r b hb
  | .dT ks ms, _, _, h, b, hb => by
    obtain ⟨a, vs, fq, rfl, rfl, ha, _, _, r⟩ := h
    rcases List.mem_cons.mp hb with rfl | hb
    · exact ⟨_, ha, trivial⟩
    · exact Reps.alive ms r b hb
  | .ins c ns ms, _, _, h, b, hb => by
    obtain ⟨a, dx, vs, fq, rfl, rfl, ha, _, _, r⟩ := h
    rcases List.mem_cons.mp hb with rfl | hb
    · exact ⟨_, ha, trivial⟩
    · exact Reps.alive ms r b hb
theorem Reps.alive : ∀ (ms : List M) {vs : List V} {fp : List Addr}, Reps K H ms vs fp → ∀ b ∈ fp, ∃ o, H b = some o ∧ Mut (some o)
  | [], _, _, h, b, hb => by
    obtain ⟨rfl, rfl⟩ := h
    cases hb
  | m :: ms, _, _, h, b, hb => by
    obtain ⟨v, r, f1, f2, rfl, rfl, _, h1, h2⟩ := h
    rcases List.mem_append.mp hb with hb | hb
    · exact Rep.alive m h1 b hb
    · exact Reps.alive ms h2 b hb
end
mutual
theorem Rep.mono (kp : Kp H H') : ∀ (m : M) {v : V} {fp : List Addr}, Rep K H m v fp → (∀ b ∈ fp, H' b = H b) → Rep K H' m v fp
  | .d x, _, _, h, _ => ⟨h.1, RepD.kp kp _ _ h.2⟩
  | .bt ds, _, _, h, _ => by
    obtain ⟨e, a, vs, e2, ⟨o, h1, h2⟩, r⟩ := h
    exact ⟨e, a, vs, e2, ⟨o, kp _ _ h1 (fun z => z), h2⟩, RepDs.kp kp _ _ r⟩
  | .lst ms, _, _, h, k => by
    obtain ⟨a, vs, fq, rfl, rfl, ha, n, r⟩ := h
    exact ⟨a, vs, fq, rfl, rfl, (k a (by simp)).trans ha, n, Reps.mono kp ms r fun b hb => k b (by simp [hb])⟩
  | .dK ks ms, _, _, h, k => by
    obtain ⟨a, vs, fq, rfl, rfl, ha, n, l, r⟩ := h
    exact ⟨a, vs, fq, rfl, rfl, (k a (by simp)).trans ha, n, l, Reps.mono kp ms r fun b hb => k b (by simp [hb])⟩
  | .dT ks ms, _, _, h, k => by
    obtain ⟨a, vs, fq, rfl, rfl, ha, n, l, r⟩ := h
    exact ⟨a, vs, fq, rfl, rfl, (k a (by simp)).trans ha, n, l, Reps.mono kp ms r fun b hb => k b (by simp [hb])⟩
  | .ins c ns ms, _, _, h, k => by
    obtain ⟨a, dx, vs, fq, rfl, rfl, ha, n, l, r⟩ := h
    exact ⟨a, dx, vs, fq, rfl, rfl, (k a (by simp)).trans ha, n, l, Reps.mono kp ms r fun b hb => k b (by simp [hb])⟩
theorem Reps.mono (kp : Kp H H') : ∀ (ms : List M) {vs : List V} {fp : List Addr}, Reps K H ms vs fp → (∀ b ∈ fp, H' b = H b) → Reps K H' ms vs fp
  | [], _, _, h, _ => h
  | m :: ms, _, _, h, k => by
    obtain ⟨v, r, f1, f2, rfl, rfl, n, h1, h2⟩ := h
    exact ⟨v, r, f1, f2, rfl, rfl, n, Rep.mono kp m h1 fun b hb => k b (by simp [hb]), Reps.mono kp ms h2 fun b hb => k b (by simp [hb])⟩
end
theorem Reps.len : ∀ {ms : List M} {vs : List V} {fp : List Addr}, Reps K H ms vs fp → vs.length = ms.length
  | [], _, _, h => by obtain ⟨rfl, _⟩ := h; rfl
  | _ :: ms, _, _, h => by
    obtain ⟨v, r, f1, f2, rfl, _, _, _, h2⟩ := h
    simp [Reps.len h2]
end

/-! ### slots -/
structure StR (K : PySem.W.Frag) (H : Hp) (σ : L2.St) (ρ : MS) (fps : Fp) : Prop where
  len : σ.length = ρ.length
  slot : ∀ i m, ρ[i]? = some (some m) → ∃ v, σ[i]? = some (some v) ∧ Rep K H m v (fps i)
  emp : ∀ i, (∀ m, ρ[i]? ≠ some (some m)) → fps i = []
  dis : ∀ i j, i ≠ j → ∀ b ∈ fps i, b ∉ fps j

/-- what may have been done: the objects of the slots ws may have changed, else all is kept -/
structure Eff (ws : List Nat) (H H' : Hp) (fps fps' : Fp) : Prop where
  keep : ∀ b o, H b = some o → (∀ i ∈ ws, b ∉ fps i) → H' b = some o
  live : ∀ b, H' b = none → H b = none
  stay : ∀ i, i ∉ ws → fps' i = fps i
  sub : ∀ i ∈ ws, ∀ b ∈ fps' i, (∃ j ∈ ws, b ∈ fps j) ∨ H b = none
/-- where a result's objects stand: in the slots vs, or apart from all slots -/
def Res (ws vs : List Nat) (H : Hp) (fps fps' : Fp) (fp : List Addr) : Prop :=
  ∀ b ∈ fp, (∃ i ∈ vs, b ∈ fps' i) ∨ ((∀ i, b ∉ fps' i) ∧ ((∃ j ∈ ws, b ∈ fps j) ∨ H b = none))

section
variable {K : PySem.W.Frag} {H H1 H2 H' : Hp} {σ : L2.St} {ρ ρ' : MS} {fps fps1 fps2 fps' : Fp} {ws ws1 ws2 vs vs1 vs2 : List Nat} {fp fp1 fp2 : List Addr}
theorem StR.alive (S : StR K H σ ρ fps) {i : Nat} {b : Addr} (hb : b ∈ fps i) : ∃ o, H b = some o ∧ Mut (some o) := by
  by_cases h : ∃ m, ρ[i]? = some (some m)
  · obtain ⟨m, h⟩ := h
    obtain ⟨v, _, r⟩ := S.slot i m h
    exact Rep.alive m r b hb
  · rw [S.emp i fun m e => h ⟨m, e⟩] at hb
    cases hb
theorem StR.mono (S : StR K H σ ρ fps) (kp : Kp H H') (k : ∀ i, ∀ b ∈ fps i, H' b = H b) : StR K H' σ ρ fps :=
  ⟨S.len, fun i m e => let ⟨v, e', r⟩ := S.slot i m e; ⟨v, e', Rep.mono kp m r (k i)⟩, S.emp, S.dis⟩
theorem StR.same (S : StR K H σ ρ fps) (s : Same H H') : StR K H' σ ρ fps :=
  S.mono (.of_same s) fun i b hb => by
    obtain ⟨o, e, _⟩ := S.alive hb
    rw [e, s b o e]
theorem Eff.refl : Eff ws H H fps fps := ⟨fun _ _ e _ => e, fun _ e => e, fun _ _ => rfl, fun i hi b hb => .inl ⟨i, hi, hb⟩⟩
theorem Eff.of_same (s : Same H H') : Eff [] H H' fps fps := ⟨fun b o e _ => s b o e, fun b e => s.free e, fun _ _ => rfl, fun i hi => by cases hi⟩
theorem Eff.same (e : Eff [] H H' fps fps') : Same H H' := fun b o h => e.keep b o h fun i hi => by cases hi
theorem Eff.fpsEq (e : Eff [] H H' fps fps') : fps' = fps := funext fun i => e.stay i (by simp)
theorem Eff.kp (S : StR K H σ ρ fps) (e : Eff ws H H' fps fps') : Kp H H' := fun b o h n => e.keep b o h fun i _ hb => by
  obtain ⟨o', e', mu⟩ := S.alive hb
  rw [h] at e'; cases e'
  exact n mu
theorem Eff.trans (e1 : Eff ws1 H H1 fps fps1) (e2 : Eff ws2 H1 H2 fps1 fps2) : Eff (ws1 ++ ws2) H H2 fps fps2 where
  keep := fun b o h n => e2.keep b o (e1.keep b o h fun i hi => n i (by simp [hi])) fun i hi hb => by
    by_cases h1 : i ∈ ws1
    · rcases e1.sub i h1 b hb with ⟨j, hj, q⟩ | q
      · exact n j (by simp [hj]) q
      · rw [h] at q; cases q
    · rw [e1.stay i h1] at hb
      exact n i (by simp [hi]) hb
  live := fun b h => e1.live b (e2.live b h)
  stay := fun i hi => by
    rw [e2.stay i (fun z => hi (by simp [z])), e1.stay i (fun z => hi (by simp [z]))]
  sub := fun i hi b hb => by
    have first : ∀ i, b ∈ fps1 i → i ∈ ws1 ++ ws2 → (∃ j ∈ ws1 ++ ws2, b ∈ fps j) ∨ H b = none := fun i hb hi => by
      by_cases h1 : i ∈ ws1
      · rcases e1.sub i h1 b hb with ⟨j, hj, q⟩ | q
        · exact .inl ⟨j, by simp [hj], q⟩
        · exact .inr q
      · rw [e1.stay i h1] at hb
        exact .inl ⟨i, hi, hb⟩
    by_cases h2 : i ∈ ws2
    · rcases e2.sub i h2 b hb with ⟨j, hj, q⟩ | q
      · exact first j q (by simp [hj])
      · exact .inr (e1.live b q)
    · rw [e2.stay i h2] at hb
      exact first i hb hi
theorem Eff.weak (e : Eff ws1 H H1 fps fps1) (h : ∀ i ∈ ws1, i ∈ ws2) : Eff ws2 H H1 fps fps1 where
  keep := fun b o hb n => e.keep b o hb fun i hi => n i (h i hi)
  live := e.live
  stay := fun i hi => e.stay i fun z => hi (h i z)
  sub := fun i hi b hb => by
    by_cases h1 : i ∈ ws1
    · rcases e.sub i h1 b hb with ⟨j, hj, q⟩ | q
      · exact .inl ⟨j, h j hj, q⟩
      · exact .inr q
    · rw [e.stay i h1] at hb
      exact .inl ⟨i, hi, hb⟩
theorem Res.weak (r : Res ws1 vs H fps fps1 fp) (h : ∀ i ∈ ws1, i ∈ ws2) : Res ws2 vs H fps fps1 fp := fun b hb => by
  rcases r b hb with q | ⟨q, ⟨j, hj, z⟩ | z⟩
  · exact .inl q
  · exact .inr ⟨q, .inl ⟨j, h j hj, z⟩⟩
  · exact .inr ⟨q, .inr z⟩
theorem Res.nil : Res ws vs H fps fps1 [] := fun b hb => by cases hb
/-- a result stays while others are reckoned -/
theorem Res.kept (S1 : StR K H1 σ ρ fps1) (r : Res ws1 vs1 H fps fps1 fp1) (al : ∀ b ∈ fp1, ∃ o, H1 b = some o ∧ Mut (some o)) (e2 : Eff ws2 H1 H2 fps1 fps2) (hv : ∀ i ∈ vs1, i ∉ ws2) : ∀ b ∈ fp1, H2 b = H1 b := fun b hb => by
  obtain ⟨o, h, _⟩ := al b hb
  rw [h]
  refine e2.keep b o h fun i hi hbi => ?_
  rcases r b hb with ⟨j, hj, q⟩ | ⟨q, _⟩
  · exact S1.dis j i (fun z => hv j hj (z ▸ hi)) b q hbi
  · exact q i hbi
theorem Res.carry (S1 : StR K H1 σ ρ fps1) (r : Res ws1 vs1 H fps fps1 fp1) (al : ∀ b ∈ fp1, ∃ o, H1 b = some o ∧ Mut (some o)) (e2 : Eff ws2 H1 H2 fps1 fps2) (hv : ∀ i ∈ vs1, i ∉ ws2) : Res (ws1 ++ ws2) vs1 H fps fps2 fp1 := fun b hb => by
  rcases r b hb with ⟨j, hj, q⟩ | ⟨q, z⟩
  · exact .inl ⟨j, hj, by rw [e2.stay j (hv j hj)]; exact q⟩
  · refine .inr ⟨fun i hi => ?_, ?_⟩
    · by_cases h2 : i ∈ ws2
      · rcases e2.sub i h2 b hi with ⟨j, _, w⟩ | w
        · exact q j w
        · obtain ⟨o, h, _⟩ := al b hb
          rw [h] at w; cases w
      · rw [e2.stay i h2] at hi
        exact q i hi
    · rcases z with ⟨j, hj, w⟩ | w
      · exact .inl ⟨j, by simp [hj], w⟩
      · exact .inr w
/-- the second result, seen from the start -/
theorem Res.later (e1 : Eff ws1 H H1 fps fps1) (r : Res ws2 vs2 H1 fps1 fps2 fp2) : Res (ws1 ++ ws2) vs2 H fps fps2 fp2 := fun b hb => by
  rcases r b hb with q | ⟨q, z⟩
  · exact .inl q
  · refine .inr ⟨q, ?_⟩
    rcases z with ⟨j, hj, w⟩ | w
    · by_cases h1 : j ∈ ws1
      · rcases e1.sub j h1 b w with ⟨i, hi, u⟩ | u
        · exact .inl ⟨i, by simp [hi], u⟩
        · exact .inr u
      · rw [e1.stay j h1] at w
        exact .inl ⟨j, by simp [hj], w⟩
    · exact .inr (e1.live b w)
/-- a new object -/
theorem Same.new {a : Addr} {o : HO} (h : H a = none) : Same H (upd H a o) := fun b x e => by
  rw [upd_ne (ne_of_none e h)]
  exact e
theorem Res.fresh {a : Addr} (S : StR K H σ ρ fps) (h : H a = none) : Res [] [] H fps fps [a] := fun b hb => by
  obtain rfl : b = a := by simpa using hb
  refine .inr ⟨fun i hi => ?_, .inr h⟩
  obtain ⟨o, e, _⟩ := S.alive hi
  rw [h] at e; cases e
end

/-! ### judgements -/
theorem _root_.L2.PE.imp {X : Cx} {e : Expr} {t t' : TE} (h : PE X e t) (k : ∀ σ H Q, t' σ H Q → t σ H Q) : PE X e t' := ⟨fun pins s σ H Q I q => h.run pins s σ H Q I (k σ H Q q)⟩
theorem _root_.L2.PT.imp {X : Cx} {e : Expr} {t t' : TT} (h : PT X e t) (k : ∀ σ H Q, t' σ H Q → t σ H Q) : PT X e t' := ⟨fun pins s σ H Q I q => h.run pins s σ H Q I (k σ H Q q)⟩
theorem _root_.L2.PW.imp {X : Cx} {e : Expr} {t t' : TT} (h : PW X e t) (k : ∀ σ H Q, t' σ H Q → t σ H Q) : PW X e t' := ⟨fun wh pins s σ H Q I q => h.run wh pins s σ H Q I (k σ H Q q)⟩
theorem _root_.L2.PA.imp {X : Cx} {e : List Expr} {t t' : TA} (h : PA X e t) (k : ∀ σ H Q, t' σ H Q → t σ H Q) : PA X e t' := ⟨fun p pins s σ H Q I q => h.run p pins s σ H Q I (k σ H Q q)⟩
theorem _root_.L2.PS.imp {X : Cx} {e : Stmt} {t t' : TS} (h : PS X e t) (k : ∀ σ H Q, t' Q σ H → t Q σ H) : PS X e t' := ⟨fun pins s σ H Q I q => h.run pins s σ H Q I (k σ H Q q)⟩
theorem _root_.L2.PSs.imp {X : Cx} {e : List Stmt} {t t' : TS} (h : PSs X e t) (k : ∀ σ H Q, t' Q σ H → t Q σ H) : PSs X e t' := ⟨fun pins s σ H Q I q => h.run pins s σ H Q I (k σ H Q q)⟩

abbrev FE := MS → Option (M × MS)
abbrev FT := MS → Option (Bool × MS)
abbrev FA := MS → Option (List M × MS)
def tE (K : PySem.W.Frag) (ws vs : List Nat) (f : FE) : TE := fun σ H Q => ∃ ρ fps m ρ', StR K H σ ρ fps ∧ f ρ = some (m, ρ') ∧
  ∀ v H' fps' fp, StR K H' σ ρ' fps' → Rep K H' m v fp → Eff ws H H' fps fps' → Res ws vs H fps fps' fp → Q v H'
def tT (K : PySem.W.Frag) (ws : List Nat) (f : FT) : TT := fun σ H Q => ∃ ρ fps b ρ', StR K H σ ρ fps ∧ f ρ = some (b, ρ') ∧
  ∀ H' fps', StR K H' σ ρ' fps' → Eff ws H H' fps fps' → Q b H'
def tA (K : PySem.W.Frag) (ws : List Nat) (f : FA) : TA := fun σ H Q => ∃ ρ fps ms ρ', StR K H σ ρ fps ∧ f ρ = some (ms, ρ') ∧
  ∀ us H' fps' fp, StR K H' σ ρ' fps' → Reps K H' ms us fp → Eff ws H H' fps fps' → Res ws [] H fps fps' fp → Q us H'
structure DE (X : Cx) (e : Expr) (ws vs : List Nat) (f : FE) : Prop where
  pe : PE X e (tE X.K ws vs f)
structure DT (X : Cx) (e : Expr) (ws : List Nat) (f : FT) : Prop where
  pt : PT X e (tT X.K ws f)
structure DW (X : Cx) (e : Expr) (ws : List Nat) (f : FT) : Prop where
  pw : PW X e (tT X.K ws f)
structure DA (X : Cx) (es : List Expr) (ws : List Nat) (f : FA) : Prop where
  pa : PA X es (tA X.K ws f)
end DL
namespace DL
open L2 PySem.Spec PySem PyProof.Rows

/-! ### expressions -/
def M.dat : M → Option PyData
  | .d x => some x
  | .bt ds => some (.tuple ds)
  | _ => none
theorem BtT.sq {K : PySem.W.Frag} {H : Hp} {a : Addr} {vs : List V} (h : BtT H a vs) : SqT K H a vs := by
  obtain ⟨o, h, _⟩ := h
  exact .inl (.inr ⟨o, h⟩)
theorem dat_rep {K : PySem.W.Frag} {H : Hp} {m : M} {x : PyData} {v : V} {fp : List Addr} (h : m.dat = some x) (r : Rep K H m v fp) : fp = [] ∧ RepD K H x v := by
  cases m with
  | d y =>
    obtain rfl := Option.some.inj h
    exact r
  | bt ds =>
    obtain rfl := Option.some.inj h
    obtain ⟨e, a, vs, e2, hb, hr⟩ := r
    exact ⟨e, a, vs, e2, hb.sq, hr⟩
  | _ => cases h
def sl (ρ : MS) (i : Nat) : Option M := match ρ[i]? with
  | some (some m) => some m
  | _ => none
theorem sl_eq {ρ : MS} {i : Nat} {m : M} (h : sl ρ i = some m) : ρ[i]? = some (some m) := by
  unfold sl at h
  split at h
  · cases h; assumption
  · cases h

def fVar (i : Nat) : FE := fun ρ => (sl ρ i).bind fun m => some (m, ρ)
def fC (x : PyData) : FE := fun ρ => some (.d x, ρ)
/-- only what is no mutable object -/
def fCp (f : FE) : FE := fun ρ => (f ρ).bind fun p => p.1.dat.bind fun x => some (.d x, p.2)
/-- out of the slot -/
def fMv (i : Nat) : FE := fun ρ => (sl ρ i).bind fun m => some (m, ρ.set i none)

section
variable {X : Cx} {e a b : Expr} {es : List Expr} {ws vs ws1 ws2 vs1 vs2 : List Nat} {f f1 f2 : FE} {pos : Pos}
theorem de_var (i : Nat) {x : Str} (hN : X.N[i]? = some x := by rfl) (hv : Vis X.env.scope x := by first | exact Or.inl rfl | exact Or.inr (Or.inl rfl) | exact Or.inr (Or.inr rfl)) (hd : (x == ("__debug__" : Str)) = false := by decide)
    (hcd : (x == ("__classdict__" : Str)) = false := by decide) : DE X (.Name x pos) [] [i] (fVar i) := by
  refine ⟨(pe_var hN hv hd hcd).imp fun σ H Q h => ?_⟩
  obtain ⟨ρ, fps, m, ρ', S, e, q⟩ := h
  obtain ⟨m', e1, e2⟩ := Option.bind_eq_some_iff.mp e
  obtain ⟨rfl, rfl⟩ := Prod.mk.inj (Option.some.inj e2)
  obtain ⟨v, e3, r⟩ := S.slot i _ (sl_eq e1)
  exact ⟨v, e3, q v H fps _ S r (Eff.refl) fun b hb => .inl ⟨i, by simp, hb⟩⟩
theorem de_cp (h : DE X e ws vs f) : DE X e ws [] (fCp f) := by
  refine ⟨h.pe.imp fun σ H Q h => ?_⟩
  obtain ⟨ρ, fps, m, ρ', S, e, q⟩ := h
  obtain ⟨⟨m', ρ1⟩, e1, e2⟩ := Option.bind_eq_some_iff.mp e
  obtain ⟨x, e3, e4⟩ := Option.bind_eq_some_iff.mp e2
  obtain ⟨rfl, rfl⟩ := Prod.mk.inj (Option.some.inj e4)
  refine ⟨ρ, fps, _, _, S, e1, fun v H' fps' fp S' R E _ => ?_⟩
  obtain ⟨rfl, R2⟩ := dat_rep e3 R
  exact q v H' fps' [] S' ⟨rfl, R2⟩ E Res.nil
theorem set_slot {K : PySem.W.Frag} {H : Hp} {σ : L2.St} {ρ : MS} {fps : Fp} (S : StR K H σ ρ fps) (i : Nat) : StR K H σ (ρ.set i none) (fun j => if j = i then [] else fps j) := by
  refine ⟨by rw [List.length_set]; exact S.len, fun j m e => ?_, fun j hj => ?_, fun j k hjk b hb hk => ?_⟩
  · by_cases h : j = i
    · subst h
      by_cases hl : j < ρ.length
      · rw [List.getElem?_set_self hl] at e; cases e
      · rw [List.getElem?_eq_none (by rw [List.length_set]; omega)] at e; cases e
    · rw [List.getElem?_set_ne (Ne.symm h)] at e
      simpa [h] using S.slot j m e
  · by_cases h : j = i
    · simp [h]
    · simp only [h, if_false]
      refine S.emp j fun m e => hj m ?_
      rw [List.getElem?_set_ne (Ne.symm h)]
      exact e
  · by_cases h : j = i
    · simp [h] at hb
    · by_cases h' : k = i
      · simp [h'] at hk
      · simp only [h, h', if_false] at hb hk
        exact S.dis j k hjk b hb hk
theorem de_mv (i : Nat) {x : Str} (hN : X.N[i]? = some x := by rfl) (hv : Vis X.env.scope x := by first | exact Or.inl rfl | exact Or.inr (Or.inl rfl) | exact Or.inr (Or.inr rfl)) (hd : (x == ("__debug__" : Str)) = false := by decide)
    (hcd : (x == ("__classdict__" : Str)) = false := by decide) : DE X (.Name x pos) [i] [] (fMv i) := by
  refine ⟨(pe_var hN hv hd hcd).imp fun σ H Q h => ?_⟩
  obtain ⟨ρ, fps, m, ρ', S, e, q⟩ := h
  obtain ⟨m', e1, e2⟩ := Option.bind_eq_some_iff.mp e
  obtain ⟨rfl, rfl⟩ := Prod.mk.inj (Option.some.inj e2)
  obtain ⟨v, e3, r⟩ := S.slot i _ (sl_eq e1)
  refine ⟨v, e3, q v H (fun j => if j = i then [] else fps j) _ (set_slot S i) r ⟨fun _ _ e _ => e, fun _ e => e, fun j hj => ?_, fun j hj b hb => ?_⟩ fun b hb => .inr ⟨fun j hj => ?_, .inl ⟨i, by simp, hb⟩⟩⟩
  · have : j ≠ i := fun z => hj (by simp [z])
    simp [this]
  · have : j = i := by simpa using hj
    simp [this] at hb
  · by_cases h : j = i
    · simp [h] at hj
    · simp only [h, if_false] at hj
      exact S.dis j i h b hj hb
theorem de_const {v : V} {d : PyData} (h : PE X e (tC v)) (r : ∀ H, RepD X.K H d v) : DE X e [] [] (fC d) := by
  refine ⟨h.imp fun σ H Q h => ?_⟩
  obtain ⟨ρ, fps, m, ρ', S, e, q⟩ := h
  obtain ⟨rfl, rfl⟩ := Prod.mk.inj (Option.some.inj e)
  exact q v H fps [] S ⟨rfl, r H⟩ Eff.refl Res.nil
theorem de_int {i : Int} {j} : DE X (.Constant (.int i) j pos) [] [] (fC (.int i)) := de_const pe_int fun _ => rfl
theorem de_bl {i : Bool} {j} : DE X (.Constant (.bool i) j pos) [] [] (fC (.bool i)) := de_const pe_bl fun _ => rfl
theorem de_non {j} : DE X (.Constant .none j pos) [] [] (fC .none) := de_const pe_non fun _ => rfl
theorem de_str {i : Str} {j} : DE X (.Constant (.str i) j pos) [] [] (fC (.str i)) := de_const pe_str fun _ => rfl
end

/-! ### operations that give something new -/
/-- a new result -/
def New (K : PySem.W.Frag) (H : Hp) (z : M) (Q : VK) : Prop := ∀ v H' fp, Same H H' → Rep K H' z v fp → (∀ b ∈ fp, H b = none) → Q v H'
def r2G (K : PySem.W.Frag) (g : M → M → Option M) : R2 := fun x y H Q => ∃ mx fx my fy z, Rep K H mx x fx ∧ Rep K H my y fy ∧ g mx my = some z ∧ New K H z Q
def r1G (K : PySem.W.Frag) (g : M → Option M) : V → Hp → VK → Prop := fun x H Q => ∃ mx fx z, Rep K H mx x fx ∧ g mx = some z ∧ New K H z Q
theorem New.dat {K : PySem.W.Frag} {H : Hp} {d : PyData} {Q : VK} {v : V} (n : New K H (.d d) Q) (r : RepD K H d v) : Q v H := n v H [] (Same.refl H) ⟨rfl, r⟩ (by simp)

/-- g on data -/
def g2D (g : PyData → PyData → Option PyData) : M → M → Option M
  | .d x, .d y => (g x y).bind fun z => some (.d z)
  | _, _ => none
def g1D (g : PyData → Option PyData) : M → Option M
  | .d x => (g x).bind fun z => some (.d z)
  | _ => none
def fBin (g : M → M → Option M) (f h : FE) : FE := fun ρ => (f ρ).bind fun p => (h p.2).bind fun q => (g p.1 q.1).bind fun z => some (z, q.2)
def fUn (g : M → Option M) (f : FE) : FE := fun ρ => (f ρ).bind fun p => (g p.1).bind fun z => some (z, p.2)

section
variable {X : Cx} {e a b : Expr} {es : List Expr} {ws vs ws1 ws2 vs1 vs2 : List Nat} {f f1 f2 : FE} {pos : Pos} {g : M → M → Option M} {g1 : M → Option M}

theorem new_done {K : PySem.W.Frag} {H H1 : Hp} {σ : L2.St} {ρ : MS} {fps fps1 : Fp} {ws : List Nat} {z : M} {Q : VK} (S : StR K H σ ρ fps) (S1 : StR K H1 σ ρ' fps1) (E : Eff ws H H1 fps fps1)
    (q : ∀ v H' fps' fp, StR K H' σ ρ' fps' → Rep K H' z v fp → Eff ws H H' fps fps' → Res ws [] H fps fps' fp → Q v H') : New K H1 z Q := fun v H' fp s R n => by
  refine q v H' fps1 fp (S1.same s) R ?_ fun b hb => .inr ⟨fun i hi => ?_, .inr (E.live b (n b hb))⟩
  · have := E.trans (Eff.of_same (fps := fps1) s)
    rw [List.append_nil] at this
    exact this
  · obtain ⟨o, e, _⟩ := S1.alive hi
    rw [n b hb] at e; cases e

/-- the core: two operands, then something new -/
theorem two_new {r : R2} {σ : L2.St} {H : Hp} {Q : VK} (hr : r2G X.K g = r) (hv : ∀ i ∈ vs1, i ∉ ws2) (h : tE X.K (ws1 ++ ws2) [] (fBin g f1 f2) σ H Q) : tOp r (tE X.K ws1 vs1 f1) (tE X.K ws2 vs2 f2) σ H Q := by
  subst hr
  obtain ⟨ρ, fps, m, ρ', S, e, q⟩ := h
  obtain ⟨⟨m1, ρ1⟩, e1, e⟩ := Option.bind_eq_some_iff.mp e
  obtain ⟨⟨m2, ρ2⟩, e2, e⟩ := Option.bind_eq_some_iff.mp e
  obtain ⟨z, e3, e⟩ := Option.bind_eq_some_iff.mp e
  obtain ⟨rfl, rfl⟩ := Prod.mk.inj (Option.some.inj e)
  refine ⟨ρ, fps, _, _, S, e1, fun v1 H1 fps1 fp1 S1 R1 E1 P1 => ?_⟩
  refine ⟨_, fps1, _, _, S1, e2, fun v2 H2 fps2 fp2 S2 R2 E2 P2 => ?_⟩
  exact ⟨m1, fp1, m2, fp2, _, Rep.mono (E2.kp S1) m1 R1 (P1.kept S1 (Rep.alive m1 R1) E2 hv), R2, e3, new_done S S2 (E1.trans E2) q⟩
theorem de_op {op : Operator} (ho : OpR X (binaryOp op) (r2G X.K g)) (ha : DE X a ws1 vs1 f1) (hb : DE X b ws2 vs2 f2) (hv : ∀ i ∈ vs1, i ∉ ws2 := by decide) : DE X (.BinOp a op b pos) (ws1 ++ ws2) [] (fBin g f1 f2) :=
  ⟨(pe_op ho ha.pe hb.pe).imp fun σ H Q h => two_new rfl hv h⟩
theorem de_cmp {op : CmpOp} (ho : OpR X (compareOp op) (r2G X.K g)) (ha : DE X a ws1 vs1 f1) (hb : DE X b ws2 vs2 f2) (hm : behindInMarks op b = false := by rfl) (hv : ∀ i ∈ vs1, i ∉ ws2 := by decide) :
    DE X (.Compare a [op] [b] pos) (ws1 ++ ws2) [] (fBin g f1 f2) :=
  ⟨(pe_cmpR ho ha.pe hb.pe hm).imp fun σ H Q h => two_new rfl hv h⟩
theorem de_un {op : UnaryOp} (ho : UnR X (unaryOp op) (r1G X.K g1)) (ha : DE X a ws1 vs1 f1) : DE X (.UnaryOp op a pos) ws1 [] (fUn g1 f1) := by
  refine ⟨(pe_un ho ha.pe).imp fun σ H Q h => ?_⟩
  obtain ⟨ρ, fps, m, ρ', S, e, q⟩ := h
  obtain ⟨⟨m1, ρ1⟩, e1, e⟩ := Option.bind_eq_some_iff.mp e
  obtain ⟨z, e3, e⟩ := Option.bind_eq_some_iff.mp e
  obtain ⟨rfl, rfl⟩ := Prod.mk.inj (Option.some.inj e)
  refine ⟨ρ, fps, _, _, S, e1, fun v1 H1 fps1 fp1 S1 R1 E1 P1 => ?_⟩
  exact ⟨m1, fp1, _, R1, e3, new_done S S1 E1 q⟩
/-! ### tests -/
/-- a bool's answer -/
def M.bool : M → Option Bool
  | .d (.bool b) => some b
  | _ => none
theorem M.bool_eq {m : M} {c : Bool} (h : m.bool = some c) : m = .d (.bool c) := by
  unfold M.bool at h
  split at h
  · cases h; rfl
  · cases h
def fTst (f : FE) : FT := fun ρ => (f ρ).bind fun p => p.1.bool.bind fun b => some (b, p.2)
theorem tst {σ : L2.St} {H : Hp} {Q : Bool → Hp → Prop} (h : tT X.K ws (fTst f) σ H Q) : tE X.K ws vs f σ H fun x H1 => ∃ c, x = .bl c ∧ Q c H1 := by
  obtain ⟨ρ, fps, m, ρ', S, e, q⟩ := h
  obtain ⟨⟨m1, ρ1⟩, e1, e⟩ := Option.bind_eq_some_iff.mp e
  obtain ⟨b, e3, e⟩ := Option.bind_eq_some_iff.mp e
  obtain ⟨rfl, rfl⟩ := Prod.mk.inj (Option.some.inj e)
  refine ⟨ρ, fps, _, _, S, e1, fun v1 H1 fps1 fp1 S1 R1 E1 P1 => ?_⟩
  obtain rfl := M.bool_eq e3
  obtain ⟨_, rv⟩ := R1
  exact ⟨b, rv, q H1 fps1 S1 E1⟩
theorem dt_val (h : DE X e ws vs f) (he : ∀ whole, isTrue e X.env whole = (do let v ← whole; standAt e.pos; holding [v] (truthy v)) := by intro _; rfl) : DT X e ws (fTst f) :=
  ⟨(pt_val h.pe he).imp fun σ H Q q => tst q⟩
theorem dt_cmp {op : CmpOp} (ho : OpR X (compareOp op) (r2G X.K g)) (ha : DE X a ws1 vs1 f1) (hb : DE X b ws2 vs2 f2) (hm : behindInMarks op b = false := by rfl) (hv : ∀ i ∈ vs1, i ∉ ws2 := by decide) :
    DT X (.Compare a [op] [b] pos) (ws1 ++ ws2) (fTst (fBin g f1 f2)) :=
  ⟨(pt_cmpR ho ha.pe hb.pe hm).imp fun σ H Q q => two_new rfl hv (tst (vs := []) q)⟩
def fTAnd (f h : FT) : FT := fun ρ => (f ρ).bind fun p => if p.1 = true then h p.2 else some (false, p.2)
def fTOr (f h : FT) : FT := fun ρ => (f ρ).bind fun p => if p.1 = true then some (true, p.2) else h p.2
def fTNot (f : FT) : FT := fun ρ => (f ρ).bind fun p => some (!p.1, p.2)
variable {t1 t2 : FT} {rest : List Expr}
theorem tT_seq {K : PySem.W.Frag} {H H1 : Hp} {σ : L2.St} {ρ1 : MS} {fps fps1 : Fp} {Q : Bool → Hp → Prop} {c : Bool} {ρ' : MS} (S1 : StR K H1 σ ρ1 fps1) (E1 : Eff ws1 H H1 fps fps1) (e : t2 ρ1 = some (c, ρ'))
    (q : ∀ H' fps', StR K H' σ ρ' fps' → Eff (ws1 ++ ws2) H H' fps fps' → Q c H') : tT K ws2 t2 σ H1 Q := ⟨_, fps1, _, _, S1, e, fun H' fps' S' E' => q H' fps' S' (E1.trans E')⟩
theorem dw_and1 (ha : DT X a ws1 t1) : DW X (.BoolOp .And [a] pos) ws1 t1 := ⟨pw_and1 ha.pt⟩
theorem dw_or1 (ha : DT X a ws1 t1) : DW X (.BoolOp .Or [a] pos) ws1 t1 := ⟨pw_or1 ha.pt⟩
theorem dw_and (ha : DT X a ws1 t1) (hb : DW X (.BoolOp .And (b :: rest) pos) ws2 t2) : DW X (.BoolOp .And (a :: b :: rest) pos) (ws1 ++ ws2) (fTAnd t1 t2) := by
  refine ⟨(pw_and ha.pt hb.pw).imp fun σ H Q h => ?_⟩
  obtain ⟨ρ, fps, m, ρ', S, e, q⟩ := h
  obtain ⟨⟨c, ρ1⟩, e1, e⟩ := Option.bind_eq_some_iff.mp e
  refine ⟨ρ, fps, _, _, S, e1, fun H1 fps1 S1 E1 => ?_⟩
  cases c with
  | true => exact iteT (tT_seq S1 E1 (by simpa using e) q)
  | false =>
    obtain ⟨rfl, rfl⟩ : false = m ∧ ρ1 = ρ' := by simpa using e
    exact iteF (q H1 fps1 S1 (E1.weak (by simp; intro i hi; exact .inl hi)))
theorem dw_or (ha : DT X a ws1 t1) (hb : DW X (.BoolOp .Or (b :: rest) pos) ws2 t2) : DW X (.BoolOp .Or (a :: b :: rest) pos) (ws1 ++ ws2) (fTOr t1 t2) := by
  refine ⟨(pw_or ha.pt hb.pw).imp fun σ H Q h => ?_⟩
  obtain ⟨ρ, fps, m, ρ', S, e, q⟩ := h
  obtain ⟨⟨c, ρ1⟩, e1, e⟩ := Option.bind_eq_some_iff.mp e
  refine ⟨ρ, fps, _, _, S, e1, fun H1 fps1 S1 E1 => ?_⟩
  cases c with
  | false => exact iteF (tT_seq S1 E1 (by simpa using e) q)
  | true =>
    obtain ⟨rfl, rfl⟩ : true = m ∧ ρ1 = ρ' := by simpa using e
    exact iteT (q H1 fps1 S1 (E1.weak (by simp; intro i hi; exact .inl hi)))
theorem dw_dt (h : DW X e ws t1) : DT X e ws t1 := ⟨h.pw.pt⟩
theorem dt_not (ha : DT X a ws1 t1) : DT X (.UnaryOp .Not a pos) ws1 (fTNot t1) := by
  refine ⟨(pt_not ha.pt).imp fun σ H Q h => ?_⟩
  obtain ⟨ρ, fps, m, ρ', S, e, q⟩ := h
  obtain ⟨⟨c, ρ1⟩, e1, e⟩ := Option.bind_eq_some_iff.mp e
  obtain ⟨rfl, rfl⟩ := Prod.mk.inj (Option.some.inj e)
  exact ⟨ρ, fps, _, _, S, e1, fun H1 fps1 S1 E1 => q H1 fps1 S1 E1⟩
/-! ### .. as values -/
def fAnd (f h : FE) : FE := fun ρ => (f ρ).bind fun p => p.1.bool.bind fun c => if c = true then h p.2 else some (.d (.bool false), p.2)
def fOr (f h : FE) : FE := fun ρ => (f ρ).bind fun p => p.1.bool.bind fun c => if c = true then some (.d (.bool true), p.2) else h p.2
theorem tE_seq {K : PySem.W.Frag} {H H1 : Hp} {σ : L2.St} {ρ1 : MS} {fps fps1 : Fp} {Q : VK} {m : M} {ρ' : MS} (S1 : StR K H1 σ ρ1 fps1) (E1 : Eff ws1 H H1 fps fps1) (e : f2 ρ1 = some (m, ρ'))
    (q : ∀ v H' fps' fp, StR K H' σ ρ' fps' → Rep K H' m v fp → Eff (ws1 ++ ws2) H H' fps fps' → Res (ws1 ++ ws2) vs2 H fps fps' fp → Q v H') : tE K ws2 vs2 f2 σ H1 Q :=
  ⟨_, fps1, _, _, S1, e, fun v H' fps' fp S' R' E' P' => q v H' fps' fp S' R' (E1.trans E') (Res.later E1 P')⟩
theorem de_and (ha : DE X a ws1 vs1 f1) (hb : DE X (.BoolOp .And (b :: rest) pos) ws2 vs2 f2) : DE X (.BoolOp .And (a :: b :: rest) pos) (ws1 ++ ws2) vs2 (fAnd f1 f2) := by
  refine ⟨(pe_and ha.pe hb.pe).imp fun σ H Q h => ?_⟩
  obtain ⟨ρ, fps, m, ρ', S, e, q⟩ := h
  obtain ⟨⟨m1, ρ1⟩, e1, e⟩ := Option.bind_eq_some_iff.mp e
  obtain ⟨c, e2, e⟩ := Option.bind_eq_some_iff.mp e
  obtain rfl := M.bool_eq e2
  refine ⟨ρ, fps, _, _, S, e1, fun v1 H1 fps1 fp1 S1 R1 E1 P1 => ⟨c, R1.2, ?_⟩⟩
  cases c with
  | true => exact iteT (tE_seq S1 E1 (by simpa using e) q)
  | false =>
    obtain ⟨rfl, rfl⟩ : M.d (.bool false) = m ∧ ρ1 = ρ' := by simpa using e
    exact iteF (q _ H1 fps1 [] S1 ⟨rfl, rfl⟩ (E1.weak (by simp; intro i hi; exact .inl hi)) Res.nil)
theorem de_or (ha : DE X a ws1 vs1 f1) (hb : DE X (.BoolOp .Or (b :: rest) pos) ws2 vs2 f2) : DE X (.BoolOp .Or (a :: b :: rest) pos) (ws1 ++ ws2) vs2 (fOr f1 f2) := by
  refine ⟨(pe_or ha.pe hb.pe).imp fun σ H Q h => ?_⟩
  obtain ⟨ρ, fps, m, ρ', S, e, q⟩ := h
  obtain ⟨⟨m1, ρ1⟩, e1, e⟩ := Option.bind_eq_some_iff.mp e
  obtain ⟨c, e2, e⟩ := Option.bind_eq_some_iff.mp e
  obtain rfl := M.bool_eq e2
  refine ⟨ρ, fps, _, _, S, e1, fun v1 H1 fps1 fp1 S1 R1 E1 P1 => ⟨c, R1.2, ?_⟩⟩
  cases c with
  | false => exact iteF (tE_seq S1 E1 (by simpa using e) q)
  | true =>
    obtain ⟨rfl, rfl⟩ : M.d (.bool true) = m ∧ ρ1 = ρ' := by simpa using e
    exact iteT (q _ H1 fps1 [] S1 ⟨rfl, rfl⟩ (E1.weak (by simp; intro i hi; exact .inl hi)) Res.nil)
theorem de_one {op} (ha : DE X a ws1 vs1 f1) : DE X (.BoolOp op [a] pos) ws1 vs1 f1 := ⟨pe_one ha.pe⟩
def fNot (f : FE) : FE := fun ρ => (f ρ).bind fun p => p.1.bool.bind fun c => some (.d (.bool (!c)), p.2)
theorem de_not (ha : DE X a ws1 vs1 f1) : DE X (.UnaryOp .Not a pos) ws1 [] (fNot f1) := by
  refine ⟨(pe_not ha.pe).imp fun σ H Q h => ?_⟩
  obtain ⟨ρ, fps, m, ρ', S, e, q⟩ := h
  obtain ⟨⟨m1, ρ1⟩, e1, e⟩ := Option.bind_eq_some_iff.mp e
  obtain ⟨c, e2, e⟩ := Option.bind_eq_some_iff.mp e
  obtain rfl := M.bool_eq e2
  obtain ⟨rfl, rfl⟩ := Prod.mk.inj (Option.some.inj e)
  exact ⟨ρ, fps, _, _, S, e1, fun v1 H1 fps1 fp1 S1 R1 E1 P1 => ⟨c, R1.2, q _ H1 fps1 [] S1 ⟨rfl, rfl⟩ E1 Res.nil⟩⟩
def fIf (t : FT) (f h : FE) : FE := fun ρ => (t ρ).bind fun p => if p.1 = true then f p.2 else h p.2
theorem de_if {c : Expr} {wc : List Nat} (hc : DT X c wc t1) (ha : DE X a ws1 vs1 f1) (hb : DE X b ws2 vs2 f2) : DE X (.IfExp c a b pos) (wc ++ (ws1 ++ ws2)) (vs1 ++ vs2) (fIf t1 f1 f2) := by
  refine ⟨(pe_ifExp hc.pt ha.pe hb.pe).imp fun σ H Q h => ?_⟩
  obtain ⟨ρ, fps, m, ρ', S, e, q⟩ := h
  obtain ⟨⟨c, ρ1⟩, e1, e⟩ := Option.bind_eq_some_iff.mp e
  refine ⟨ρ, fps, _, _, S, e1, fun H1 fps1 S1 E1 => ?_⟩
  cases c with
  | true =>
    refine iteT (tE_seq S1 E1 (by simpa using e) fun v H' fps' fp S' R' E' P' => q v H' fps' fp S' R' (E'.weak (by simp; intro i hi; rcases hi with hi | hi <;> simp [hi])) ?_)
    intro b hb
    rcases (P'.weak (ws2 := wc ++ (ws1 ++ ws2)) (by simp; intro i hi; rcases hi with hi | hi <;> simp [hi])) b hb with ⟨i, hi, z⟩ | z
    · exact .inl ⟨i, by simp [hi], z⟩
    · exact .inr z
  | false =>
    refine iteF (tE_seq S1 E1 (by simpa using e) fun v H' fps' fp S' R' E' P' => q v H' fps' fp S' R' (E'.weak (by simp; intro i hi; rcases hi with hi | hi <;> simp [hi])) ?_)
    intro b hb
    rcases (P'.weak (ws2 := wc ++ (ws1 ++ ws2)) (by simp; intro i hi; rcases hi with hi | hi <;> simp [hi])) b hb with ⟨i, hi, z⟩ | z
    · exact .inl ⟨i, by simp [hi], z⟩
    · exact .inr z
end
end DL
namespace DL
open L2 PySem.Spec PySem PyProof.Rows

def allD : List M → Option (List PyData)
  | [] => some []
  | m :: ms => m.dat.bind fun x => (allD ms).bind fun r => some (x :: r)
theorem allD_map : ∀ ds : List PyData, allD (ds.map M.d) = some ds
  | [] => rfl
  | d :: ds => by simp [allD, M.dat, allD_map ds]
theorem allD_reps {K : PySem.W.Frag} {H : Hp} : ∀ {ms : List M} {ds : List PyData} {vs : List V} {fp : List Addr}, allD ms = some ds → Reps K H ms vs fp → RepDs K H ds vs ∧ fp = []
  | [], _, _, _, h, r => by cases h; obtain ⟨rfl, rfl⟩ := r; exact ⟨rfl, rfl⟩
  | m :: ms, ds, _, _, h, r => by
    obtain ⟨x, e1, h⟩ := Option.bind_eq_some_iff.mp h
    obtain ⟨y, e2, h⟩ := Option.bind_eq_some_iff.mp h
    obtain rfl := Option.some.inj h
    obtain ⟨v, us, f1, f2, rfl, rfl, _, h1, h2⟩ := r
    obtain ⟨rfl, h3⟩ := dat_rep e1 h1
    obtain ⟨h4, rfl⟩ := allD_reps e2 h2
    exact ⟨⟨v, us, rfl, h3, h4⟩, rfl⟩
theorem lst_rep {K : PySem.W.Frag} {H : Hp} {ms : List M} {ds : List PyData} {v : V} {fp : List Addr} (h : allD ms = some ds) (R : Rep K H (.lst ms) v fp) : ∃ a vs, v = .ref a ∧ fp = [a] ∧ H a = some (.lst vs) ∧ RepDs K H ds vs := by
  obtain ⟨a, vs, fq, rfl, rfl, ha, _, r⟩ := R
  obtain ⟨r2, rfl⟩ := allD_reps h r
  exact ⟨a, vs, rfl, rfl, ha, r2⟩
mutual
def M.py : M → Option PyData
  | .d x => some x
  | .bt ds => some (.tuple ds)
  | .lst ms => (pyAll ms).bind fun ds => some (.list ds)
  | .dK _ _ => none
  | .dT _ _ => none
  | .ins _ _ _ => none
def pyAll : List M → Option (List PyData)
  | [] => some []
  | m :: ms => m.py.bind fun x => (pyAll ms).bind fun r => some (x :: r)
end
theorem pyAll_map : ∀ ds : List PyData, pyAll (ds.map M.d) = some ds
  | [] => by simp [pyAll]
  | d :: ds => by simp [pyAll, M.py, pyAll_map ds]

section
variable {K : PySem.W.Frag} {H H' : Hp}
mutual
theorem Rep.dp : ∀ (m : M) {v : V} {fp : List Addr} {d : PyData}, Rep K H m v fp → m.py = some d → Dp K H v d
  | .d x, _, _, _, h, e => by
    simp only [M.py, Option.some.injEq] at e
    subst e
    exact RepD.dp _ _ h.2
  | .bt x, _, _, _, h, e => by
    simp only [M.py, Option.some.injEq] at e
    subst e
    exact RepD.dp _ _ (dat_rep rfl h).2
  | .lst ms, _, _, _, h, e => by
    simp only [M.py] at e
    obtain ⟨ds, e1, e⟩ := Option.bind_eq_some_iff.mp e
    obtain rfl := Option.some.inj e
    obtain ⟨a, vs, fq, rfl, rfl, ha, _, r⟩ := h
    exact .lst (SqL.of ha) (Reps.dp ms r e1)
  | .dK _ _, _, _, _, _, e => by simp [M.py] at e
  | .dT _ _, _, _, _, _, e => by simp [M.py] at e
  | .ins _ _ _, _, _, _, _, e => by simp [M.py] at e
theorem Reps.dp : ∀ (ms : List M) {vs : List V} {fp : List Addr} {ds : List PyData}, Reps K H ms vs fp → pyAll ms = some ds → DpAll K H vs ds
  | [], _, _, _, h, e => by
    simp only [pyAll, Option.some.injEq] at e
    subst e
    obtain ⟨rfl, _⟩ := h
    exact .nil
  | m :: ms, _, _, _, h, e => by
    simp only [pyAll] at e
    obtain ⟨x, e1, e⟩ := Option.bind_eq_some_iff.mp e
    obtain ⟨r, e2, e⟩ := Option.bind_eq_some_iff.mp e
    obtain rfl := Option.some.inj e
    obtain ⟨v, us, f1, f2, rfl, rfl, _, h1, h2⟩ := h
    exact .cons (Rep.dp m h1 e1) (Reps.dp ms h2 e2)
end
theorem Reps.ofD : ∀ {ds : List PyData} {vs : List V}, RepDs K H ds vs → Reps K H (ds.map M.d) vs []
  | [], _, h => by cases h; exact ⟨rfl, rfl⟩
  | d :: ds, _, h => by
    obtain ⟨v, r, rfl, h1, h2⟩ := h
    exact ⟨v, r, [], [], rfl, rfl, by simp, ⟨rfl, h1⟩, Reps.ofD h2⟩
theorem Reps.toD : ∀ {ds : List PyData} {vs : List V} {fp : List Addr}, Reps K H (ds.map M.d) vs fp → RepDs K H ds vs ∧ fp = []
  | [], _, _, h => by obtain ⟨rfl, rfl⟩ := h; exact ⟨rfl, rfl⟩
  | d :: ds, _, _, h => by
    obtain ⟨v, r, f1, f2, rfl, rfl, _, h1, h2⟩ := h
    obtain ⟨h3, rfl⟩ := Reps.toD (ds := ds) h2
    obtain ⟨rfl, h4⟩ := h1
    exact ⟨⟨v, r, rfl, h4, h3⟩, rfl⟩
theorem RepDs.same (s : Same H H') {ds : List PyData} {vs : List V} (h : RepDs K H ds vs) : RepDs K H' ds vs := RepDs.kp (.of_same s) ds vs h
/-- a new list, a new tuple -/
theorem New.lst {ds : List PyData} {vs : List V} {p : Addr} {Q : VK} (n : New K H (.lst (ds.map M.d)) Q) (r : RepDs K H ds vs) (hp : H p = none) : Q (.ref p) (upd H p (.lst vs)) :=
  n _ _ [p] (Same.new hp) ⟨p, vs, [], rfl, rfl, upd_same, by simp, Reps.ofD (r.same (Same.new hp))⟩ fun b hb => by
    obtain rfl : b = p := by simpa using hb
    exact hp
theorem New.tup {ds : List PyData} {vs : List V} {p : Addr} {Q : VK} (n : New K H (.d (.tuple ds)) Q) (r : RepDs K H ds vs) (hp : H p = none) : Q (.ref p) (upd H p (.tup vs)) :=
  n _ _ [] (Same.new hp) ⟨rfl, p, vs, rfl, SqT.of upd_same, r.same (Same.new hp)⟩ (by simp)
end

/-! ### arithmetic -/
def gAdd : M → M → Option M
  | .d (.int i), .d (.int j) => some (.d (.int (i + j)))
  | .d (.str x), .d (.str y) => if x.length + y.length ≤ sizeLine then some (.d (.str (x ++ y))) else none
  | .d (.tuple xs), .d (.tuple ys) => if xs.length + ys.length ≤ sizeLine then some (.d (.tuple (xs ++ ys))) else none
  | .lst xs, .lst ys => (allD xs).bind fun as => (allD ys).bind fun bs => if as.length + bs.length ≤ sizeLine then some (.lst ((as ++ bs).map M.d)) else none
  | _, _ => none
def gSub : M → M → Option M
  | .d (.int i), .d (.int j) => some (.d (.int (i - j)))
  | _, _ => none
def gMul : M → M → Option M
  | .d (.int i), .d (.int j) => if (-(2 ^ 64) < i ∧ i < 2 ^ 64) ∨ (-(2 ^ 64) < j ∧ j < 2 ^ 64) then some (.d (.int (i * j))) else none
  | .lst xs, .d (.int k) => (allD xs).bind fun as => if -(2 ^ 63) ≤ k ∧ k < 2 ^ 63 ∧ as.length * k.toNat ≤ sizeLine then some (.lst ((List.replicate k.toNat as).flatten.map M.d)) else none
  | _, _ => none
def gDiv : M → M → Option M
  | .d (.int i), .d (.int j) => if 0 < j ∧ j < 1073741824 then some (.d (.int (i / j))) else none
  | _, _ => none
def gMod : M → M → Option M
  | .d (.int i), .d (.int j) => if 0 < j then some (.d (.int (i % j))) else none
  | _, _ => none
def gPow : M → M → Option M
  | .d (.int i), .d (.int j) => if 0 ≤ j ∧ j ≤ 1000000 ∧ i.natAbs < 2 ^ 64 then some (.d (.int (i ^ j.toNat))) else none
  | _, _ => none
def gNeg : M → Option M
  | .d (.int i) => some (.d (.int (-i)))
  | _ => none
def gCmp (p : Int → Int → Bool) : M → M → Option M
  | .d (.int i), .d (.int j) => some (.d (.bool (p i j)))
  | _, _ => none
def gLt := gCmp fun i j => decide (i < j)
def gLe := gCmp fun i j => decide (i ≤ j)
def gGt := gCmp fun i j => decide (j < i)
def gGe := gCmp fun i j => decide (j ≤ i)
def gEqB (neg : Bool) (mx my : M) : Option M := mx.py.bind fun d => my.py.bind fun e => if (SeqAt.shaped d && SeqAt.shaped e) = true then some (.d (.bool (if neg = true then !PyData.eqv d e else PyData.eqv d e))) else none
def gEq := gEqB false
def gNe := gEqB true
def M.isNone : M → Bool
  | .d .none => true
  | _ => false
def gIsB (neg : Bool) : M → M → Option M
  | m, .d .none => some (.d (.bool (if neg = true then !m.isNone else m.isNone)))
  | .d (.bool a), .d (.bool b) => some (.d (.bool (if neg = true then !decide (a = b) else decide (a = b))))
  | _, _ => none
def gIs := gIsB false
def gIsNot := gIsB true
def gInB (neg : Bool) (mx my : M) : Option M := mx.py.bind fun d => my.py.bind fun c => match c with
  | .list ds => if (SeqAt.shaped d && SeqAt.shaped (.list ds)) = true then some (.d (.bool (if neg = true then !ds.any fun z => PyData.eqv z d else ds.any fun z => PyData.eqv z d))) else none
  | .tuple ds => if (SeqAt.shaped d && SeqAt.shaped (.tuple ds)) = true then some (.d (.bool (if neg = true then !ds.any fun z => PyData.eqv z d else ds.any fun z => PyData.eqv z d))) else none
  | _ => none
def gIn := gInB false
def gNotIn := gInB true

section
variable {X : Cx}
theorem op_addG : OpR X (binaryOp .Add) (r2G X.K gAdd) := by
  intro pins s σ H x y v u Q I rx ry h
  obtain ⟨mx, fx, my, fy, z, Rx, Ry, e, n⟩ := h
  unfold gAdd at e
  split at e
  · cases e
    obtain ⟨rfl, hx⟩ := Rx
    obtain ⟨rfl, hy⟩ := Ry
    exact op_add pins s σ H x y v u Q I rx ry ⟨_, _, hx, hy, n.dat rfl⟩
  · split at e
    · cases e
      obtain ⟨rfl, hx⟩ := Rx
      obtain ⟨rfl, hy⟩ := Ry
      exact op_add_str pins s σ H x y v u Q I rx ry ⟨_, _, hx, hy, by assumption, n.dat rfl⟩
    · cases e
  · split at e
    · rename_i hl
      cases e
      obtain ⟨rfl, a, vs, hx, sx, dx⟩ := Rx
      obtain ⟨rfl, b, us, hy, sy, dy⟩ := Ry
      refine op_catA pins s σ H x y v u Q I rx ry ⟨a, b, vs, us, hx, hy, sx, sy, by rw [dx.len, dy.len]; exact hl, fun z => ?_, fun _ z => ?_, fun _ _ p hp => n.tup (dx.app dy) hp⟩
      · refine n.dat ⟨b, us, rfl, sy, ?_⟩
        have := dx.nil_iff.mp z
        subst this
        exact dy
      · refine n.dat ⟨a, vs, rfl, sx, ?_⟩
        have := dy.nil_iff.mp z
        subst this
        rw [List.append_nil]
        exact dx
    · cases e
  · obtain ⟨as, e1, e⟩ := Option.bind_eq_some_iff.mp e
    obtain ⟨bs, e2, e⟩ := Option.bind_eq_some_iff.mp e
    split at e
    · rename_i hl
      cases e
      obtain ⟨a, vs, hx, _, ha, dx⟩ := lst_rep e1 Rx
      obtain ⟨b, us, hy, _, hb, dy⟩ := lst_rep e2 Ry
      exact op_cat pins s σ H x y v u Q I rx ry ⟨a, b, vs, us, hx, hy, ha, hb, by rw [dx.len, dy.len]; exact hl, fun p hp => n.lst (dx.app dy) hp⟩
    · cases e
  · cases e
theorem op_subG : OpR X (binaryOp .Sub) (r2G X.K gSub) := by
  intro pins s σ H x y v u Q I rx ry h
  obtain ⟨mx, fx, my, fy, z, Rx, Ry, e, n⟩ := h
  unfold gSub at e
  split at e
  · cases e
    obtain ⟨rfl, hx⟩ := Rx
    obtain ⟨rfl, hy⟩ := Ry
    exact op_sub pins s σ H x y v u Q I rx ry ⟨_, _, hx, hy, n.dat rfl⟩
  · cases e
theorem flat_rep {K : PySem.W.Frag} {H : Hp} {ds : List PyData} {vs : List V} (h : RepDs K H ds vs) : ∀ k : Nat, RepDs K H (List.replicate k ds).flatten (List.replicate k vs).flatten
  | 0 => by simp [RepDs]
  | k + 1 => by
    rw [List.replicate_succ, List.replicate_succ, List.flatten_cons, List.flatten_cons]
    exact h.app (flat_rep h k)
theorem op_mulG : OpR X (binaryOp .Mult) (r2G X.K gMul) := by
  intro pins s σ H x y v u Q I rx ry h
  obtain ⟨mx, fx, my, fy, z, Rx, Ry, e, n⟩ := h
  unfold gMul at e
  split at e
  · split at e
    · cases e
      obtain ⟨rfl, hx⟩ := Rx
      obtain ⟨rfl, hy⟩ := Ry
      exact op_mul pins s σ H x y v u Q I rx ry ⟨_, _, hx, hy, by assumption, n.dat rfl⟩
    · cases e
  · obtain ⟨as, e1, e⟩ := Option.bind_eq_some_iff.mp e
    split at e
    · rename_i hl
      cases e
      obtain ⟨a, vs, hx, _, ha, dx⟩ := lst_rep e1 Rx
      obtain ⟨rfl, hy⟩ := Ry
      exact op_rep pins s σ H x y v u Q I rx ry ⟨a, _, vs, hx, hy, ha, hl.1, hl.2.1, by rw [dx.len]; exact hl.2.2, fun p hp => n.lst (flat_rep dx _) hp⟩
    · cases e
  · cases e
theorem op_divG : OpR X (binaryOp .FloorDiv) (r2G X.K gDiv) := by
  intro pins s σ H x y v u Q I rx ry h
  obtain ⟨mx, fx, my, fy, z, Rx, Ry, e, n⟩ := h
  unfold gDiv at e
  split at e
  · split at e
    · cases e
      obtain ⟨rfl, hx⟩ := Rx
      obtain ⟨rfl, hy⟩ := Ry
      exact op_fdiv pins s σ H x y v u Q I rx ry ⟨_, _, hx, hy, by assumption, n.dat rfl⟩
    · cases e
  · cases e
theorem op_modG : OpR X (binaryOp .Mod) (r2G X.K gMod) := by
  intro pins s σ H x y v u Q I rx ry h
  obtain ⟨mx, fx, my, fy, z, Rx, Ry, e, n⟩ := h
  unfold gMod at e
  split at e
  · split at e
    · cases e
      obtain ⟨rfl, hx⟩ := Rx
      obtain ⟨rfl, hy⟩ := Ry
      exact op_mod pins s σ H x y v u Q I rx ry ⟨_, _, hx, hy, by assumption, n.dat rfl⟩
    · cases e
  · cases e
theorem op_powG : OpR X (binaryOp .Pow) (r2G X.K gPow) := by
  intro pins s σ H x y v u Q I rx ry h
  obtain ⟨mx, fx, my, fy, z, Rx, Ry, e, n⟩ := h
  unfold gPow at e
  split at e
  · split at e
    · cases e
      obtain ⟨rfl, hx⟩ := Rx
      obtain ⟨rfl, hy⟩ := Ry
      exact op_pow pins s σ H x y v u Q I rx ry ⟨_, _, hx, hy, by assumption, n.dat rfl⟩
    · cases e
  · cases e
theorem un_negG : UnR X (unaryOp .USub) (r1G X.K gNeg) := by
  intro pins s σ H x v Q I rx h
  obtain ⟨mx, fx, z, Rx, e, n⟩ := h
  unfold gNeg at e
  split at e
  · cases e
    obtain ⟨rfl, hx⟩ := Rx
    exact un_neg pins s σ H x v Q I rx ⟨_, hx, n.dat rfl⟩
  · cases e
theorem op_cmpG {op : CmpOp} {p : Int → Int → Bool} (ho : OpR X (compareOp op) (rI0 fun i j => .bl (p i j))) : OpR X (compareOp op) (r2G X.K (gCmp p)) := by
  intro pins s σ H x y v u Q I rx ry h
  obtain ⟨mx, fx, my, fy, z, Rx, Ry, e, n⟩ := h
  unfold gCmp at e
  split at e
  · cases e
    obtain ⟨rfl, hx⟩ := Rx
    obtain ⟨rfl, hy⟩ := Ry
    exact ho pins s σ H x y v u Q I rx ry ⟨_, _, hx, hy, n.dat rfl⟩
  · cases e
theorem op_ltG : OpR X (compareOp .Lt) (r2G X.K gLt) := op_cmpG op_lt
theorem op_leG : OpR X (compareOp .LtE) (r2G X.K gLe) := op_cmpG op_le
theorem op_gtG : OpR X (compareOp .Gt) (r2G X.K gGt) := op_cmpG op_gt
theorem op_geG : OpR X (compareOp .GtE) (r2G X.K gGe) := op_cmpG op_ge
theorem op_eqG (hu : X.A.units + 65 < cLine) : OpR X (compareOp .Eq) (r2G X.K gEq) := by
  intro pins s σ H x y v u Q I rx ry h
  obtain ⟨mx, fx, my, fy, z, Rx, Ry, e, n⟩ := h
  unfold gEq gEqB at e
  obtain ⟨d, e1, e⟩ := Option.bind_eq_some_iff.mp e
  obtain ⟨c, e2, e⟩ := Option.bind_eq_some_iff.mp e
  split at e
  · rename_i hs
    cases e
    rw [Bool.and_eq_true] at hs
    exact op_eqD (by omega) pins s σ H x y v u Q I rx ry ⟨d, c, Rep.dp _ Rx e1, Rep.dp _ Ry e2, hs.1, hs.2, n.dat rfl⟩
  · cases e
theorem op_neG (hu : X.A.units + 65 < cLine) : OpR X (compareOp .NotEq) (r2G X.K gNe) := by
  intro pins s σ H x y v u Q I rx ry h
  obtain ⟨mx, fx, my, fy, z, Rx, Ry, e, n⟩ := h
  unfold gNe gEqB at e
  obtain ⟨d, e1, e⟩ := Option.bind_eq_some_iff.mp e
  obtain ⟨c, e2, e⟩ := Option.bind_eq_some_iff.mp e
  split at e
  · rename_i hs
    cases e
    rw [Bool.and_eq_true] at hs
    exact op_neD (by omega) pins s σ H x y v u Q I rx ry ⟨d, c, Rep.dp _ Rx e1, Rep.dp _ Ry e2, hs.1, hs.2, n.dat rfl⟩
  · cases e
theorem isNone_eq {K : PySem.W.Frag} {H : Hp} : ∀ {m : M} {x : V} {f : List Addr}, Rep K H m x f → decide (x = .non) = m.isNone
  | .d .none, _, _, h => by rw [h.2]; rfl
  | .d (.bool _), _, _, h => by rw [h.2]; rfl
  | .d (.int _), _, _, h => by rw [h.2]; rfl
  | .d (.str _), _, _, h => by rw [h.2]; rfl
  | .d (.list _), _, _, h => by obtain ⟨_, a, _, e, _⟩ := h; rw [e]; rfl
  | .d (.tuple _), _, _, h => by obtain ⟨_, a, _, e, _⟩ := h; rw [e]; rfl
  | .d (.dict _), _, _, h => h.2.elim
  | .lst _, _, _, h => by obtain ⟨a, _, _, e, _⟩ := h; rw [e]; rfl
  | .bt _, _, _, h => by obtain ⟨_, a, _, e, _⟩ := h; rw [e]; rfl
  | .dK _ _, _, _, h => by obtain ⟨a, _, _, e, _⟩ := h; rw [e]; rfl
  | .dT _ _, _, _, h => by obtain ⟨a, _, _, e, _⟩ := h; rw [e]; rfl
  | .ins _ _ _, _, _, h => by obtain ⟨a, _, _, _, e, _⟩ := h; rw [e]; rfl
theorem op_isG : OpR X (compareOp .Is) (r2G X.K gIs) := by
  intro pins s σ H x y v u Q I rx ry h
  obtain ⟨mx, fx, my, fy, z, Rx, Ry, e, n⟩ := h
  unfold gIs gIsB at e
  split at e
  · cases e
    exact op_isN pins s σ H x y v u Q I rx ry ⟨Ry.2, by rw [isNone_eq Rx]; exact n.dat rfl⟩
  · cases e
    exact op_isBl pins s σ H x y v u Q I rx ry ⟨_, _, Rx.2, Ry.2, n.dat rfl⟩
  · cases e
theorem op_isNotG : OpR X (compareOp .IsNot) (r2G X.K gIsNot) := by
  intro pins s σ H x y v u Q I rx ry h
  obtain ⟨mx, fx, my, fy, z, Rx, Ry, e, n⟩ := h
  unfold gIsNot gIsB at e
  split at e
  · cases e
    exact op_notN pins s σ H x y v u Q I rx ry ⟨Ry.2, by rw [isNone_eq Rx]; exact n.dat rfl⟩
  · cases e
    exact op_notBl pins s σ H x y v u Q I rx ry ⟨_, _, Rx.2, Ry.2, n.dat rfl⟩
  · cases e
theorem op_inTD (hu : X.A.units + 65 < cLine) : OpR X (compareOp .In) (fun x y H Q => ∃ d ds, Dp X.K H x d ∧ Dp X.K H y (.tuple ds) ∧ SeqAt.shaped d = true ∧ SeqAt.shaped (.tuple ds) = true ∧ Q (.bl (ds.any fun z => PyData.eqv z d)) H) := by
  intro pins s σ H x y v u Q I rx ry h
  obtain ⟨d, ds, hd, he, sd, se, q⟩ := h
  obtain ⟨as, r1⟩ := Dp.reads I d x v hd rx
  obtain ⟨bs, r2⟩ := Dp.reads I (.tuple ds) y u he ry
  exact SeqAt.in_tuple_reads r2 r1 (SeqAt.canLay_of_shaped se) (SeqAt.canLay_of_shaped sd) (room_in_shaped sd hu) ⟨.bl _, H, I, rfl, q⟩
theorem op_notInTD (hu : X.A.units + 65 < cLine) : OpR X (compareOp .NotIn) (fun x y H Q => ∃ d ds, Dp X.K H x d ∧ Dp X.K H y (.tuple ds) ∧ SeqAt.shaped d = true ∧ SeqAt.shaped (.tuple ds) = true ∧ Q (.bl (!ds.any fun z => PyData.eqv z d)) H) := by
  intro pins s σ H x y v u Q I rx ry h
  obtain ⟨d, ds, hd, he, sd, se, q⟩ := h
  obtain ⟨as, r1⟩ := Dp.reads I d x v hd rx
  obtain ⟨bs, r2⟩ := Dp.reads I (.tuple ds) y u he ry
  exact SeqAt.notIn_tuple_reads r2 r1 (SeqAt.canLay_of_shaped se) (SeqAt.canLay_of_shaped sd) (room_in_shaped sd hu) ⟨.bl _, H, I, rfl, q⟩
theorem op_inG (hu : X.A.units + 65 < cLine) : OpR X (compareOp .In) (r2G X.K gIn) := by
  intro pins s σ H x y v u Q I rx ry h
  obtain ⟨mx, fx, my, fy, z, Rx, Ry, e, n⟩ := h
  unfold gIn gInB at e
  obtain ⟨d, e1, e⟩ := Option.bind_eq_some_iff.mp e
  obtain ⟨c, e2, e⟩ := Option.bind_eq_some_iff.mp e
  split at e
  · split at e
    · rename_i hs
      cases e
      rw [Bool.and_eq_true] at hs
      exact op_inD hu pins s σ H x y v u Q I rx ry ⟨d, _, Rep.dp _ Rx e1, Rep.dp _ Ry e2, hs.1, hs.2, n.dat rfl⟩
    · cases e
  · split at e
    · rename_i hs
      cases e
      rw [Bool.and_eq_true] at hs
      exact op_inTD hu pins s σ H x y v u Q I rx ry ⟨d, _, Rep.dp _ Rx e1, Rep.dp _ Ry e2, hs.1, hs.2, n.dat rfl⟩
    · cases e
  · cases e
theorem op_notInG (hu : X.A.units + 65 < cLine) : OpR X (compareOp .NotIn) (r2G X.K gNotIn) := by
  intro pins s σ H x y v u Q I rx ry h
  obtain ⟨mx, fx, my, fy, z, Rx, Ry, e, n⟩ := h
  unfold gNotIn gInB at e
  obtain ⟨d, e1, e⟩ := Option.bind_eq_some_iff.mp e
  obtain ⟨c, e2, e⟩ := Option.bind_eq_some_iff.mp e
  split at e
  · split at e
    · rename_i hs
      cases e
      rw [Bool.and_eq_true] at hs
      exact op_notInD hu pins s σ H x y v u Q I rx ry ⟨d, _, Rep.dp _ Rx e1, Rep.dp _ Ry e2, hs.1, hs.2, n.dat rfl⟩
    · cases e
  · split at e
    · rename_i hs
      cases e
      rw [Bool.and_eq_true] at hs
      exact op_notInTD hu pins s σ H x y v u Q I rx ry ⟨d, _, Rep.dp _ Rx e1, Rep.dp _ Ry e2, hs.1, hs.2, n.dat rfl⟩
    · cases e
  · cases e
end
end DL
namespace DL
open L2 PySem.Spec PySem PyProof.Rows

/-! ### a[i] -/
def gIx : M → Int → Option M
  | .lst ms, i => atI ms i
  | .d (.tuple ds), i => (atI ds i).bind fun x => some (.d x)
  | .bt ds, i => (atI ds i).bind fun x => some (.d x)
  | .d (.list ds), i => (atI ds i).bind fun x => some (.d x)
  | .d (.str z), i => if z.length ≤ sizeLine then (atI z.cps.toList i).bind fun c => some (.d (.str ⟨#[c]⟩)) else none
  | _, _ => none
def M.int : M → Option Int
  | .d (.int i) => some i
  | _ => none
theorem M.int_eq {m : M} {i : Int} (h : m.int = some i) : m = .d (.int i) := by
  unfold M.int at h
  split at h
  · cases h; rfl
  · cases h
def fIx (f h : FE) : FE := fun ρ => (f ρ).bind fun p => (h p.2).bind fun q => q.1.int.bind fun i => (gIx p.1 i).bind fun z => some (z, q.2)

section
variable {K : PySem.W.Frag} {H : Hp}
theorem Reps.get : ∀ {ms : List M} {vs : List V} {fp : List Addr} {i : Nat} {m : M}, Reps K H ms vs fp → ms[i]? = some m → ∃ v f, vs[i]? = some v ∧ Rep K H m v f ∧ ∀ b ∈ f, b ∈ fp
  | [], _, _, _, _, _, e => by simp at e
  | x :: ms, _, _, 0, _, h, e => by
    obtain ⟨v, r, f1, f2, rfl, rfl, _, h1, h2⟩ := h
    simp at e
    subst e
    exact ⟨v, f1, rfl, h1, fun b hb => by simp [hb]⟩
  | x :: ms, _, _, i + 1, _, h, e => by
    obtain ⟨v, r, f1, f2, rfl, rfl, _, h1, h2⟩ := h
    obtain ⟨u, f, e2, h3, h4⟩ := Reps.get (i := i) h2 (by simpa using e)
    exact ⟨u, f, by simpa using e2, h3, fun b hb => by simp [h4 b hb]⟩
theorem atI_len {α β : Type} {P : β → Prop} {xs : List α} {ys : List β} (hl : xs.length = ys.length) {i : Int} {x : α} (h : atI xs i = some x) (k : ∀ j : Nat, xs[j]? = some x → ∃ y : β, ys[j]? = some y ∧ P y) : ∃ y, atI ys i = some y ∧ P y := by
  obtain ⟨j, e1, e2⟩ := Option.bind_eq_some_iff.mp h
  obtain ⟨y, e3, p⟩ := k j e2
  exact ⟨y, by unfold atI; rw [← hl, e1]; exact e3, p⟩
theorem gIx_rep {mx : M} {x : V} {fx : List Addr} {i : Int} {z : M} (R : Rep K H mx x fx) (e : gIx mx i = some z) {Q : VK} (q : ∀ v f, Rep K H z v f → (∀ b ∈ f, b ∈ fx) → Q v H) : rIx K x (.int i) H Q := by
  unfold gIx at e
  split at e
  · obtain ⟨a, vs, fq, rfl, rfl, ha, _, r⟩ := R
    obtain ⟨v, e2, f, r2, s2⟩ := atI_len (P := fun v => ∃ f, Rep K H z v f ∧ ∀ b ∈ f, b ∈ fq) r.len.symm e fun j hj => by
      obtain ⟨v, f, h1, h2, h3⟩ := r.get hj
      exact ⟨v, h1, f, h2, h3⟩
    exact .inl ⟨a, vs, i, v, rfl, rfl, SqL.of ha, e2, q v f r2 fun b hb => by simp [s2 b hb]⟩
  · obtain ⟨d, e1, e⟩ := Option.bind_eq_some_iff.mp e
    obtain rfl := Option.some.inj e
    obtain ⟨rfl, a, vs, rfl, hs, r⟩ := R
    obtain ⟨v, e2, r2⟩ := atI_len (P := fun v => RepD K H d v) r.len.symm e1 fun j hj => r.get hj
    exact .inr (.inl ⟨a, vs, i, v, rfl, rfl, hs, e2, q v [] ⟨rfl, r2⟩ (by simp)⟩)
  · obtain ⟨d, e1, e⟩ := Option.bind_eq_some_iff.mp e
    obtain rfl := Option.some.inj e
    obtain ⟨rfl, a, vs, rfl, hs, r⟩ := R
    obtain ⟨v, e2, r2⟩ := atI_len (P := fun v => RepD K H d v) r.len.symm e1 fun j hj => r.get hj
    exact .inr (.inl ⟨a, vs, i, v, rfl, rfl, hs.sq, e2, q v [] ⟨rfl, r2⟩ (by simp)⟩)
  · obtain ⟨d, e1, e⟩ := Option.bind_eq_some_iff.mp e
    obtain rfl := Option.some.inj e
    obtain ⟨rfl, a, vs, rfl, hs, r⟩ := R
    obtain ⟨v, e2, r2⟩ := atI_len (P := fun v => RepD K H d v) r.len.symm e1 fun j hj => r.get hj
    exact .inl ⟨a, vs, i, v, rfl, rfl, hs.sq, e2, q v [] ⟨rfl, r2⟩ (by simp)⟩
  · split at e
    · obtain ⟨c, e1, e⟩ := Option.bind_eq_some_iff.mp e
      obtain rfl := Option.some.inj e
      obtain ⟨rfl, hx⟩ := R
      exact .inr (.inr ⟨_, i, c, hx, rfl, by assumption, e1, q _ [] ⟨rfl, rfl⟩ (by simp)⟩)
    · cases e
  · cases e
end
section
variable {X : Cx} {e a b : Expr} {es : List Expr} {ws vs ws1 ws2 vs1 vs2 : List Nat} {f f1 f2 : FE} {pos : Pos}
theorem Res.part {H : Hp} {fps fps' : Fp} {fp fq : List Addr} (r : Res ws vs H fps fps' fp) (h : ∀ b ∈ fq, b ∈ fp) : Res ws vs H fps fps' fq := fun b hb => r b (h b hb)
theorem de_ix (ha : DE X a ws1 vs1 f1) (hb : DE X b ws2 vs2 f2) (hs : PlainIx b := by exact fun _ _ => rfl) (hv : ∀ i ∈ vs1, i ∉ ws2 := by decide) : DE X (.Subscript a b pos) (ws1 ++ ws2) vs1 (fIx f1 f2) := by
  refine ⟨(pe_ix ix_seq ha.pe hb.pe hs).imp fun σ H Q h => ?_⟩
  obtain ⟨ρ, fps, m, ρ', S, e, q⟩ := h
  obtain ⟨⟨m1, ρ1⟩, e1, e⟩ := Option.bind_eq_some_iff.mp e
  obtain ⟨⟨m2, ρ2⟩, e2, e⟩ := Option.bind_eq_some_iff.mp e
  obtain ⟨i, e4, e⟩ := Option.bind_eq_some_iff.mp e
  obtain ⟨z, e3, e⟩ := Option.bind_eq_some_iff.mp e
  obtain ⟨rfl, rfl⟩ := Prod.mk.inj (Option.some.inj e)
  obtain rfl := M.int_eq e4
  refine ⟨ρ, fps, _, _, S, e1, fun v1 H1 fps1 fp1 S1 R1 E1 P1 => ?_⟩
  refine ⟨_, fps1, _, _, S1, e2, fun v2 H2 fps2 fp2 S2 R2 E2 P2 => ?_⟩
  obtain ⟨rfl, rfl⟩ := R2
  refine gIx_rep (Rep.mono (E2.kp S1) m1 R1 (P1.kept S1 (Rep.alive m1 R1) E2 hv)) e3 fun v f r s => ?_
  exact q v H2 fps2 f S2 r (E1.trans E2) ((P1.carry S1 (Rep.alive m1 R1) E2 hv).part s)
end

/-! ### slices -/
abbrev FO := MS → Option (Option Int × MS)
def tO (K : PySem.W.Frag) (ws : List Nat) (f : FO) : TO := fun σ H Q => ∃ ρ fps o ρ', StR K H σ ρ fps ∧ f ρ = some (o, ρ') ∧ ∀ H' fps', StR K H' σ ρ' fps' → Eff ws H H' fps fps' → Q o H'
structure DO (X : Cx) (e : Option Expr) (ws : List Nat) (f : FO) : Prop where
  po : PO X e (tO X.K ws f)
def fNo : FO := fun ρ => some (none, ρ)
def fSo (f : FE) : FO := fun ρ => (f ρ).bind fun p => p.1.int.bind fun i => some (some i, p.2)
def cut {α : Type} (xs : List α) (lo hi : Option Int) : List α := (xs.drop (HT.sIx xs.length 0 lo)).take (HT.sIx xs.length xs.length hi - HT.sIx xs.length 0 lo)
def gCut : M → Option Int → Option Int → Option M
  | .lst ms, lo, hi => (allD ms).bind fun ds => some (.lst ((cut ds lo hi).map M.d))
  | .d (.tuple ds), lo, hi => some (.d (.tuple (cut ds lo hi)))
  | .d (.list ds), lo, hi => some (.lst ((cut ds lo hi).map M.d))
  | .d (.str z), lo, hi => if z.length ≤ sizeLine then some (.d (.str (cutS z lo hi))) else none
  | _, _, _ => none
def fCut (f : FE) (g h : FO) : FE := fun ρ => (f ρ).bind fun p => (g p.2).bind fun q => (h q.2).bind fun r => (gCut p.1 q.1 r.1).bind fun z => some (z, r.2)
/-- the places of xs[lo:hi:st] -/
def pick {α : Type} (xs : List α) (lo hi st : Option Int) : List α :=
  (sliceRange (sliceBounds lo hi st xs.length).1 (sliceBounds lo hi st xs.length).2.1 (sliceBounds lo hi st xs.length).2.2).filterMap (xs[·]?)
def gPick : M → Option Int → Option Int → Option Int → Option M
  | .lst ms, lo, hi, st => (allD ms).bind fun ds => if st = some 0 then none else some (.lst ((pick ds lo hi st).map M.d))
  | .d (.list ds), lo, hi, st => if st = some 0 then none else some (.lst ((pick ds lo hi st).map M.d))
  | _, _, _, _ => none
def fPick (f : FE) (g h k : FO) : FE := fun ρ => (f ρ).bind fun p => (g p.2).bind fun q => (h q.2).bind fun r => (k r.2).bind fun t => (gPick p.1 q.1 r.1 t.1).bind fun z => some (z, t.2)

section
variable {K : PySem.W.Frag} {H : Hp}
theorem RepDs.cut {ds : List PyData} {vs : List V} (h : RepDs K H ds vs) (lo hi : Option Int) : RepDs K H (cut ds lo hi) (cutV vs lo hi) := by
  unfold DL.cut cutV
  rw [h.len]
  exact (h.drop _).take _
theorem RepDs.pickL {ds : List PyData} {vs : List V} (h : RepDs K H ds vs) : ∀ is : List Nat, RepDs K H (is.filterMap (ds[·]?)) (is.filterMap (vs[·]?))
  | [] => by simp [RepDs]
  | i :: is => by
    cases e : ds[i]? with
    | none =>
      have e2 : vs[i]? = none := by
        rw [List.getElem?_eq_none_iff] at e ⊢
        rw [h.len]
        exact e
      rw [List.filterMap_cons_none e, List.filterMap_cons_none e2]
      exact RepDs.pickL h is
    | some d =>
      obtain ⟨v, e2, r⟩ := h.get e
      rw [List.filterMap_cons_some e, List.filterMap_cons_some e2]
      exact ⟨v, _, rfl, r, RepDs.pickL h is⟩
theorem RepDs.pick {ds : List PyData} {vs : List V} (h : RepDs K H ds vs) (lo hi st : Option Int) : RepDs K H (pick ds lo hi st) (pick vs lo hi st) := by
  unfold DL.pick
  rw [h.len]
  exact h.pickL _
end
theorem valsPick {vs : List V} {us : List Value} (r : Vals vs us) : ∀ is : List Nat, Vals (is.filterMap (vs[·]?)) (is.filterMap (us[·]?))
  | [] => .nil
  | i :: is => by
    cases e : vs[i]? with
    | none =>
      have e2 : us[i]? = none := r.none_of e
      rw [List.filterMap_cons_none e, List.filterMap_cons_none e2]
      exact valsPick r is
    | some d =>
      obtain ⟨v, e2, q⟩ := r.get e
      rw [List.filterMap_cons_some e, List.filterMap_cons_some e2]
      exact .cons q (valsPick r is)
section
variable {X : Cx} {e a b : Expr} {es : List Expr} {ws vs ws1 ws2 ws3 ws4 vs1 vs2 : List Nat} {f f1 f2 : FE} {g h k : FO} {pos p2 : Pos} {lo hi st : Option Expr}
theorem do_none : DO X none [] fNo := by
  refine ⟨⟨fun pins s σ H Q I q => po_none.run pins s σ H Q I ?_⟩⟩
  obtain ⟨ρ, fps, o, ρ', S, e, q⟩ := q
  obtain ⟨rfl, rfl⟩ := Prod.mk.inj (Option.some.inj e)
  exact q H fps S Eff.refl
theorem do_some (ha : DE X a ws vs f) : DO X (some a) ws (fSo f) := by
  refine ⟨⟨fun pins s σ H Q I q => (po_some ha.pe).run pins s σ H Q I ?_⟩⟩
  obtain ⟨ρ, fps, o, ρ', S, e, q⟩ := q
  obtain ⟨⟨m1, ρ1⟩, e1, e⟩ := Option.bind_eq_some_iff.mp e
  obtain ⟨i, e2, e⟩ := Option.bind_eq_some_iff.mp e
  obtain ⟨rfl, rfl⟩ := Prod.mk.inj (Option.some.inj e)
  obtain rfl := M.int_eq e2
  exact ⟨ρ, fps, _, _, S, e1, fun v1 H1 fps1 fp1 S1 R1 E1 P1 => ⟨i, R1.2, q H1 fps1 S1 E1⟩⟩
def rSlG (K : PySem.W.Frag) : V → Option Int → Option Int → Hp → VK → Prop := fun x lo hi H Q => ∃ m f z, Rep K H m x f ∧ gCut m lo hi = some z ∧ New K H z Q
theorem sl_G : SlR X (rSlG X.K) := by
  intro pins s σ H x v vl vu lo hi sl Q I rx hs pl pu h
  obtain ⟨m, f, z, R, e, n⟩ := h
  unfold gCut at e
  split at e
  · obtain ⟨ds, e1, e⟩ := Option.bind_eq_some_iff.mp e
    cases e
    obtain ⟨a, vs, hx, _, ha, r⟩ := lst_rep e1 R
    exact sl_list pins s σ H x v vl vu lo hi sl Q I rx hs pl pu ⟨a, vs, hx, SqL.of ha, fun p hp => n.lst (r.cut lo hi) hp⟩
  · cases e
    obtain ⟨rfl, a, vs, hx, ha, r⟩ := R
    refine sl_tupA pins s σ H x v vl vu lo hi sl Q I rx hs pl pu ⟨a, vs, hx, ha, fun w => n.dat ⟨a, vs, rfl, ha, ?_⟩, fun _ p hp => n.tup (r.cut lo hi) hp⟩
    show RepDs X.K H (cut _ lo hi) vs
    unfold cut
    rw [← r.len, w.1, w.2, List.drop_zero, Nat.sub_zero, r.len, List.take_length]
    exact r
  · cases e
    obtain ⟨rfl, a, vs, hx, ha, r⟩ := R
    exact sl_list pins s σ H x v vl vu lo hi sl Q I rx hs pl pu ⟨a, vs, hx, ha.sq, fun p hp => n.lst (r.cut lo hi) hp⟩
  · split at e
    · cases e
      obtain ⟨rfl, hx⟩ := R
      exact sl_str pins s σ H x v vl vu lo hi sl Q I rx hs pl pu ⟨_, hx, by assumption, n.dat rfl⟩
    · cases e
  · cases e
theorem de_cut (ha : DE X a ws1 vs1 f1) (hl : DO X lo ws2 g) (hh : DO X hi ws3 h) (hv : ∀ i ∈ vs1, i ∉ ws2 ++ ws3 := by decide) : DE X (.Subscript a (.Slice lo hi none p2) pos) (ws1 ++ (ws2 ++ ws3)) [] (fCut f1 g h) := by
  refine ⟨(pe_slice sl_G ha.pe hl.po hh.po).imp fun σ H Q h => ?_⟩
  obtain ⟨ρ, fps, m, ρ', S, e, q⟩ := h
  obtain ⟨⟨m1, ρ1⟩, e1, e⟩ := Option.bind_eq_some_iff.mp e
  obtain ⟨⟨l, ρ2⟩, e2, e⟩ := Option.bind_eq_some_iff.mp e
  obtain ⟨⟨u, ρ3⟩, e3, e⟩ := Option.bind_eq_some_iff.mp e
  obtain ⟨z, e4, e⟩ := Option.bind_eq_some_iff.mp e
  obtain ⟨rfl, rfl⟩ := Prod.mk.inj (Option.some.inj e)
  refine ⟨ρ, fps, _, _, S, e1, fun v1 H1 fps1 fp1 S1 R1 E1 P1 => ?_⟩
  refine ⟨_, fps1, _, _, S1, e2, fun H2 fps2 S2 E2 => ⟨_, fps2, _, _, S2, e3, fun H3 fps3 S3 E3 => ?_⟩⟩
  have E := E2.trans E3
  exact ⟨m1, fp1, z, Rep.mono (E.kp S1) m1 R1 (P1.kept S1 (Rep.alive m1 R1) E hv), e4, new_done S S3 (E1.trans E) q⟩
/-- a list's slice by steps -/
theorem pe_slice3 {te : TE} {tl th tk : TO} (he : PE X e te) (hl : PO X lo tl) (hu : PO X hi th) (hk : PO X st tk) :
    PE X (.Subscript e (.Slice lo hi st p2) pos) (fun σ H Q => te σ H fun x H1 => tl σ H1 fun l H2 => th σ H2 fun u H3 => tk σ H3 fun k H4 => ∃ a xs, x = .ref a ∧ SqL X.K H4 a xs ∧ k ≠ some 0 ∧ ∀ p, H4 p = none → Q (.ref p) (upd H4 p (.lst (pick xs l u k)))) := by
  refine ⟨fun pins s σ H Q I h => ?_⟩
  refine Subscript_ (thn (he.run pins s σ H _ I h) fun v s1 ⟨x, H1, I1, r1, q1⟩ => ?_)
  refine wpAny_Slice (thn (hl.run pins s1 σ H1 _ I1 q1) fun vl s2 ⟨l, H2, I2, pl, q2⟩ => ?_)
  refine thn (hu.run pins s2 σ H2 _ I2 q2) fun vu s3 ⟨u, H3, I3, pu, q3⟩ => ?_
  refine thn (hk.run pins s3 σ H3 _ I3 q3) fun vs s4 ⟨o, H4, I4, ps, q4⟩ => ?_
  obtain ⟨a, xs, ex, hx, h0, q⟩ := q4
  subst ex
  cases r1
  have I5 : Inv X pins σ H4 { s4 with heap := s4.heap.push { cls := .type "slice", data := .fields #[vl, vu, vs] } } := I4.kept (t' := s4.toks) fun b ob q => Heap.get?_push_of_some _ q
  obtain ⟨its, r, ht, hz⟩ := I5.list hx
  have hlen := r.length
  show wpAny (model X.prog X.w) X.A (subscriptTail e (.Slice lo hi st p2) (.ref a) (.ref s4.heap.objs.size)) (EP X pins σ Q) X.xe { s4 with heap := s4.heap.push { cls := .type "slice", data := .fields #[vl, vu, vs] } }
  have fin : wpAny (model X.prog X.w) X.A (getItem (.ref a) (.ref s4.heap.objs.size)) (EP X pins σ Q) X.xe { s4 with heap := s4.heap.push { cls := .type "slice", data := .fields #[vl, vu, vs] } } := by
    refine wpAny_getItem_list_slice ht.isList (Heap.IsSliceOf.new _ vl vu vs) pl pu ps h0 ?_ (by rw [List.size_toArray]; omega)
    have hp : slicePick its.toArray l u o = (pick its l u o).toArray := by
      unfold slicePick pick
      simp
    rw [hp]
    refine ⟨.ref _, _, I5.laid (t' := s4.toks) (o := .lst (pick xs l u o)) (fun b ob q => Heap.get?_push_of_some _ q) (Nat.le_refl _) ?_, rfl, q _ (I5.hok.fresh (Nat.le_refl _))⟩
    have rp : Vals (pick xs l u o) (pick its l u o) := by
      unfold pick
      rw [r.length]
      exact valsPick r _
    refine ⟨?_, _, 0, rp, Heap.get?_push_size _ rfl⟩
    have := slicePick_size_le its.toArray l u o
    rw [hp, List.size_toArray, ← rp.length, List.size_toArray, ← r.length] at this
    omega
  cases lo <;> cases hi <;> cases st
  all_goals first
    | exact tail_any (ops := [.ref s4.heap.objs.size, .ref a]) ht.isList.typeIs (PySem.slot_list_getitem.lookup) fin (by with_unfolding_all rfl)
    | exact tail_any (ops := [.ref a, .ref s4.heap.objs.size]) ht.isList.typeIs (PySem.slot_list_getitem.lookup) fin (by with_unfolding_all rfl)
theorem gPick_rep {K : PySem.W.Frag} {H : Hp} {m : M} {x : V} {f : List Addr} {l u o : Option Int} {z : M} {Q : VK} (R : Rep K H m x f) (e : gPick m l u o = some z) (n : New K H z Q) :
    ∃ a xs, x = .ref a ∧ SqL K H a xs ∧ o ≠ some 0 ∧ ∀ p, H p = none → Q (.ref p) (upd H p (.lst (pick xs l u o))) := by
  unfold gPick at e
  split at e
  · obtain ⟨ds, e1, e⟩ := Option.bind_eq_some_iff.mp e
    split at e
    · cases e
    · cases e
      obtain ⟨a, vs, hx, _, ha, r⟩ := lst_rep e1 R
      exact ⟨a, vs, hx, SqL.of ha, by assumption, fun p hp => n.lst (r.pick l u _) hp⟩
  · split at e
    · cases e
    · cases e
      obtain ⟨rfl, a, vs, hx, ha, r⟩ := R
      exact ⟨a, vs, hx, ha.sq, by assumption, fun p hp => n.lst (r.pick l u _) hp⟩
  · cases e
theorem de_pick (ha : DE X a ws1 vs1 f1) (hl : DO X lo ws2 g) (hh : DO X hi ws3 h) (hk : DO X st ws4 k) (hv : ∀ i ∈ vs1, i ∉ ws2 ++ (ws3 ++ ws4) := by decide) :
    DE X (.Subscript a (.Slice lo hi st p2) pos) (ws1 ++ (ws2 ++ (ws3 ++ ws4))) [] (fPick f1 g h k) := by
  refine ⟨(pe_slice3 ha.pe hl.po hh.po hk.po).imp fun σ H Q h => ?_⟩
  obtain ⟨ρ, fps, m, ρ', S, e, q⟩ := h
  obtain ⟨⟨m1, ρ1⟩, e1, e⟩ := Option.bind_eq_some_iff.mp e
  obtain ⟨⟨l, ρ2⟩, e2, e⟩ := Option.bind_eq_some_iff.mp e
  obtain ⟨⟨u, ρ3⟩, e3, e⟩ := Option.bind_eq_some_iff.mp e
  obtain ⟨⟨o, ρ4⟩, e5, e⟩ := Option.bind_eq_some_iff.mp e
  obtain ⟨z, e4, e⟩ := Option.bind_eq_some_iff.mp e
  obtain ⟨rfl, rfl⟩ := Prod.mk.inj (Option.some.inj e)
  refine ⟨ρ, fps, _, _, S, e1, fun v1 H1 fps1 fp1 S1 R1 E1 P1 => ?_⟩
  refine ⟨_, fps1, _, _, S1, e2, fun H2 fps2 S2 E2 => ⟨_, fps2, _, _, S2, e3, fun H3 fps3 S3 E3 => ⟨_, fps3, _, _, S3, e5, fun H4 fps4 S4 E4 => ?_⟩⟩⟩
  have E := E2.trans (E3.trans E4)
  exact gPick_rep (Rep.mono (E.kp S1) m1 R1 (P1.kept S1 (Rep.alive m1 R1) E hv)) e4 (new_done S S4 (E1.trans E) q)
end

/-! ### displays, argument lists -/
def fANil : FA := fun ρ => some ([], ρ)
def fACons (f : FE) (g : FA) : FA := fun ρ => (f ρ).bind fun p => (g p.2).bind fun q => some (p.1 :: q.1, q.2)
def fTup (g : FA) : FE := fun ρ => (g ρ).bind fun p => (allD p.1).bind fun ds => if ds.length ≤ sizeLine then some (.d (.tuple ds), p.2) else none
def fLst (g : FA) : FE := fun ρ => (g ρ).bind fun p => if p.1.length ≤ sizeLine then some (.lst p.1, p.2) else none
section
variable {X : Cx} {e a b : Expr} {es : List Expr} {ws vs ws1 ws2 ws3 ws4 vs1 vs2 : List Nat} {f f1 f2 : FE} {g : FA} {pos p2 : Pos}
theorem da_nil : DA X [] [] fANil := by
  refine ⟨pa_nil.imp fun σ H Q h => ?_⟩
  obtain ⟨ρ, fps, ms, ρ', S, e, q⟩ := h
  obtain ⟨rfl, rfl⟩ := Prod.mk.inj (Option.some.inj e)
  exact q [] H fps [] S ⟨rfl, rfl⟩ Eff.refl Res.nil
theorem da_cons (ha : DE X a ws1 [] f1) (hr : DA X es ws2 g) (hs : starEach (a :: es) X.env = (false, eval a X.env) :: starEach es X.env := by rfl) : DA X (a :: es) (ws1 ++ ws2) (fACons f1 g) := by
  refine ⟨(pa_cons ha.pe hr.pa hs).imp fun σ H Q h => ?_⟩
  obtain ⟨ρ, fps, ms, ρ', S, e, q⟩ := h
  obtain ⟨⟨m1, ρ1⟩, e1, e⟩ := Option.bind_eq_some_iff.mp e
  obtain ⟨⟨m2, ρ2⟩, e2, e⟩ := Option.bind_eq_some_iff.mp e
  obtain ⟨rfl, rfl⟩ := Prod.mk.inj (Option.some.inj e)
  refine ⟨ρ, fps, _, _, S, e1, fun v1 H1 fps1 fp1 S1 R1 E1 P1 => ?_⟩
  refine ⟨_, fps1, _, _, S1, e2, fun us H2 fps2 fp2 S2 R2 E2 P2 => ?_⟩
  have al := Rep.alive m1 R1
  have hv : ∀ i ∈ ([] : List Nat), i ∉ ws2 := by simp
  refine q _ H2 fps2 (fp1 ++ fp2) S2 ⟨v1, us, fp1, fp2, rfl, rfl, fun b h1 h2 => ?_, Rep.mono (E2.kp S1) m1 R1 (P1.kept S1 al E2 hv), R2⟩ (E1.trans E2) fun b hb => ?_
  · rcases P2 b h2 with ⟨i, hi, _⟩ | ⟨_, ⟨j, _, z⟩ | z⟩
    · cases hi
    · rcases P1 b h1 with ⟨i, hi, _⟩ | ⟨w, _⟩
      · cases hi
      · exact w j z
    · obtain ⟨o, e, _⟩ := al b h1
      rw [z] at e; cases e
  · rcases List.mem_append.mp hb with hb | hb
    · exact P1.carry S1 al E2 hv b hb
    · exact Res.later E1 P2 b hb
theorem de_tup {x1} (h : DA X es ws g) : DE X (.Tuple es x1 pos) ws [] (fTup g) := by
  refine ⟨(pe_tup h.pa).imp fun σ H Q h => ?_⟩
  obtain ⟨ρ, fps, ms, ρ', S, e, q⟩ := h
  obtain ⟨⟨m1, ρ1⟩, e1, e⟩ := Option.bind_eq_some_iff.mp e
  obtain ⟨ds, e2, e⟩ := Option.bind_eq_some_iff.mp e
  split at e
  · obtain ⟨rfl, rfl⟩ := Prod.mk.inj (Option.some.inj e)
    refine ⟨ρ, fps, _, _, S, e1, fun us H1 fps1 fp1 S1 R1 E1 P1 => ?_⟩
    obtain ⟨r, rfl⟩ := allD_reps e2 R1
    exact ⟨by rw [r.len]; assumption, fun p hp => New.tup (new_done S S1 E1 q) r hp⟩
  · cases e
theorem de_lst (h : DA X es ws g) : DE X (.List es pos) ws [] (fLst g) := by
  refine ⟨(pe_lst h.pa).imp fun σ H Q h => ?_⟩
  obtain ⟨ρ, fps, ms, ρ', S, e, q⟩ := h
  obtain ⟨⟨m1, ρ1⟩, e1, e⟩ := Option.bind_eq_some_iff.mp e
  split at e
  · obtain ⟨rfl, rfl⟩ := Prod.mk.inj (Option.some.inj e)
    refine ⟨ρ, fps, _, _, S, e1, fun us H1 fps1 fp1 S1 R1 E1 P1 => ?_⟩
    refine ⟨by rw [R1.len]; assumption, fun p hp => ?_⟩
    have s := Same.new (o := HO.lst us) hp
    have al := Reps.alive m1 R1
    have np : p ∉ fp1 := fun z => by
      obtain ⟨o, e, _⟩ := al p z
      rw [hp] at e; cases e
    have E := E1.trans (Eff.of_same (fps := fps1) s)
    rw [List.append_nil] at E
    refine q (.ref p) _ fps1 (p :: fp1) (S1.same s) ⟨p, us, fp1, rfl, rfl, upd_same, np, Reps.mono (.of_same s) m1 R1 fun b hb => upd_ne (fun z => np (z ▸ hb))⟩ E fun b hb => ?_
    rcases List.mem_cons.mp hb with rfl | hb
    · refine .inr ⟨fun i hi => ?_, .inr (E1.live b hp)⟩
      obtain ⟨o, e, _⟩ := S1.alive hi
      rw [hp] at e; cases e
    · exact P1 b hb
  · cases e
end

/-! ### built-in functions -/
def r1C (K : PySem.W.Frag) (g : M → Option M) : List V → Hp → VK → Prop := fun vs H Q => ∃ x m f z, vs = [x] ∧ Rep K H m x f ∧ g m = some z ∧ New K H z Q
def r2C (K : PySem.W.Frag) (g : M → M → Option M) : List V → Hp → VK → Prop := fun vs H Q => ∃ x y m n f k z, vs = [x, y] ∧ Rep K H m x f ∧ Rep K H n y k ∧ g m n = some z ∧ New K H z Q
section
variable {X : Cx} {e a b : Expr} {es : List Expr} {ws vs ws1 ws2 ws3 ws4 vs1 vs2 : List Nat} {f f1 f2 : FE} {g : M → Option M} {g2 : M → M → Option M} {pos p p2 : Pos} {x : Str} {id T : String}
theorem one_new {σ : L2.St} {H : Hp} {Q : VK} (h : tE X.K ws [] (fUn g f) σ H Q) : tCB (r1C X.K g) (tCons (tE X.K ws vs f) tNil) σ H Q := by
  obtain ⟨ρ, fps, m, ρ', S, e, q⟩ := h
  obtain ⟨⟨m1, ρ1⟩, e1, e⟩ := Option.bind_eq_some_iff.mp e
  obtain ⟨z, e3, e⟩ := Option.bind_eq_some_iff.mp e
  obtain ⟨rfl, rfl⟩ := Prod.mk.inj (Option.some.inj e)
  exact ⟨ρ, fps, _, _, S, e1, fun v1 H1 fps1 fp1 S1 R1 E1 P1 => ⟨v1, _, fp1, _, rfl, R1, e3, new_done S S1 E1 q⟩⟩
theorem de_callB (hc : CallR X (.builtin id) (r1C X.K g)) (hm : X.mg x = none) (ha : DE X a ws vs f) (hg : Gl X x := by rfl) (hv : bootBuiltins x = some (.builtin id) := by decide +kernel) (hn : x ≠ "__name__" := by decide) (hdb : (x == ("__debug__" : Str)) = false := by decide)
    (hs : starEach [a] X.env = (false, eval a X.env) :: starEach [] X.env := by rfl) (hpl : (backTo pos (starEach [] X.env)).any (·.1) = false := by rfl) : DE X (.Call (.Name x p) [a] [] pos) ws [] (fUn g f) :=
  ⟨(pe_callB hc hg hm hv (pa_cons ha.pe pa_nil hs) hn hdb hs hpl).imp fun _ _ _ h => one_new h⟩
theorem de_callT (hc : CallR X (.type T) (r1C X.K g)) (hm : X.mg x = none) (ha : DE X a ws vs f) (hg : Gl X x := by rfl) (hv : bootBuiltins x = some (.type T) := by decide +kernel) (hn : x ≠ "__name__" := by decide) (hdb : (x == ("__debug__" : Str)) = false := by decide)
    (hs : starEach [a] X.env = (false, eval a X.env) :: starEach [] X.env := by rfl) (hpl : (backTo pos (starEach [] X.env)).any (·.1) = false := by rfl) : DE X (.Call (.Name x p) [a] [] pos) ws [] (fUn g f) :=
  ⟨(pe_callTy hc hg hm hv (pa_cons ha.pe pa_nil hs) hn hdb hs hpl).imp fun _ _ _ h => one_new h⟩
theorem de_callB2 (hc : CallR X (.builtin id) (r2C X.K g2)) (hm : X.mg x = none) (ha : DE X a ws1 vs1 f1) (hb : DE X b ws2 vs2 f2) (hg : Gl X x := by rfl) (hv : bootBuiltins x = some (.builtin id) := by decide +kernel) (hn : x ≠ "__name__" := by decide) (hdb : (x == ("__debug__" : Str)) = false := by decide)
    (hs : starEach [a, b] X.env = (false, eval a X.env) :: starEach [b] X.env := by rfl) (hs2 : starEach [b] X.env = (false, eval b X.env) :: starEach [] X.env := by rfl) (hpl : (backTo pos (starEach [b] X.env)).any (·.1) = false := by rfl) (hw : ∀ i ∈ vs1, i ∉ ws2 := by decide) : DE X (.Call (.Name x p) [a, b] [] pos) (ws1 ++ ws2) [] (fBin g2 f1 f2) := by
  refine ⟨(pe_callB hc hg hm hv (pa_cons ha.pe (pa_cons hb.pe pa_nil hs2) hs) hn hdb hs hpl).imp fun σ H Q h => ?_⟩
  obtain ⟨ρ, fps, m, ρ', S, e, q⟩ := h
  obtain ⟨⟨m1, ρ1⟩, e1, e⟩ := Option.bind_eq_some_iff.mp e
  obtain ⟨⟨m2, ρ2⟩, e2, e⟩ := Option.bind_eq_some_iff.mp e
  obtain ⟨z, e3, e⟩ := Option.bind_eq_some_iff.mp e
  obtain ⟨rfl, rfl⟩ := Prod.mk.inj (Option.some.inj e)
  refine ⟨ρ, fps, _, _, S, e1, fun v1 H1 fps1 fp1 S1 R1 E1 P1 => ?_⟩
  refine ⟨_, fps1, _, _, S1, e2, fun v2 H2 fps2 fp2 S2 R2 E2 P2 => ?_⟩
  exact ⟨v1, v2, m1, m2, fp1, fp2, _, rfl, Rep.mono (E2.kp S1) m1 R1 (P1.kept S1 (Rep.alive m1 R1) E2 hw), R2, e3, new_done S S2 (E1.trans E2) q⟩
end
end DL
namespace DL
open L2 PySem.Spec PySem PyProof.Rows

def gLen : M → Option M
  | .lst ms => some (.d (.int ms.length))
  | .d (.tuple ds) => some (.d (.int ds.length))
  | .bt ds => some (.d (.int ds.length))
  | .d (.list ds) => some (.d (.int ds.length))
  | .d (.str z) => if z.length ≤ sizeLine then some (.d (.int z.length)) else none
  | .dK ks _ => some (.d (.int ks.length))
  | _ => none
def gTuple : M → Option M
  | .lst ms => (allD ms).bind fun ds => some (.d (.tuple ds))
  | .d (.list ds) => some (.d (.tuple ds))
  | .d (.tuple ds) => some (.d (.tuple ds))
  | _ => none
def gList : M → Option M
  | .lst ms => (allD ms).bind fun ds => some (.lst (ds.map M.d))
  | .d (.list ds) => some (.lst (ds.map M.d))
  | .d (.tuple ds) => some (.lst (ds.map M.d))
  | _ => none
def gInt : M → Option M
  | .d (.int i) => some (.d (.int i))
  | .d (.bool b) => some (.d (.int (if b = true then 1 else 0)))
  | _ => none
def gMax2 : M → M → Option M
  | .d (.int i), .d (.int j) => some (.d (.int (if j > i then j else i)))
  | _, _ => none
def gMin2 : M → M → Option M
  | .d (.int i), .d (.int j) => some (.d (.int (if j < i then j else i)))
  | _, _ => none
def sortOk (ds : List PyData) : Bool := (ds.all fun d => ds.all fun e => PySem.W.alike d e) && ((ds.all fun d => match d with | .tuple (_ :: _) => true | _ => false) || (ds.all fun d => match d with | .tuple _ => false | .none => false | _ => true)) && (ds.all fun d => decide (d.depth ≤ 60))
def gSorted : M → Option M
  | .lst ms => (allD ms).bind fun ds => if sortOk ds = true then some (.lst ((ds.mergeSort (PySem.W.dataLe false id)).map M.d)) else none
  | .d (.list ds) => if sortOk ds = true then some (.lst ((ds.mergeSort (PySem.W.dataLe false id)).map M.d)) else none
  | _ => none

section
variable {X : Cx}
theorem Vals.one {v : V} {us : List Value} (r : Vals [v] us) : ∃ u, us = [u] ∧ RelV v u := by
  cases r with
  | cons a b => cases b; exact ⟨_, rfl, a⟩
theorem cr_lenG : CallR X (.builtin "len") (r1C X.K gLen) := by
  intro pins s σ H xs us Q I r h
  obtain ⟨x, m, f, z, rfl, R, e, n⟩ := h
  unfold gLen at e
  split at e
  · cases e
    obtain ⟨a, vs, fq, hx, _, ha, _, dx⟩ := R
    subst hx
    exact call_len_seq pins s σ H _ us Q I r ⟨a, vs, rfl, .inl (SqL.of ha), by rw [dx.len]; exact n.dat rfl⟩
  · cases e
    obtain ⟨rfl, a, vs, hx, ha, dx⟩ := R
    subst hx
    exact call_len_seq pins s σ H _ us Q I r ⟨a, vs, rfl, .inr ha, by rw [dx.len]; exact n.dat rfl⟩
  · cases e
    obtain ⟨rfl, a, vs, hx, ha, dx⟩ := R
    subst hx
    exact call_len_seq pins s σ H _ us Q I r ⟨a, vs, rfl, .inr ha.sq, by rw [dx.len]; exact n.dat rfl⟩
  · cases e
    obtain ⟨rfl, a, vs, hx, ha, dx⟩ := R
    subst hx
    exact call_len_seq pins s σ H _ us Q I r ⟨a, vs, rfl, .inl ha.sq, by rw [dx.len]; exact n.dat rfl⟩
  · split at e
    · cases e
      obtain ⟨rfl, hx⟩ := R
      subst hx
      exact call_len_str pins s σ H _ us Q I r ⟨_, rfl, by assumption, n.dat rfl⟩
    · cases e
  · cases e
    obtain ⟨a, vs, fq, hx, _, ha, _, hl, dx⟩ := R
    subst hx
    exact call_lenD pins s σ H _ us Q I r ⟨a, _, rfl, ha, by rw [List.length_zip, hl, Nat.min_self]; exact n.dat rfl⟩
  · cases e
theorem cr_tupleG : CallR X (.type "tuple") (r1C X.K gTuple) := by
  intro pins s σ H xs us Q I r h
  obtain ⟨x, m, f, z, rfl, R, e, n⟩ := h
  unfold gTuple at e
  split at e
  · obtain ⟨ds, e1, e⟩ := Option.bind_eq_some_iff.mp e
    cases e
    obtain ⟨a, vs, hx, _, ha, dx⟩ := lst_rep e1 R
    subst hx
    exact call_tuple_of pins s σ H _ us Q I r ⟨a, vs, rfl, .inl ⟨SqL.of ha, fun p hp => n.tup dx hp⟩⟩
  · cases e
    obtain ⟨rfl, a, vs, hx, ha, dx⟩ := R
    subst hx
    exact call_tuple_of pins s σ H _ us Q I r ⟨a, vs, rfl, .inl ⟨ha.sq, fun p hp => n.tup dx hp⟩⟩
  · cases e
    obtain ⟨rfl, a, vs, hx, ha, dx⟩ := R
    subst hx
    exact call_tuple_of pins s σ H _ us Q I r ⟨a, vs, rfl, .inr ⟨ha, n.dat ⟨a, vs, rfl, ha, dx⟩⟩⟩
  · cases e
theorem cr_listG : CallR X (.type "list") (r1C X.K gList) := by
  intro pins s σ H xs us Q I r h
  obtain ⟨x, m, f, z, rfl, R, e, n⟩ := h
  unfold gList at e
  split at e
  · obtain ⟨ds, e1, e⟩ := Option.bind_eq_some_iff.mp e
    cases e
    obtain ⟨a, vs, hx, _, ha, dx⟩ := lst_rep e1 R
    subst hx
    exact call_list_of pins s σ H _ us Q I r ⟨a, vs, rfl, .inl (SqL.of ha), fun p hp => n.lst dx hp⟩
  · cases e
    obtain ⟨rfl, a, vs, hx, ha, dx⟩ := R
    subst hx
    exact call_list_of pins s σ H _ us Q I r ⟨a, vs, rfl, .inl ha.sq, fun p hp => n.lst dx hp⟩
  · cases e
    obtain ⟨rfl, a, vs, hx, ha, dx⟩ := R
    subst hx
    exact call_list_of pins s σ H _ us Q I r ⟨a, vs, rfl, .inr ha, fun p hp => n.lst dx hp⟩
  · cases e
theorem cr_intG : CallR X (.type "int") (r1C X.K gInt) := by
  intro pins s σ H xs us Q I r h
  obtain ⟨x, m, f, z, rfl, R, e, n⟩ := h
  unfold gInt at e
  split at e
  · cases e
    obtain ⟨rfl, hx⟩ := R
    subst hx
    exact call_int1 pins s σ H _ us Q I r (.inl ⟨_, rfl, n.dat rfl⟩)
  · cases e
    obtain ⟨rfl, hx⟩ := R
    subst hx
    exact call_int1 pins s σ H _ us Q I r (.inr ⟨_, rfl, n.dat rfl⟩)
  · cases e
theorem cr_maxG (hc : X.calm = true) : CallR X (.builtin "max") (r2C X.K gMax2) := by
  intro pins s σ H xs us Q I r h
  obtain ⟨x, y, m, k, f, f2, z, rfl, R, R2, e, n⟩ := h
  unfold gMax2 at e
  split at e
  · cases e
    obtain ⟨rfl, hx⟩ := R
    obtain ⟨rfl, hy⟩ := R2
    subst hx hy
    exact call_max2 hc pins s σ H _ us Q I r ⟨_, _, rfl, n.dat rfl⟩
  · cases e
theorem cr_minG (hc : X.calm = true) : CallR X (.builtin "min") (r2C X.K gMin2) := by
  intro pins s σ H xs us Q I r h
  obtain ⟨x, y, m, k, f, f2, z, rfl, R, R2, e, n⟩ := h
  unfold gMin2 at e
  split at e
  · cases e
    obtain ⟨rfl, hx⟩ := R
    obtain ⟨rfl, hy⟩ := R2
    subst hx hy
    exact call_min2 hc pins s σ H _ us Q I r ⟨_, _, rfl, n.dat rfl⟩
  · cases e
/-! ### sorted -/
theorem each_reads {K : PySem.W.Frag} {H : Hp} {pins : List (Addr × Obj)} {s : Shared} {σ : L2.St} (hK : X.K = K) (I : L2.Inv X pins σ H s) : ∀ {ds : List PyData} {vs : List V} {us : List Value}, RepDs K H ds vs → Vals vs us →
    PySem.W.EachIs (fun u d => (∃ as, Reads s.heap u d as)) us ds ∧ PySem.W.EachIs (fun u d => ∃ v, RelV v u ∧ RepD K H d v) us ds
  | [], _, _, h, r => by
    cases h
    cases r
    exact ⟨.nil, .nil⟩
  | d :: ds, _, _, h, r => by
    obtain ⟨v, vs, rfl, h1, h2⟩ := h
    cases r with
    | cons r1 r2 =>
      obtain ⟨a, b⟩ := each_reads hK I h2 r2
      subst hK
      exact ⟨.cons (Dp.reads I d v _ (RepD.dp _ _ h1) r1) a, .cons ⟨v, r1, h1⟩ b⟩
theorem each_back {K : PySem.W.Frag} {H : Hp} : ∀ {ds : List PyData} {us : List Value}, PySem.W.EachIs (fun u d => ∃ v, RelV v u ∧ RepD K H d v) us ds → ∃ vs, Vals vs us ∧ RepDs K H ds vs
  | _, _, .nil => ⟨[], .nil, rfl⟩
  | _, _, .cons ⟨v, r, h⟩ t => by
    obtain ⟨vs, r2, h2⟩ := each_back t
    exact ⟨v :: vs, .cons r r2, v, vs, rfl, h, h2⟩
theorem sortOk_all {ds : List PyData} (h : sortOk ds = true) : PySem.W.AllAlike ds ∧ PySem.W.Sortable ds ∧ ∀ d ∈ ds, d.depth ≤ 60 := by
  unfold sortOk at h
  rw [Bool.and_eq_true, Bool.and_eq_true, Bool.or_eq_true] at h
  obtain ⟨⟨h1, h2⟩, h3⟩ := h
  refine ⟨fun d hd e he => ?_, ?_, fun d hd => ?_⟩
  · exact List.all_eq_true.mp (List.all_eq_true.mp h1 d hd) e he
  · rcases h2 with h2 | h2
    · refine .inl fun d hd => ?_
      have := List.all_eq_true.mp h2 d hd
      split at this
      · exact ⟨_, _, rfl⟩
      · cases this
    · refine .inr fun d hd => ?_
      have := List.all_eq_true.mp h2 d hd
      split at this
      · cases this
      · cases this
      · rename_i a b
        exact ⟨b, fun xs => a xs⟩
  · exact of_decide_eq_true (List.all_eq_true.mp h3 d hd)
theorem sort_core (hu : X.A.units + 65 < cLine) {pins : List (Addr × Obj)} {s : Shared} {σ : L2.St} {H : Hp} {a : Addr} {vs : List V} {ds : List PyData} {Q : VK} (I : L2.Inv X pins σ H s) (hs : SqL X.K H a vs) (hd : RepDs X.K H ds vs) (ok : sortOk ds = true)
    (n : New X.K H (.lst ((ds.mergeSort (PySem.W.dataLe false id)).map M.d)) Q) : wpAny (model X.prog X.w) X.A (call (.builtin "sorted") [.ref a]) (EP X pins σ Q) X.xe s := by
  obtain ⟨its, rv, hl, hz⟩ := I.list hs
  obtain ⟨e1, e2⟩ := each_reads rfl I hd rv
  obtain ⟨o1, o2, o3⟩ := sortOk_all ok
  refine PySem.W.sorted_data (bs := ds) (enc := id) hl.isList e2 e1 (by rw [List.map_id]; exact o1) (by rw [List.map_id]; exact o2) (by rw [← hd.len]; exact hz) (fun d hd => ?_) fun out ho eo => ?_
  · have := o3 d hd
    show X.A.units + 2 + d.depth < cLine
    omega
  · obtain ⟨ws, r, hr⟩ := each_back eo
    obtain ⟨c, hc⟩ := sortedAll_at s.heap its (List.toArray out)
    have hp : s.heap.objs.size ≤ s.heap.objs.size + 1 := Nat.le_succ _
    refine ⟨.ref (s.heap.objs.size + 1), upd H (s.heap.objs.size + 1) (.lst ws), I.laid (t' := s.toks) (fun b o q => sortedAll_old q) hp ⟨?_, out, c, r, hc⟩, rfl, n.lst hr (I.hok.fresh hp)⟩
    rw [r.length, ho, ← hd.len]
    exact hz
theorem cr_sortedG (hu : X.A.units + 65 < cLine) : CallR X (.builtin "sorted") (r1C X.K gSorted) := by
  intro pins s σ H xs us Q I r h
  obtain ⟨x, m, f, z, rfl, R, e, n⟩ := h
  obtain ⟨u, rfl, ru⟩ := Vals.one r
  unfold gSorted at e
  split at e
  · obtain ⟨ds, e1, e⟩ := Option.bind_eq_some_iff.mp e
    split at e
    · cases e
      obtain ⟨a, vs, hx, _, ha, dx⟩ := lst_rep e1 R
      subst hx
      cases ru
      exact sort_core hu I (SqL.of ha) dx (by assumption) n
    · cases e
  · split at e
    · cases e
      obtain ⟨rfl, a, vs, hx, ha, dx⟩ := R
      subst hx
      cases ru
      exact sort_core hu I ha.sq dx (by assumption) n
    · cases e
  · cases e
end
end DL
namespace DL
open L2 PySem.Spec PySem PyProof.Rows

inductive O where
  | nx (ρ : MS) | rt (m : M) (ρ : MS) | bk (ρ : MS) | ct (ρ : MS)
abbrev FS := MS → Option O

def OkS (K : PySem.W.Frag) (ws : List Nat) (H : Hp) (fps : Fp) (D : Ends) (σ' : L2.St) (H' : Hp) (fps' : Fp) : O → Prop
  | .nx ρ' => StR K H' σ' ρ' fps' → D.nx σ' H'
  | .bk ρ' => StR K H' σ' ρ' fps' → D.bk σ' H'
  | .ct ρ' => StR K H' σ' ρ' fps' → D.ct σ' H'
  | .rt m ρ' => ∀ v fp, StR K H' σ' ρ' fps' → Rep K H' m v fp → Res ws [] H fps fps' fp → D.rt v H'
/-- the slots but those of as are kept -/
def SK (as : List Nat) (σ σ' : L2.St) : Prop := σ'.length = σ.length ∧ ∀ i, i ∉ as → σ'[i]? = σ[i]?
theorem SK.refl {as : List Nat} {σ : L2.St} : SK as σ σ := ⟨rfl, fun _ _ => rfl⟩
theorem SK.trans {a b : List Nat} {σ σ1 σ2 : L2.St} (h : SK a σ σ1) (k : SK b σ1 σ2) : SK (a ++ b) σ σ2 := ⟨k.1.trans h.1, fun i hi => by
  rw [k.2 i fun z => hi (by simp [z]), h.2 i fun z => hi (by simp [z])]⟩
theorem SK.weak {a b : List Nat} {σ σ1 : L2.St} (h : SK a σ σ1) (k : ∀ i ∈ a, i ∈ b) : SK b σ σ1 := ⟨h.1, fun i hi => h.2 i fun z => hi (k i z)⟩
def tS (K : PySem.W.Frag) (as ws : List Nat) (f : FS) : TS := fun D σ H => ∃ ρ fps o, StR K H σ ρ fps ∧ f ρ = some o ∧
  ∀ σ' H' fps', SK as σ σ' → Eff ws H H' fps fps' → OkS K ws H fps D σ' H' fps' o
structure DS (X : Cx) (st : Stmt) (as ws : List Nat) (f : FS) : Prop where
  ps : PS X st (tS X.K as ws f)
structure DB (X : Cx) (sts : List Stmt) (as ws : List Nat) (f : FS) : Prop where
  ps : PSs X sts (tS X.K as ws f)

section
variable {K : PySem.W.Frag} {ws ws1 ws2 as as1 as2 : List Nat} {H H1 H' : Hp} {fps fps1 fps' : Fp} {D : Ends} {σ σ1 σ' : L2.St} {o : O}
/-- from the start, behind a first part -/
theorem OkS.later (E1 : Eff ws1 H H1 fps fps1) (E2 : Eff ws2 H1 H' fps1 fps') (h : OkS K (ws1 ++ ws2) H fps D σ' H' fps' o) : OkS K ws2 H1 fps1 D σ' H' fps' o := by
  cases o with
  | nx ρ => exact h
  | bk ρ => exact h
  | ct ρ => exact h
  | rt m ρ => exact fun v fp S R P => h v fp S R (Res.later E1 P)
theorem tS_seq {f : FS} {ρ1 : MS} (S1 : StR K H1 σ1 ρ1 fps1) (K1 : SK as1 σ σ1) (E1 : Eff ws1 H H1 fps fps1) (e : f ρ1 = some o)
    (q : ∀ σ' H' fps', SK (as1 ++ as2) σ σ' → Eff (ws1 ++ ws2) H H' fps fps' → OkS K (ws1 ++ ws2) H fps D σ' H' fps' o) : tS K as2 ws2 f D σ1 H1 :=
  ⟨ρ1, fps1, o, S1, e, fun σ' H' fps' k E => (q σ' H' fps' (K1.trans k) (E1.trans E)).later E1 E⟩
theorem tS_weak {f : FS} (ha : ∀ i ∈ as1, i ∈ as2) (hw : ∀ i ∈ ws1, i ∈ ws2) (h : tS K as2 ws2 f D σ H) : tS K as1 ws1 f D σ H := by
  obtain ⟨ρ, fps, o, S, e, q⟩ := h
  refine ⟨ρ, fps, o, S, e, fun σ' H' fps' k E => ?_⟩
  have := q σ' H' fps' (k.weak ha) (E.weak hw)
  cases o with
  | nx ρ => exact this
  | bk ρ => exact this
  | ct ρ => exact this
  | rt m ρ => exact fun v fp S R P => this v fp S R (P.weak hw)
end

def fNx : FS := fun ρ => some (.nx ρ)
def fSeq (f g : FS) : FS := fun ρ => (f ρ).bind fun o => match o with
  | .nx ρ' => g ρ'
  | .rt m ρ' => some (.rt m ρ')
  | .bk ρ' => some (.bk ρ')
  | .ct ρ' => some (.ct ρ')
def fIfS (t : FT) (f g : FS) : FS := fun ρ => (t ρ).bind fun p => if p.1 = true then f p.2 else g p.2
def fRet (f : FE) : FS := fun ρ => (f ρ).bind fun p => some (.rt p.1 p.2)
def fRetN : FS := fun ρ => some (.rt (.d .none) ρ)
def fDrop (f : FE) : FS := fun ρ => (f ρ).bind fun p => some (.nx p.2)
def fSet (i : Nat) (f : FE) : FS := fun ρ => (f ρ).bind fun p => some (.nx (p.2.set i (some p.1)))
def fBk : FS := fun ρ => some (.bk ρ)
def fCt : FS := fun ρ => some (.ct ρ)

section
variable {X : Cx} {e a b : Expr} {st : Stmt} {sts sts1 sts2 : List Stmt} {es : List Expr} {ws vs ws1 ws2 ws3 wt vs1 vs2 as as1 as2 : List Nat} {f1 f2 : FE} {f g : FS} {t : FT} {pos p2 : Pos}
theorem db_nil : DB X [] [] [] fNx := by
  refine ⟨pss_nil.imp fun σ H D h => ?_⟩
  obtain ⟨ρ, fps, o, S, e, q⟩ := h
  obtain rfl := Option.some.inj e
  exact q σ H fps SK.refl Eff.refl S
theorem seq_core {D : Ends} {σ : L2.St} {H : Hp} (h : tS X.K (as1 ++ as2) (ws1 ++ ws2) (fSeq f g) D σ H) : tSeq (tS X.K as1 ws1 f) (tS X.K as2 ws2 g) D σ H := by
  obtain ⟨ρ, fps, o, S, e, q⟩ := h
  obtain ⟨o1, e1, e⟩ := Option.bind_eq_some_iff.mp e
  refine ⟨ρ, fps, o1, S, e1, fun σ1 H1 fps1 K1 E1 => ?_⟩
  have wk1 : ∀ i ∈ as1, i ∈ as1 ++ as2 := by simp; intro i hi; exact .inl hi
  have wk2 : ∀ i ∈ ws1, i ∈ ws1 ++ ws2 := by simp; intro i hi; exact .inl hi
  cases o1 with
  | nx ρ1 => exact fun S1 => tS_seq S1 K1 E1 e q
  | bk ρ1 =>
    obtain rfl := Option.some.inj e
    exact q σ1 H1 fps1 (K1.weak wk1) (E1.weak wk2)
  | ct ρ1 =>
    obtain rfl := Option.some.inj e
    exact q σ1 H1 fps1 (K1.weak wk1) (E1.weak wk2)
  | rt m ρ1 =>
    obtain rfl := Option.some.inj e
    exact fun v fp S1 R1 P1 => q σ1 H1 fps1 (K1.weak wk1) (E1.weak wk2) v fp S1 R1 (P1.weak wk2)
theorem db_cons (h1 : DS X st as1 ws1 f) (h2 : DB X sts as2 ws2 g) : DB X (st :: sts) (as1 ++ as2) (ws1 ++ ws2) (fSeq f g) := ⟨(pss_cons h1.ps h2.ps).imp fun σ H D h => seq_core h⟩
theorem db_one (h1 : DS X st as1 ws1 f) : DB X [st] as1 ws1 f := ⟨pss_one h1.ps⟩
theorem ds_if {sa sb : List Stmt} (hc : DT X e wt t) (ha : DB X sa as1 ws1 f) (hb : DB X sb as2 ws2 g) : DS X (.If e sa sb pos) (as1 ++ as2) (wt ++ (ws1 ++ ws2)) (fIfS t f g) := by
  refine ⟨(ps_if hc.pt ha.ps hb.ps).imp fun σ H D h => ?_⟩
  obtain ⟨ρ, fps, o, S, e, q⟩ := h
  obtain ⟨⟨c, ρ1⟩, e1, e⟩ := Option.bind_eq_some_iff.mp e
  refine ⟨ρ, fps, _, _, S, e1, fun H1 fps1 S1 E1 => ?_⟩
  cases c with
  | true =>
    have e : f ρ1 = some o := by simpa using e
    exact iteT (tS_weak (as1 := as1) (ws1 := ws1) (as2 := as1 ++ as2) (ws2 := ws1 ++ ws2) (by simp; intro i hi; exact .inl hi) (by simp; intro i hi; exact .inl hi) (tS_seq (as1 := []) S1 SK.refl E1 e q))
  | false =>
    have e : g ρ1 = some o := by simpa using e
    exact iteF (tS_weak (as1 := as2) (ws1 := ws2) (as2 := as1 ++ as2) (ws2 := ws1 ++ ws2) (by simp; intro i hi; exact .inr hi) (by simp; intro i hi; exact .inr hi) (tS_seq (as1 := []) S1 SK.refl E1 e q))
theorem ds_ret (h : DE X e ws [] f1) : DS X (.Return (some e) pos) [] ws (fRet f1) := by
  refine ⟨(ps_ret h.pe).imp fun σ H D h => ?_⟩
  obtain ⟨ρ, fps, o, S, e, q⟩ := h
  obtain ⟨⟨m, ρ1⟩, e1, e⟩ := Option.bind_eq_some_iff.mp e
  obtain rfl := Option.some.inj e
  exact ⟨ρ, fps, _, _, S, e1, fun v H1 fps1 fp1 S1 R1 E1 P1 => q σ H1 fps1 SK.refl E1 v fp1 S1 R1 P1⟩
theorem ds_retN : DS X (.Return none pos) [] [] fRetN := by
  refine ⟨ps_retN.imp fun σ H D h => ?_⟩
  obtain ⟨ρ, fps, o, S, e, q⟩ := h
  obtain rfl := Option.some.inj e
  exact q σ H fps SK.refl Eff.refl .non [] S ⟨rfl, rfl⟩ Res.nil
theorem ds_pass : DS X (.Pass pos) [] [] fNx := by
  refine ⟨ps_pass.imp fun σ H D h => ?_⟩
  obtain ⟨ρ, fps, o, S, e, q⟩ := h
  obtain rfl := Option.some.inj e
  exact q σ H fps SK.refl Eff.refl S
theorem ds_break : DS X (.Break pos) [] [] fBk := by
  refine ⟨ps_break.imp fun σ H D h => ?_⟩
  obtain ⟨ρ, fps, o, S, e, q⟩ := h
  obtain rfl := Option.some.inj e
  exact q σ H fps SK.refl Eff.refl S
theorem ds_continue : DS X (.Continue pos) [] [] fCt := by
  refine ⟨ps_continue.imp fun σ H D h => ?_⟩
  obtain ⟨ρ, fps, o, S, e, q⟩ := h
  obtain rfl := Option.some.inj e
  exact q σ H fps SK.refl Eff.refl S
theorem ds_expr (h : DE X e ws vs f1) (hs : swapsWith e none pos.line X.env = pure false := by rfl) : DS X (.Expr e pos) [] ws (fDrop f1) := by
  refine ⟨(ps_expr h.pe hs).imp fun σ H D h => ?_⟩
  obtain ⟨ρ, fps, o, S, e, q⟩ := h
  obtain ⟨⟨m, ρ1⟩, e1, e⟩ := Option.bind_eq_some_iff.mp e
  obtain rfl := Option.some.inj e
  exact ⟨ρ, fps, _, _, S, e1, fun v H1 fps1 fp1 S1 R1 E1 P1 => q σ H1 fps1 SK.refl E1 S1⟩
/-- code that is never come to -/
def fNever : FS := fun _ => none
theorem ds_never : DS X st [] [] fNever := by
  refine ⟨ps_never.imp fun σ H D h => ?_⟩
  obtain ⟨ρ, fps, o, S, e, q⟩ := h
  cases e
theorem db_never : DB X sts [] [] fNever := by
  refine ⟨pss_never.imp fun σ H D h => ?_⟩
  obtain ⟨ρ, fps, o, S, e, q⟩ := h
  cases e

/-! ### stores -/
theorem put_slot {K : PySem.W.Frag} {H : Hp} {σ : L2.St} {ρ : MS} {fps : Fp} {m : M} {v : V} {fp : List Addr} (S : StR K H σ ρ fps) (i : Nat) (R : Rep K H m v fp) (dj : ∀ b ∈ fp, ∀ j, b ∉ fps j) :
    StR K H (σ.set i (some v)) (ρ.set i (some m)) (fun j => if j = i then (if i < ρ.length then fp else []) else fps j) := by
  refine ⟨by rw [List.length_set, List.length_set]; exact S.len, fun j n e => ?_, fun j hj => ?_, fun j k hjk b hb hk => ?_⟩
  · by_cases h : j = i
    · subst h
      by_cases hl : j < ρ.length
      · rw [List.getElem?_set_self hl] at e
        cases e
        exact ⟨v, by rw [List.getElem?_set_self (by rw [S.len]; exact hl)], by simpa [hl] using R⟩
      · rw [List.getElem?_eq_none (by rw [List.length_set]; omega)] at e; cases e
    · rw [List.getElem?_set_ne (Ne.symm h)] at e
      rw [List.getElem?_set_ne (Ne.symm h)]
      simpa [h] using S.slot j n e
  · by_cases h : j = i
    · subst h
      by_cases hl : j < ρ.length
      · exact absurd (List.getElem?_set_self hl) (hj m)
      · simp [hl]
    · simp only [h, if_false]
      refine S.emp j fun n e => hj n ?_
      rw [List.getElem?_set_ne (Ne.symm h)]
      exact e
  · by_cases h : j = i
    · by_cases h' : k = i
      · exact hjk (h.trans h'.symm)
      · simp only [h, h', if_true, if_false] at hb hk
        split at hb
        · exact dj b hb k hk
        · cases hb
    · by_cases h' : k = i
      · simp only [h, h', if_true, if_false] at hb hk
        split at hk
        · exact dj b hk j hb
        · cases hk
      · simp only [h, h', if_false] at hb hk
        exact S.dis j k hjk b hb hk
theorem res_dj {H : Hp} {fps fps' : Fp} {fp : List Addr} (P : Res ws [] H fps fps' fp) : ∀ b ∈ fp, ∀ j, b ∉ fps' j := fun b hb j => by
  rcases P b hb with ⟨i, hi, _⟩ | ⟨q, _⟩
  · cases hi
  · exact q j
theorem put_eff {H H1 : Hp} {fps fps1 : Fp} {fp : List Addr} {i n : Nat} (E : Eff ws H H1 fps fps1) (P : Res ws [] H fps fps1 fp) : Eff (i :: ws) H H1 fps (fun j => if j = i then (if i < n then fp else []) else fps1 j) := by
  refine ⟨fun b o h k => E.keep b o h fun j hj => k j (by simp [hj]), E.live, fun j hj => ?_, fun j hj b hb => ?_⟩
  · have h1 : j ≠ i := fun z => hj (by simp [z])
    simp only [h1, if_false]
    exact E.stay j fun z => hj (by simp [z])
  · by_cases h : j = i
    · simp only [h, if_true] at hb
      split at hb
      · rcases P b hb with ⟨k, hk, _⟩ | ⟨_, ⟨k, hk, z⟩ | z⟩
        · cases hk
        · exact .inl ⟨k, by simp [hk], z⟩
        · exact .inr z
      · cases hb
    · simp only [h, if_false] at hb
      have hj' : j ∈ ws := by
        rcases List.mem_cons.mp hj with z | z
        · exact absurd z h
        · exact z
      rcases E.sub j hj' b hb with ⟨k, hk, z⟩ | z
      · exact .inl ⟨k, by simp [hk], z⟩
      · exact .inr z
theorem set_sk {σ : L2.St} {i : Nat} {v : Option V} : SK [i] σ (σ.set i v) := ⟨List.length_set, fun j hj => by
  rw [List.getElem?_set_ne]
  intro z
  exact hj (by simp [z])⟩
theorem set_core {D : Ends} {σ : L2.St} {H : Hp} {i : Nat} (h : tS X.K [i] (i :: ws) (fSet i f1) D σ H) : tAsg (tE X.K ws [] f1) (gName i) D σ H := by
  obtain ⟨ρ, fps, o, S, e, q⟩ := h
  obtain ⟨⟨m, ρ1⟩, e1, e⟩ := Option.bind_eq_some_iff.mp e
  obtain rfl := Option.some.inj e
  exact ⟨ρ, fps, _, _, S, e1, fun v H1 fps1 fp1 S1 R1 E1 P1 => q _ H1 _ set_sk (put_eff (n := ρ1.length) E1 P1) (put_slot S1 i R1 (res_dj P1))⟩
theorem ds_set {i : Nat} {x : Str} {pos' : Pos} (hN : X.N.Nodup) (h : DE X e ws [] f1) (hi : X.N[i]? = some x := by rfl) (hx : Loc X.env.scope x := by first | exact .inl rfl | exact .inr rfl) (hs : swapsWith e (some (.Name x pos')) pos.line X.env = pure false := by rfl) (hf : X.fn x = true ∨ X.env.scope.names.lookup x = some .local := by first | exact .inl rfl | exact .inr rfl | assumption) :
    DS X (.Assign [.Name x pos'] e pos) [i] (i :: ws) (fSet i f1) := ⟨(ps_set hN hi hx h.pe hs hf).imp fun σ H D h => set_core h⟩

/-! ### targets of data -/
abbrev FG := PyData → MS → Option MS
abbrev FGs := List PyData → MS → Option MS
def tG (K : PySem.W.Frag) (as : List Nat) (g : FG) : TG := fun v σ H Q => ∃ ρ fps x ρ', StR K H σ ρ fps ∧ RepD K H x v ∧ g x ρ = some ρ' ∧
  ∀ σ' fps', StR K H σ' ρ' fps' → SK as σ σ' → Eff as H H fps fps' → Q σ' H
def tGs (K : PySem.W.Frag) (as : List Nat) (g : FGs) : TGs := fun vs σ H Q => ∃ ρ fps xs ρ', StR K H σ ρ fps ∧ RepDs K H xs vs ∧ g xs ρ = some ρ' ∧
  ∀ σ' fps', StR K H σ' ρ' fps' → SK as σ σ' → Eff as H H fps fps' → Q σ' H
structure DG (X : Cx) (tg : Expr) (as : List Nat) (g : FG) : Prop where
  pg : PG X tg (tG X.K as g)
structure DGs (X : Cx) (tg : List Expr) (as : List Nat) (g : FGs) : Prop where
  pg : PGs X tg (tGs X.K as g)
theorem _root_.L2.PG.imp {X : Cx} {e : Expr} {t t' : TG} (h : PG X e t) (k : ∀ v σ H Q, t' v σ H Q → t v σ H Q) : PG X e t' := ⟨fun pins s σ H v u Q I r q => h.run pins s σ H v u Q I r (k v σ H Q q)⟩
theorem _root_.L2.PGs.imp {X : Cx} {e : List Expr} {t t' : TGs} (h : PGs X e t) (k : ∀ v σ H Q, t' v σ H Q → t v σ H Q) : PGs X e t' := ⟨fun pins s σ H v u Q I r q => h.run pins s σ H v u Q I r (k v σ H Q q)⟩
def fGN (i : Nat) : FG := fun x ρ => some (ρ.set i (some (.d x)))
def fGT (n : Nat) (g : FGs) : FG := fun x ρ => match x with
  | .tuple ds => if ds.length = n then g ds ρ else none
  | _ => none
def fGnil : FGs := fun xs ρ => match xs with
  | [] => some ρ
  | _ => none
def fGcons (g : FG) (h : FGs) : FGs := fun xs ρ => match xs with
  | x :: r => (g x ρ).bind fun ρ' => h r ρ'
  | [] => none
variable {g1 : FG} {gs : FGs} {tg : Expr} {tgs : List Expr}
theorem eff_set {H : Hp} {fps : Fp} {i n : Nat} : Eff [i] H H fps (fun j => if j = i then (if i < n then [] else []) else fps j) := put_eff (ws := []) (fp := []) Eff.refl Res.nil
theorem dg_name {i : Nat} {x : Str} {pos' : Pos} (hN : X.N.Nodup) (hi : X.N[i]? = some x := by rfl) (hx : Loc X.env.scope x := by first | exact .inl rfl | exact .inr rfl) (hf : X.fn x = true ∨ X.env.scope.names.lookup x = some .local := by first | exact .inl rfl | exact .inr rfl | assumption) :
    DG X (.Name x pos') [i] (fGN i) := by
  refine ⟨(pg_name hN hi hx hf).imp fun v σ H Q h => ?_⟩
  obtain ⟨ρ, fps, x, ρ', S, R, e, q⟩ := h
  obtain rfl := Option.some.inj e
  exact q _ _ (put_slot S i (m := .d x) ⟨rfl, R⟩ (by simp)) set_sk (eff_set (n := ρ.length))
theorem dgs_nil : DGs X [] [] fGnil := by
  refine ⟨pgs_nil.imp fun v σ H Q h => ?_⟩
  obtain ⟨ρ, fps, xs, ρ', S, R, e, q⟩ := h
  cases xs with
  | nil =>
    obtain rfl := Option.some.inj e
    cases R
    exact ⟨rfl, q σ fps S SK.refl Eff.refl⟩
  | cons _ _ => cases e
theorem dgs_cons (h1 : DG X tg as1 g1) (h2 : DGs X tgs as2 gs) (h : (assignEach (tg :: tgs) X.env).map (·.2) = assign tg X.env :: (assignEach tgs X.env).map (·.2) := by rfl) : DGs X (tg :: tgs) (as1 ++ as2) (fGcons g1 gs) := by
  refine ⟨(pgs_cons h1.pg h2.pg h).imp fun v σ H Q h => ?_⟩
  obtain ⟨ρ, fps, xs, ρ', S, R, e, q⟩ := h
  cases xs with
  | nil => cases e
  | cons x xs =>
    obtain ⟨u, r, rfl, R1, R2⟩ := R
    obtain ⟨ρ1, e1, e⟩ := Option.bind_eq_some_iff.mp e
    exact ⟨u, r, rfl, ρ, fps, x, ρ1, S, R1, e1, fun σ1 fps1 S1 K1 E1 => ⟨ρ1, fps1, xs, ρ', S1, R2, e, fun σ2 fps2 S2 K2 E2 => q σ2 fps2 S2 (K1.trans K2) (E1.trans E2)⟩⟩
theorem dg_tup {n k : Nat} {ppos : Pos} (hc : X.calm = true) (h : DGs X tgs as gs) (hn : (assignEach tgs X.env).length = n := by rfl) (hst : (assignEach tgs X.env).findIdx? (·.1) = none := by rfl) : DG X (.Tuple tgs k ppos) as (fGT n gs) := by
  refine ⟨(pg_tup hc h.pg hn hst).imp fun v σ H Q h => ?_⟩
  obtain ⟨ρ, fps, x, ρ', S, R, e, q⟩ := h
  unfold fGT at e
  split at e
  · split at e
    · rename_i hl
      obtain ⟨a, vs, rfl, hs, r⟩ := R
      exact ⟨a, vs, rfl, hs, r.len.trans hl, ρ, fps, _, _, S, r, e, q⟩
    · cases e
  · cases e
/-- a, b = e -/
def fAsg (f : FE) (g : FG) : FS := fun ρ => (f ρ).bind fun p => p.1.dat.bind fun x => (g x p.2).bind fun ρ' => some (.nx ρ')
theorem ds_asg (ha : DE X e ws vs f1) (hg : DG X tg as g1) (hs : swapsWithSole [tg] e pos.line X.env = pure false := by rfl) (hw : swappedStores [tg] e X.env = pure none := by rfl)
    (h1 : (assignEach [tg] X.env).map (·.2) = [assign tg X.env] := by rfl) : DS X (.Assign [tg] e pos) as (ws ++ as) (fAsg f1 g1) := by
  refine ⟨(ps_asg ha.pe hg.pg hs hw h1).imp fun σ H D h => ?_⟩
  obtain ⟨ρ, fps, o, S, e, q⟩ := h
  obtain ⟨⟨m, ρ1⟩, e1, e⟩ := Option.bind_eq_some_iff.mp e
  obtain ⟨x, e2, e⟩ := Option.bind_eq_some_iff.mp e
  obtain ⟨ρ2, e3, e⟩ := Option.bind_eq_some_iff.mp e
  obtain rfl := Option.some.inj e
  exact ⟨ρ, fps, _, _, S, e1, fun v H1 fps1 fp1 S1 R1 E1 P1 => ⟨_, fps1, x, ρ2, S1, (dat_rep e2 R1).2, e3, fun σ' fps' S' K' E' => q σ' H1 fps' K' (E1.trans E') S'⟩⟩

/-! ### xs[i] = e, xs a name's list -/
theorem Reps.set {K : PySem.W.Frag} {H : Hp} {m : M} {v : V} {fp : List Addr} (R : Rep K H m v fp) : ∀ {ms : List M} {vs : List V} {fq : List Addr} (j : Nat), Reps K H ms vs fq → (∀ b ∈ fp, b ∉ fq) →
    ∃ fr, Reps K H (ms.set j m) (vs.set j v) fr ∧ ∀ b ∈ fr, b ∈ fq ∨ b ∈ fp
  | [], _, _, j, h, _ => by
    obtain ⟨rfl, rfl⟩ := h
    exact ⟨[], ⟨rfl, rfl⟩, by simp⟩
  | x :: ms, _, _, 0, h, dj => by
    obtain ⟨u, r, f1, f2, rfl, rfl, n, h1, h2⟩ := h
    exact ⟨fp ++ f2, ⟨v, r, fp, f2, rfl, rfl, fun b hb hc => dj b hb (by simp [hc]), R, h2⟩, fun b hb => by
      rcases List.mem_append.mp hb with hb | hb
      · exact .inr hb
      · exact .inl (by simp [hb])⟩
  | x :: ms, _, _, j + 1, h, dj => by
    obtain ⟨u, r, f1, f2, rfl, rfl, n, h1, h2⟩ := h
    obtain ⟨fr, h3, h4⟩ := Reps.set R j h2 fun b hb hc => dj b hb (by simp [hc])
    refine ⟨f1 ++ fr, ⟨u, _, f1, fr, rfl, rfl, fun b hb hc => ?_, h1, h3⟩, fun b hb => ?_⟩
    · rcases h4 b hc with z | z
      · exact n b hb z
      · exact dj b z (by simp [hb])
    · rcases List.mem_append.mp hb with hb | hb
      · exact .inl (by simp [hb])
      · rcases h4 b hb with z | z
        · exact .inl (by simp [z])
        · exact .inr z
theorem Reps.app {K : PySem.W.Frag} {H : Hp} : ∀ {ms ns : List M} {vs us : List V} {fp fq : List Addr}, Reps K H ms vs fp → Reps K H ns us fq → (∀ b ∈ fp, b ∉ fq) → Reps K H (ms ++ ns) (vs ++ us) (fp ++ fq)
  | [], _, _, _, _, _, h, k, _ => by obtain ⟨rfl, rfl⟩ := h; exact k
  | x :: ms, _, _, _, _, _, h, k, dj => by
    obtain ⟨u, r, f1, f2, rfl, rfl, n, h1, h2⟩ := h
    refine ⟨u, _, f1, _, rfl, List.append_assoc _ _ _, fun b hb hc => ?_, h1, Reps.app h2 k fun b hb => dj b (by simp [hb])⟩
    rcases List.mem_append.mp hc with z | z
    · exact n b hb z
    · exact dj b (by simp [hb]) z
/-- the object at a slot's root is changed -/
theorem mut_slot {K : PySem.W.Frag} {H : Hp} {σ : L2.St} {ρ : MS} {fps : Fp} {i : Nat} {a : Addr} {fq fp : List Addr} {o : HO} {m m' : M} (S : StR K H σ ρ fps) (hi : ρ[i]? = some (some m)) (hv : σ[i]? = some (some (.ref a))) (hf : fps i = a :: fq)
    (ha : ∃ u, H a = some u ∧ Mut (some u)) (dj : ∀ b ∈ fp, ∀ j, b ∉ fps j) {fr : List Addr} (hr : ∀ b ∈ fr, b ∈ fq ∨ b ∈ fp) (kp : Kp H (upd H a o) → Rep K (upd H a o) m' (.ref a) (a :: fr)) :
    StR K (upd H a o) σ (ρ.set i (some m')) (fun j => if j = i then a :: fr else fps j) := by
  have hlt : i < ρ.length := (List.getElem?_eq_some_iff.mp hi).1
  have kp0 : Kp H (upd H a o) := fun b u e n => by
    obtain ⟨w, e', mu⟩ := ha
    rw [upd_ne]
    · exact e
    · rintro rfl
      rw [e] at e'; cases e'
      exact n mu
  have oth : ∀ j, j ≠ i → ∀ b ∈ fps j, b ≠ a := fun j hj b hb z => S.dis j i hj b hb (by rw [hf, z]; simp)
  have sub : ∀ b ∈ a :: fr, b ∈ fps i ∨ b ∈ fp := fun b hb => by
    rw [hf]
    rcases List.mem_cons.mp hb with z | z
    · exact .inl (by simp [z])
    · rcases hr b z with z | z
      · exact .inl (by simp [z])
      · exact .inr z
  refine ⟨by rw [List.length_set]; exact S.len, fun j n e => ?_, fun j hj => ?_, fun j k hjk b hb hk => ?_⟩
  · by_cases h : j = i
    · subst h
      rw [List.getElem?_set_self hlt] at e
      cases e
      exact ⟨_, hv, by simpa using kp kp0⟩
    · rw [List.getElem?_set_ne (Ne.symm h)] at e
      obtain ⟨v, h1, h2⟩ := S.slot j n e
      exact ⟨v, h1, by simpa [h] using Rep.mono kp0 n h2 fun b hb => upd_ne (oth j h b hb)⟩
  · by_cases h : j = i
    · subst h
      exact absurd (List.getElem?_set_self hlt) (hj m')
    · simp only [h, if_false]
      refine S.emp j fun n e => hj n ?_
      rw [List.getElem?_set_ne (Ne.symm h)]
      exact e
  · by_cases h : j = i
    · by_cases h' : k = i
      · exact hjk (h.trans h'.symm)
      · simp only [h, h', if_true, if_false] at hb hk
        rcases sub b hb with z | z
        · exact S.dis i k (fun w => h' w.symm) b z hk
        · exact dj b z k hk
    · by_cases h' : k = i
      · simp only [h, h', if_true, if_false] at hb hk
        rcases sub b hk with z | z
        · exact S.dis i j (fun w => h w.symm) b z hb
        · exact dj b z j hb
      · simp only [h, h', if_false] at hb hk
        exact S.dis j k hjk b hb hk
theorem mut_eff {ws : List Nat} {H H1 : Hp} {fps fps1 : Fp} {fp fq fr : List Addr} {i : Nat} {a : Addr} {o : HO} (E : Eff ws H H1 fps fps1) (hf : fps1 i = a :: fq) (P : Res ws [] H fps fps1 fp) (hr : ∀ b ∈ fr, b ∈ fq ∨ b ∈ fp) :
    Eff (ws ++ [i]) H (upd H1 a o) fps (fun j => if j = i then a :: fr else fps1 j) := by
  have old : ∀ b ∈ fps1 i, (∃ j ∈ ws ++ [i], b ∈ fps j) ∨ H b = none := fun b hb => by
    by_cases h : i ∈ ws
    · rcases E.sub i h b hb with ⟨j, hj, z⟩ | z
      · exact .inl ⟨j, by simp [hj], z⟩
      · exact .inr z
    · rw [E.stay i h] at hb
      exact .inl ⟨i, by simp, hb⟩
  refine ⟨fun b u h k => ?_, fun b h => E.live b ?_, fun j hj => ?_, fun j hj b hb => ?_⟩
  · have h1 := E.keep b u h fun j hj => k j (by simp [hj])
    rw [upd_ne]
    · exact h1
    · intro z
      subst z
      rcases old b (by rw [hf]; simp) with ⟨j, hj, w⟩ | w
      · exact k j hj w
      · rw [h] at w; cases w
  · by_cases z : b = a
    · subst z; rw [upd_same] at h; cases h
    · rw [upd_ne z] at h; exact h
  · have h1 : j ≠ i := fun z => hj (by simp [z])
    simp only [h1, if_false]
    exact E.stay j fun z => hj (by simp [z])
  · by_cases h : j = i
    · simp only [h, if_true] at hb
      rcases List.mem_cons.mp hb with z | z
      · exact old b (by rw [hf, z]; simp)
      · rcases hr b z with z | z
        · exact old b (by rw [hf]; simp [z])
        · rcases P b z with ⟨k, hk, _⟩ | ⟨_, ⟨k, hk, w⟩ | w⟩
          · cases hk
          · exact .inl ⟨k, by simp [hk], w⟩
          · exact .inr w
    · simp only [h, if_false] at hb
      have hj' : j ∈ ws := by
        rcases List.mem_append.mp hj with z | z
        · exact z
        · exact absurd (by simpa using z) h
      rcases E.sub j hj' b hb with ⟨k, hk, z⟩ | z
      · exact .inl ⟨k, by simp [hk], z⟩
      · exact .inr z
def M.lst? : M → Option (List M)
  | .lst ms => some ms
  | _ => none
theorem M.lst_eq {m : M} {ms : List M} (h : m.lst? = some ms) : m = .lst ms := by
  cases m <;> simp [M.lst?] at h
  rw [h]
/-- xs[k] = e -/
def fPut (i : Nat) (f h : FE) : FS := fun ρ => (f ρ).bind fun p => (sl p.2 i).bind fun _ => (h p.2).bind fun q => q.1.int.bind fun k => (sl q.2 i).bind fun m => m.lst?.bind fun ms => (ixN ms.length k).bind fun j => some (.nx (q.2.set i (some (.lst (ms.set j p.1)))))
theorem ds_put (i : Nat) {x : Str} {xp tp : Pos} (he : DE X e ws1 [] f1) (hi' : DE X b ws2 vs2 f2) (hN : X.N[i]? = some x := by rfl) (hv : Vis X.env.scope x := by first | exact Or.inl rfl | exact Or.inr (Or.inl rfl) | exact Or.inr (Or.inr rfl))
    (hd : (x == ("__debug__" : Str)) = false := by decide) (hcd : (x == ("__classdict__" : Str)) = false := by decide)
    (ha : ∀ v, assign (.Subscript (.Name x xp) b tp) X.env v = (do
      let ov ← holding [v] (eval (.Name x xp) X.env)
      let iv ← holding [v, ov] (eval b X.env)
      standAt tp
      holding [v, ov, iv] (setItem ov iv v)
      release [v, ov, iv] []) := by intro _; rfl) (hs : swapsWithSole [.Subscript (.Name x xp) b tp] e pos.line X.env = pure false := by rfl) (hw : swappedStores [.Subscript (.Name x xp) b tp] e X.env = pure none := by rfl)
    (h1 : (assignEach [.Subscript (.Name x xp) b tp] X.env).map (·.2) = [assign (.Subscript (.Name x xp) b tp) X.env] := by rfl) :
    DS X (.Assign [.Subscript (.Name x xp) b tp] e pos) [] (ws1 ++ (ws2 ++ [i])) (fPut i f1 f2) := by
  refine ⟨(ps_asg he.pe (pg_sub (pe_var hN hv hd hcd) hi'.pe set_list ha) hs hw h1).imp fun σ H D h => ?_⟩
  obtain ⟨ρ, fps, o, S, e, q⟩ := h
  obtain ⟨⟨m1, ρ1⟩, e1, e⟩ := Option.bind_eq_some_iff.mp e
  obtain ⟨m0, e0, e⟩ := Option.bind_eq_some_iff.mp e
  obtain ⟨⟨m2, ρ2⟩, e2, e⟩ := Option.bind_eq_some_iff.mp e
  obtain ⟨k, e3, e⟩ := Option.bind_eq_some_iff.mp e
  obtain ⟨m, e4, e⟩ := Option.bind_eq_some_iff.mp e
  obtain ⟨ms, e5, e⟩ := Option.bind_eq_some_iff.mp e
  obtain ⟨j, e6, e⟩ := Option.bind_eq_some_iff.mp e
  obtain rfl := Option.some.inj e
  obtain rfl := M.int_eq e3
  obtain rfl := M.lst_eq e5
  refine ⟨ρ, fps, _, _, S, e1, fun v H1 fps1 fp1 S1 R1 E1 P1 => ?_⟩
  obtain ⟨w0, hw0, _⟩ := S1.slot i _ (sl_eq e0)
  refine ⟨w0, hw0, ρ1, fps1, _, _, S1, e2, fun u H2 fps2 fp2 S2 R2 E2 P2 => ?_⟩
  · have hi := sl_eq e4
    obtain ⟨w, hw, R⟩ := S2.slot i _ hi
    obtain ⟨a, vs, fq, rfl, hf, hH, na, r⟩ := R
    obtain rfl : w0 = .ref a := by rw [hw0] at hw; cases hw; rfl
    refine ⟨a, vs, k, j, rfl, R2.2, hH, by rw [r.len]; exact e6, ?_⟩
    have al := Rep.alive m1 R1
    have kept := P1.kept S1 al E2 (by simp)
    have P1' := P1.carry S1 al E2 (by simp)
    have dj := res_dj P1'
    have R1' := Rep.mono (E2.kp S1) m1 R1 kept
    have djq : ∀ b ∈ fp1, b ∉ a :: fq := fun b hb => by rw [← hf]; exact dj b hb i
    obtain ⟨fr, rr, hr⟩ := Reps.set R1' j r fun b hb hc => djq b hb (by simp [hc])
    have nfr : a ∉ fr := fun z => by
      rcases hr a z with z | z
      · exact na z
      · exact djq a z (by simp)
    have S3 := mut_slot (o := .lst (vs.set j v)) (m' := .lst (ms.set j m1)) S2 hi hw hf ⟨_, hH, trivial⟩ dj hr fun kp0 => ⟨a, vs.set j v, fr, rfl, rfl, upd_same, nfr, Reps.mono kp0 _ rr fun b hb => upd_ne fun z => nfr (z ▸ hb)⟩
    have E := mut_eff (o := .lst (vs.set j v)) (E1.trans E2) hf P1' hr
    exact q σ _ _ SK.refl (E.weak (by simp)) S3
/-- xs.append(e) -/
def fApp (i : Nat) (f : FE) : FE := fun ρ => (sl ρ i).bind fun m0 => m0.lst?.bind fun _ => (f ρ).bind fun p => (sl p.2 i).bind fun m => m.lst?.bind fun ms => if ms.length < sizeLine then some (.d .none, p.2.set i (some (.lst (ms ++ [p.1])))) else none
theorem de_app (i : Nat) {x : Str} {xp apos : Pos} (he : DE X e ws [] f1) (hN : X.N[i]? = some x := by rfl) (hv : Vis X.env.scope x := by first | exact Or.inl rfl | exact Or.inr (Or.inl rfl) | exact Or.inr (Or.inr rfl))
    (hd : (x == ("__debug__" : Str)) = false := by decide) (hcd : (x == ("__classdict__" : Str)) = false := by decide)
    (hbase : attributeBase (.Name x xp) "append" X.env (eval (.Name x xp) X.env) = eval (.Name x xp) X.env := by rfl)
    (hfew : ((backTo pos (starEach [e] X.env)).all (fun x => !x.1) && (backToKw pos (keywordEach [] X.env)).all (fun x => x.1.isSome)
      && decide ([e].length + ([] : List Keyword).length + (if ([] : List Keyword).isEmpty then 0 else 1) < 30)) = true := by rfl)
    (hline : (apos.endLine == pos.line) = true := by rfl) (hs : starEach [e] X.env = (false, eval e X.env) :: starEach [] X.env := by rfl) (hplain : (backTo pos (starEach [] X.env)).any (·.1) = false := by rfl) :
    DE X (.Call (.Attribute (.Name x xp) "append" apos) [e] [] pos) (ws ++ [i]) [] (fApp i f1) := by
  refine ⟨(pe_bm PySem.F.plainAttrs_list PySem.F.slot_list_append PySem.F.type_list_append mt_append (pe_var hN hv hd hcd) (pa_cons he.pe pa_nil hs) hbase hfew hline hs hplain).imp fun σ H Q h => ?_⟩
  obtain ⟨ρ, fps, m, ρ', S, e, q⟩ := h
  obtain ⟨m0, e0, e⟩ := Option.bind_eq_some_iff.mp e
  obtain ⟨ms0, e00, e⟩ := Option.bind_eq_some_iff.mp e
  obtain ⟨⟨m1, ρ1⟩, e1, e⟩ := Option.bind_eq_some_iff.mp e
  obtain ⟨m2, e4, e⟩ := Option.bind_eq_some_iff.mp e
  obtain ⟨ms, e5, e⟩ := Option.bind_eq_some_iff.mp e
  split at e
  · rename_i hz
    obtain ⟨rfl, rfl⟩ := Prod.mk.inj (Option.some.inj e)
    obtain rfl := M.lst_eq e5
    obtain rfl := M.lst_eq e00
    obtain ⟨w0, hw0, a0, vs0, fq0, rfl, _, hH0, _⟩ := S.slot i _ (sl_eq e0)
    refine ⟨_, hw0, .inl ⟨rfl, _, SqL.of hH0⟩, ρ, fps, _, _, S, e1, fun v H1 fps1 fp1 S1 R1 E1 P1 => ?_⟩
    have hi := sl_eq e4
    obtain ⟨w, hw, R⟩ := S1.slot i _ hi
    obtain ⟨a, vs, fq, rfl, hf, hH, na, r⟩ := R
    obtain rfl : a0 = a := by rw [hw0] at hw; cases hw; rfl
    refine ⟨a0, vs, v, rfl, rfl, hH, by rw [r.len]; exact hz, ?_⟩
    have dj := res_dj P1
    have djq : ∀ b ∈ fp1, b ∉ a0 :: fq := fun b hb => by rw [← hf]; exact dj b hb i
    have rr : Reps X.K H1 (ms ++ [m1]) (vs ++ [v]) (fq ++ fp1) := Reps.app r ⟨v, [], fp1, [], rfl, by simp, by simp, R1, rfl, rfl⟩ fun b hb hc => djq b hc (by simp [hb])
    have hr : ∀ b ∈ fq ++ fp1, b ∈ fq ∨ b ∈ fp1 := fun b hb => by simpa using hb
    have nfr : a0 ∉ fq ++ fp1 := fun z => by
      rcases hr a0 z with z | z
      · exact na z
      · exact djq a0 z (by simp)
    have S3 := mut_slot (o := .lst (vs ++ [v])) (m' := .lst (ms ++ [m1])) S1 hi hw hf ⟨_, hH, trivial⟩ dj hr fun kp0 => ⟨a0, vs ++ [v], _, rfl, rfl, upd_same, nfr, Reps.mono kp0 _ rr fun b hb => upd_ne fun z => nfr (z ▸ hb)⟩
    have E := mut_eff (o := .lst (vs ++ [v])) E1 hf P1 hr
    exact q .non _ _ [] S3 ⟨rfl, rfl⟩ E Res.nil
  · cases e

/-! ### while -/
def whl (t : FT) (f : FS) : Nat → MS → Option O
  | 0, _ => none
  | n + 1, ρ => (t ρ).bind fun p => if p.1 = true then (f p.2).bind fun o => (match o with
    | .nx ρ' => whl t f n ρ'
    | .ct ρ' => whl t f n ρ'
    | .bk ρ' => some (.nx ρ')
    | .rt m ρ' => some (.rt m ρ')) else some (.nx p.2)
def fWhile (n : Nat) (t : FT) (f : FS) : FS := whl t f n
theorem ds_while (n : Nat) {body : List Stmt} (hp : PassesOwn (model X.prog X.w) X.A X.env X.xe) (hc : DT X e wt t) (hb : DB X body as ws f) : DS X (.While e body [] pos) as (wt ++ ws) (fWhile n t f) := by
  refine ⟨(ps_while hp hc.pt hb.ps).imp fun σ0 H0 D h => ?_⟩
  obtain ⟨ρ0, fps0, o, S0, e0, q⟩ := h
  refine ⟨fun m σ H => ∃ ρ fps, StR X.K H σ ρ fps ∧ whl t f m ρ = some o ∧ SK as σ0 σ ∧ Eff (wt ++ ws) H0 H fps0 fps, ⟨n, ρ0, fps0, S0, e0, SK.refl, Eff.refl⟩, ?_⟩
  rintro m σ H ⟨ρ, fps, S, ee, k, E⟩
  cases m with
  | zero => cases ee
  | succ m =>
    obtain ⟨⟨c, ρ1⟩, e1, ee⟩ := Option.bind_eq_some_iff.mp ee
    refine ⟨ρ, fps, _, _, S, e1, fun H1 fps1 S1 E1 => ?_⟩
    have wk : ∀ i ∈ (wt ++ ws) ++ wt, i ∈ wt ++ ws := by simp; intro i hi; rcases hi with z | z | z <;> simp [z]
    have E01 := (E.trans E1).weak wk
    have wk2 : ∀ i ∈ (wt ++ ws) ++ ws, i ∈ wt ++ ws := by simp
    have wk3 : ∀ i ∈ as ++ as, i ∈ as := by simp
    cases c with
    | true =>
      refine iteT ?_
      rw [if_pos rfl] at ee
      obtain ⟨o1, e2, ee⟩ := Option.bind_eq_some_iff.mp ee
      refine ⟨fun σ' H' => ∃ ρ fps, StR X.K H' σ' ρ fps ∧ whl t f m ρ = some o ∧ SK as σ0 σ' ∧ Eff (wt ++ ws) H0 H' fps0 fps, fun σ' H' z => ⟨m, Nat.lt_succ_self m, z⟩, ρ1, fps1, o1, S1, e2, fun σ2 H2 fps2 k2 E2 => ?_⟩
      have E02 := (E01.trans E2).weak wk2
      have k02 := (k.trans k2).weak wk3
      cases o1 with
      | nx ρ2 => exact fun S2 => ⟨ρ2, fps2, S2, ee, k02, E02⟩
      | ct ρ2 => exact fun S2 => ⟨ρ2, fps2, S2, ee, k02, E02⟩
      | bk ρ2 =>
        obtain rfl := Option.some.inj ee
        exact q σ2 H2 fps2 k02 E02
      | rt m2 ρ2 =>
        obtain rfl := Option.some.inj ee
        exact fun v fp S2 R2 P2 => q σ2 H2 fps2 k02 E02 v fp S2 R2 ((Res.later E01 P2).weak wk2)
    | false =>
      refine iteF ?_
      rw [if_neg Bool.false_ne_true] at ee
      obtain rfl := Option.some.inj ee
      exact q σ H1 fps1 k E01 S1
end
end DL
namespace DL
open L2 PySem.Spec PySem PyProof.Rows

/-! ### what is walked -/
abbrev FI := MS → Option (List PyData × MS)
def tI (K : PySem.W.Frag) (ws vs : List Nat) (src : FI) : TI := fun σ H R => ∃ ρ fps ds ρ', StR K H σ ρ fps ∧ src ρ = some (ds, ρ') ∧
  ∀ (J : It) (H' : Hp) (fps' : Fp) (fp : List Addr) (G : Hp → Prop) (Y : Nat → Hp → V → Hp → Prop), StR K H' σ ρ' fps' → Eff ws H H' fps fps' → Res ws vs H fps fps' fp → (∀ b ∈ fp, ∃ o, H' b = some o ∧ Mut (some o)) →
    Walk J ds.length G Y → (∀ H1, Kp H' H1 → (∀ b ∈ fp, H1 b = H' b) → G H1) → (∀ i H1 x H2, Kp H' H1 → Y i H1 x H2 → ∃ d, ds[i]? = some d ∧ RepD K H2 d x ∧ Same H1 H2) → R J H'
structure DI (X : Cx) (tg iter : Expr) (ws vs : List Nat) (src : FI) : Prop where
  pi : PI X tg iter (tI X.K ws vs src)
theorem _root_.L2.PI.imp {X : Cx} {tg iter : Expr} {t t' : TI} (h : PI X tg iter t) (k : ∀ σ H R, t' σ H R → t σ H R) : PI X tg iter t' := ⟨fun pins s σ H R I q => h.run pins s σ H R I (k σ H R q)⟩

def forL (g : FG) (f : FS) : List PyData → MS → Option O
  | [], ρ => some (.nx ρ)
  | x :: xs, ρ => (g x ρ).bind fun ρ1 => (f ρ1).bind fun o => match o with
    | .nx ρ' => forL g f xs ρ'
    | .ct ρ' => forL g f xs ρ'
    | .bk ρ' => some (.nx ρ')
    | .rt m ρ' => some (.rt m ρ')
def fFor (src : FI) (g : FG) (f : FS) : FS := fun ρ => (src ρ).bind fun p => forL g f p.1 p.2

section
variable {X : Cx} {e a b tg iter : Expr} {sts : List Stmt} {ws vs wi vi ws1 ws2 wt vs1 vs2 as ag as1 as2 : List Nat} {f1 f2 : FE} {f : FS} {g : FG} {t : FT} {src : FI} {pos p2 : Pos}
theorem drop_get {α : Type} {l : List α} {i : Nat} {x : α} (h : l[i]? = some x) : l.drop i = x :: l.drop (i + 1) := by
  obtain ⟨h1, h2⟩ := List.getElem?_eq_some_iff.mp h
  rw [List.drop_eq_getElem_cons h1, h2]
theorem ds_for (hp : PassesOwn (model X.prog X.w) X.A X.env X.xe) (hc : X.calm = true) (hi : DI X tg iter wi vi src) (hg : DG X tg ag g) (hb : DB X sts as ws f) (hv : ∀ i ∈ vi, i ∉ ag ++ ws := by decide)
    (hs : ∀ x, foldedSetIterable iter X.env x = pure x := by intro _; rfl) : DS X (.For tg iter sts [] pos) (ag ++ as) (wi ++ (ag ++ ws)) (fFor src g f) := by
  refine ⟨(ps_for hp hc hi.pi hg.pg hb.ps hs).imp fun σ0 H0 D h => ?_⟩
  obtain ⟨ρ0, fps0, o, S0, e, q⟩ := h
  obtain ⟨⟨ds, ρ1⟩, e1, e⟩ := Option.bind_eq_some_iff.mp e
  refine ⟨ρ0, fps0, ds, ρ1, S0, e1, fun J H1 fps1 fp G Y S1 E1 P1 al w hG hY => ?_⟩
  have keptL : ∀ {H : Hp} {fps : Fp}, Eff (ag ++ ws) H1 H fps1 fps → ∀ b ∈ fp, H b = H1 b := fun E => P1.kept S1 al E hv
  refine for_it w (fun i σ H => ∃ ρ fps, StR X.K H σ ρ fps ∧ forL g f (ds.drop i) ρ = some o ∧ SK (ag ++ as) σ0 σ ∧ Eff (ag ++ ws) H1 H fps1 fps)
    ⟨ρ1, fps1, S1, e, SK.refl, Eff.refl⟩ (fun i σ H hi ⟨ρ, fps, S, ee, k, E⟩ => hG H (E.kp S1) (keptL E)) ?_ ?_
  · rintro i x σ H H' hi ⟨ρ, fps, S, ee, k, E⟩ y
    obtain ⟨d, hd, rd, sm⟩ := hY i H x H' (E.kp S1) y
    rw [drop_get hd] at ee
    obtain ⟨ρ2, e2, ee⟩ := Option.bind_eq_some_iff.mp ee
    obtain ⟨o2, e3, ee⟩ := Option.bind_eq_some_iff.mp ee
    have E' := (E.trans (Eff.of_same (fps := fps) sm))
    rw [List.append_nil] at E'
    refine ⟨ρ, fps, d, ρ2, S.same sm, rd, e2, fun σ2 fps2 S2 k2 E2 => ⟨ρ2, fps2, o2, S2, e3, fun σ3 H3 fps3 k3 E3 => ?_⟩⟩
    have E13 : Eff (ag ++ ws) H1 H3 fps1 fps3 := ((E'.trans E2).trans E3).weak (by simp; intro i hi; rcases hi with z | z | z | z <;> simp [z])
    have k13 : SK (ag ++ as) σ0 σ3 := ((k.trans k2).trans k3).weak (by simp; intro i hi; rcases hi with z | z | z | z <;> simp [z])
    cases o2 with
    | nx ρ3 => exact fun S3 => ⟨ρ3, fps3, S3, ee, k13, E13⟩
    | ct ρ3 => exact fun S3 => ⟨ρ3, fps3, S3, ee, k13, E13⟩
    | bk ρ3 =>
      obtain rfl := Option.some.inj ee
      exact q σ3 H3 fps3 k13 (E1.trans E13)
    | rt m ρ3 =>
      obtain rfl := Option.some.inj ee
      refine fun v fp S3 R3 P3 => q σ3 H3 fps3 k13 (E1.trans E13) v fp S3 R3 ?_
      have P := Res.later ((E1.trans E').trans E2) P3
      exact P.weak (by simp; intro i hi; rcases hi with z | z | z | z | z <;> simp [z])
  · rintro σ H ⟨ρ, fps, S, ee, k, E⟩
    rw [List.drop_length] at ee
    obtain rfl := Option.some.inj ee
    exact q σ H fps k (E1.trans E) S

/-! ### sources -/
/-- the items of a list, a tuple -/
def M.its : M → Option (List PyData)
  | .lst ms => allD ms
  | .d (.list ds) => some ds
  | .d (.tuple ds) => some ds
  | .bt ds => some ds
  | _ => none
def fIS (f : FE) : FI := fun ρ => (f ρ).bind fun p => p.1.its.bind fun ds => some (ds, p.2)
theorem its_rep {K : PySem.W.Frag} {H : Hp} {m : M} {v : V} {fp : List Addr} {ds : List PyData} (R : Rep K H m v fp) (e : m.its = some ds) :
    ∃ a vs, v = .ref a ∧ RepDs K H ds vs ∧ ((SqL K H a vs ∧ ∀ H1, Kp H H1 → (∀ b ∈ fp, H1 b = H b) → SqL K H1 a vs) ∨ (SqT K H a vs ∧ ∀ H1, Kp H H1 → (∀ b ∈ fp, H1 b = H b) → SqT K H1 a vs)) := by
  unfold M.its at e
  split at e
  · obtain ⟨a, vs, rfl, rfl, ha, r⟩ := lst_rep e R
    exact ⟨a, vs, rfl, r, .inl ⟨SqL.of ha, fun H1 _ k => SqL.of ((k a (by simp)).trans ha)⟩⟩
  · obtain rfl := Option.some.inj e
    obtain ⟨rfl, a, vs, rfl, ha, r⟩ := R
    exact ⟨a, vs, rfl, r, .inl ⟨ha.sq, fun H1 kp _ => (ha.kp kp).sq⟩⟩
  · obtain rfl := Option.some.inj e
    obtain ⟨rfl, a, vs, rfl, ha, r⟩ := R
    exact ⟨a, vs, rfl, r, .inr ⟨ha, fun H1 kp _ => sqT_kp kp ha⟩⟩
  · obtain rfl := Option.some.inj e
    obtain ⟨rfl, a, vs, rfl, ha, r⟩ := R
    exact ⟨a, vs, rfl, r, .inr ⟨ha.sq, fun H1 kp _ => sqT_kp kp ha.sq⟩⟩
  · cases e
def iSeq (K : PySem.W.Frag) (tl : TE) : TI := fun σ H R => tl σ H fun x H1 => ∃ a xs, x = .ref a ∧ ((SqL K H1 a xs ∧ R (Itl K a) H1) ∨ (SqT K H1 a xs ∧ R (Itt K a) H1))
theorem pi_seq {X : Cx} {tg l : Expr} {tl : TE} (hl : PE X l tl) : PI X tg l (iSeq X.K tl) := by
  refine ⟨fun pins s σ H R I h => ?_⟩
  refine thn (hl.run pins s σ H _ I h) fun v s1 ⟨x, H1, I1, r1, q1⟩ => ?_
  obtain ⟨a, xs, e, q⟩ := q1
  subst e
  cases r1
  have fresh : ∀ b ∈ [s1.heap.objs.size], FpOk X pins H1 b := fun b hb => by
    have e : b = s1.heap.objs.size := by simpa using hb
    subst e
    exact I1.fpOk (Nat.le_refl _) (I1.hok.fresh (Nat.le_refl _))
  rcases q with ⟨hq, q⟩ | ⟨hq, q⟩
  · obtain ⟨its, rv, p, hz⟩ := I1.list hq
    refine wpAny_pyIter_list p.isList ?_
    exact ⟨s1.heap.objs.size, [s1.heap.objs.size], _, _, H1, rfl, I1.kept (t' := s1.toks) fun b o e => Heap.get?_push_of_some _ e, turn_list a _, ⟨_, Heap.get?_push_size _ rfl, rfl, rfl⟩, fresh, q⟩
  · obtain ⟨its, rv, p, hz⟩ := I1.tuple hq
    refine wpAny_pyIter_tuple (show s1.heap.IsTuple a its.toArray from p) ?_
    exact ⟨s1.heap.objs.size, [s1.heap.objs.size], _, _, H1, rfl, I1.kept (t' := s1.toks) fun b o e => Heap.get?_push_of_some _ e, turn_tuple a _, ⟨_, Heap.get?_push_size _ rfl, rfl, rfl⟩, fresh, q⟩
theorem y_at {K : PySem.W.Frag} {H' : Hp} {ds : List PyData} {vs : List V} (r : RepDs K H' ds vs) : ∀ (i : Nat) (H1 : Hp) (x : V) (H2 : Hp), Kp H' H1 → YAt vs i H1 x H2 → ∃ d, ds[i]? = some d ∧ RepD K H2 d x ∧ Same H1 H2 := fun i H1 x H2 kp y => by
  obtain ⟨rfl, hx⟩ := y
  have hl : i < vs.length := (List.getElem?_eq_some_iff.mp hx).1
  have hl' : i < ds.length := by rw [← r.len]; exact hl
  obtain ⟨v, e1, rd⟩ := r.get (List.getElem?_eq_getElem hl')
  rw [hx] at e1
  obtain rfl := Option.some.inj e1
  exact ⟨_, List.getElem?_eq_getElem hl', RepD.kp kp _ _ rd, Same.refl _⟩
theorem di_seq (h : DE X a ws vs f1) : DI X tg a ws vs (fIS f1) := by
  refine ⟨(pi_seq h.pe).imp fun σ H R q => ?_⟩
  obtain ⟨ρ, fps, ds, ρ', S, e, q⟩ := q
  obtain ⟨⟨m, ρ1⟩, e1, e⟩ := Option.bind_eq_some_iff.mp e
  obtain ⟨xs, e2, e⟩ := Option.bind_eq_some_iff.mp e
  obtain ⟨rfl, rfl⟩ := Prod.mk.inj (Option.some.inj e)
  refine ⟨ρ, fps, m, ρ1, S, e1, fun v H1 fps1 fp1 S1 R1 E1 P1 => ?_⟩
  obtain ⟨b, us, rfl, r, hs⟩ := its_rep R1 e2
  rcases hs with ⟨hs, st⟩ | ⟨hs, st⟩
  · exact ⟨b, us, rfl, .inl ⟨hs, q _ H1 fps1 fp1 _ _ S1 E1 P1 (Rep.alive m R1) (by rw [← r.len]; exact walk_list (xs := us)) st (y_at r)⟩⟩
  · exact ⟨b, us, rfl, .inr ⟨hs, q _ H1 fps1 fp1 _ _ S1 E1 P1 (Rep.alive m R1) (by rw [← r.len]; exact walk_tup (xs := us)) st (y_at r)⟩⟩
/-- range(n), range(a, b) -/
def rangeD (lo : Int) (n : Nat) : List PyData := (List.range n).map fun i : Nat => .int (lo + (i : Int))
def fR1 (f : FE) : FI := fun ρ => (f ρ).bind fun p => p.1.int.bind fun j => if -(2 ^ 62) ≤ j ∧ j < 2 ^ 62 then some (rangeD 0 j.toNat, p.2) else none
def fR2 (f h : FE) : FI := fun ρ => (f ρ).bind fun p => p.1.int.bind fun i => (h p.2).bind fun q => q.1.int.bind fun j => if -(2 ^ 62) ≤ i ∧ i < 2 ^ 62 ∧ -(2 ^ 62) ≤ j ∧ j < 2 ^ 62 then some (rangeD i (j - i).toNat, q.2) else none
theorem rangeD_len (lo : Int) (n : Nat) : (rangeD lo n).length = n := by simp [rangeD]
theorem y_range {K : PySem.W.Frag} {H' : Hp} {lo : Int} {n : Nat} : Walk (Itr lo n) (rangeD lo n).length (fun _ => True) (fun i H x H' => i < n ∧ H' = H ∧ x = .int (lo + i)) ∧
    ∀ (i : Nat) (H1 : Hp) (x : V) (H2 : Hp), Kp H' H1 → (i < n ∧ H2 = H1 ∧ x = .int (lo + i)) → ∃ d, (rangeD lo n)[i]? = some d ∧ RepD K H2 d x ∧ Same H1 H2 := by
  refine ⟨?_, fun i H1 x H2 kp ⟨hi, e1, e2⟩ => ?_⟩
  · rw [rangeD_len]
    exact ⟨fun _ _ hi _ => hi, fun _ _ => Nat.le_refl _, fun i H x H' hi _ y => ⟨hi, y⟩⟩
  · subst e1 e2
    refine ⟨.int (lo + i), ?_, rfl, Same.refl _⟩
    simp [rangeD, hi]
theorem di_range1 {p : Pos} (hm : X.mg "range" = none) (ha : DE X a ws vs f1) (hg : Gl X "range" := by rfl) (hs : starEach [a] X.env = (false, eval a X.env) :: starEach [] X.env := by rfl) (hs' : starEach [a] X.env = [(false, eval a X.env)] := by rfl) :
    DI X tg (.Call (.Name "range" p) [a] [] pos) ws [] (fR1 f1) := by
  refine ⟨(pi_range1 hg hm (pa_cons ha.pe pa_nil hs) hs').imp fun σ H R q => ?_⟩
  obtain ⟨ρ, fps, ds, ρ', S, e, q⟩ := q
  obtain ⟨⟨m, ρ1⟩, e1, e⟩ := Option.bind_eq_some_iff.mp e
  obtain ⟨j, e2, e⟩ := Option.bind_eq_some_iff.mp e
  split at e
  · rename_i hb
    obtain ⟨rfl, rfl⟩ := Prod.mk.inj (Option.some.inj e)
    obtain rfl := M.int_eq e2
    refine ⟨ρ, fps, _, ρ1, S, e1, fun v H1 fps1 fp1 S1 R1 E1 P1 => ⟨j, by rw [R1.2], hb.1, hb.2, ?_⟩⟩
    exact q _ H1 fps1 [] _ _ S1 E1 Res.nil (by simp) (y_range (K := X.K) (H' := H1)).1 (fun _ _ _ => trivial) (y_range (K := X.K) (H' := H1)).2
  · cases e
theorem di_range2 {p : Pos} (hm : X.mg "range" = none) (ha : DE X a ws1 vs1 f1) (hb : DE X b ws2 vs2 f2) (hg : Gl X "range" := by rfl) (hs : starEach [a, b] X.env = (false, eval a X.env) :: starEach [b] X.env := by rfl) (hs' : starEach [b] X.env = (false, eval b X.env) :: starEach [] X.env := by rfl)
    (hs1 : starEach [a, b] X.env = [(false, eval a X.env), (false, eval b X.env)] := by rfl) (hs2 : starEach [b] X.env = [(false, eval b X.env)] := by rfl) : DI X tg (.Call (.Name "range" p) [a, b] [] pos) (ws1 ++ ws2) [] (fR2 f1 f2) := by
  refine ⟨(pi_range2 hg hm (pa_cons ha.pe (pa_cons hb.pe pa_nil hs') hs) hs1 hs2).imp fun σ H R q => ?_⟩
  obtain ⟨ρ, fps, ds, ρ', S, e, q⟩ := q
  obtain ⟨⟨m, ρ1⟩, e1, e⟩ := Option.bind_eq_some_iff.mp e
  obtain ⟨i, e2, e⟩ := Option.bind_eq_some_iff.mp e
  obtain ⟨⟨m2, ρ2⟩, e3, e⟩ := Option.bind_eq_some_iff.mp e
  obtain ⟨j, e4, e⟩ := Option.bind_eq_some_iff.mp e
  split at e
  · rename_i hb
    obtain ⟨rfl, rfl⟩ := Prod.mk.inj (Option.some.inj e)
    obtain rfl := M.int_eq e2
    obtain rfl := M.int_eq e4
    refine ⟨ρ, fps, _, ρ1, S, e1, fun v H1 fps1 fp1 S1 R1 E1 P1 => ⟨_, fps1, _, ρ2, S1, e3, fun v2 H2 fps2 fp2 S2 R2 E2 P2 => ⟨i, j, by rw [R1.2, R2.2], hb, ?_⟩⟩⟩
    exact q _ H2 fps2 [] _ _ S2 (E1.trans E2) Res.nil (by simp) (y_range (K := X.K) (H' := H2)).1 (fun _ _ _ => trivial) (y_range (K := X.K) (H' := H2)).2
  · cases e
end
end DL
namespace DL
open L2 PySem.Spec PySem PyProof.Rows

/-! ### comprehensions -/
def wipeM (ρ : MS) : List Nat → MS
  | [] => ρ
  | v :: vs => (wipeM ρ vs).set v none
/-- the slots own as they are in ρ0, the others as in ρ -/
def backM (ρ0 ρ : MS) : List Nat → MS
  | [] => ρ
  | v :: vs => (backM ρ0 ρ vs).set v (ρ0[v]?.getD none)
def lcL (own : List Nat) (g : FG) (c : FT) (f : FE) : List PyData → MS → List M → Option (List M × MS)
  | [], ρ, acc => some (acc, ρ)
  | x :: xs, ρ, acc => (g x ρ).bind fun ρ1 => (c ρ1).bind fun q => if q.1 = true then (f q.2).bind fun r => if acc.length < sizeLine then lcL own g c f xs (wipeM r.2 own) (acc ++ [r.1]) else none
    else lcL own g c f xs (wipeM q.2 own) acc
def fLc (own : List Nat) (src : FI) (g : FG) (c : FT) (f : FE) : FE := fun ρ => (src ρ).bind fun p => (lcL own g c f p.1 (wipeM p.2 own) []).bind fun r => some (.lst r.1, backM p.2 r.2 own)
def fYes : FT := fun ρ => some (true, ρ)
structure DC (X : Cx) (ifs : List Expr) (ws : List Nat) (f : FT) : Prop where
  pts : PTs X ifs (tT X.K ws f)
theorem _root_.L2.PTs.imp {X : Cx} {e : List Expr} {t t' : TT} (h : PTs X e t) (k : ∀ σ H Q, t' σ H Q → t σ H Q) : PTs X e t' := ⟨fun pins s σ H Q I q => h.run pins s σ H Q I (k σ H Q q)⟩

theorem wipeM_len (ρ : MS) : ∀ vs : List Nat, (wipeM ρ vs).length = ρ.length
  | [] => rfl
  | v :: vs => by unfold wipeM; rw [List.length_set, wipeM_len ρ vs]
theorem backM_len (ρ0 ρ : MS) : ∀ vs : List Nat, (backM ρ0 ρ vs).length = ρ.length
  | [] => rfl
  | v :: vs => by unfold backM; rw [List.length_set, backM_len ρ0 ρ vs]
theorem wipe_in {α : Type} {l : List (Option α)} (w : List (Option α) → List Nat → List (Option α)) : True := trivial
theorem wipeM_get (ρ : MS) : ∀ (vs : List Nat) (i : Nat), i ∉ vs → (wipeM ρ vs)[i]? = ρ[i]?
  | [], _, _ => rfl
  | v :: vs, i, h => by
    unfold wipeM
    rw [List.getElem?_set_ne (fun z => h (by simp [z]))]
    exact wipeM_get ρ vs i fun z => h (by simp [z])
theorem wipeM_own (ρ : MS) : ∀ (vs : List Nat) (i : Nat) (m : M), i ∈ vs → (wipeM ρ vs)[i]? ≠ some (some m)
  | v :: vs, i, m, h => by
    unfold wipeM
    by_cases hv : v = i
    · subst hv
      by_cases hl : v < (wipeM ρ vs).length
      · rw [List.getElem?_set_self hl]; simp
      · rw [List.getElem?_eq_none (by simpa using hl)]; simp
    · rw [List.getElem?_set_ne hv]
      rcases List.mem_cons.mp h with z | z
      · exact absurd z.symm hv
      · exact wipeM_own ρ vs i m z
theorem wipe_get (σ : L2.St) : ∀ (vs : List Nat) (i : Nat), i ∉ vs → (wipe σ vs)[i]? = σ[i]?
  | [], _, _ => rfl
  | v :: vs, i, h => by
    unfold wipe
    rw [List.getElem?_set_ne (fun z => h (by simp [z]))]
    exact wipe_get σ vs i fun z => h (by simp [z])
theorem wipe_own (σ : L2.St) : ∀ (vs : List Nat) (i : Nat), i ∈ vs → (wipe σ vs)[i]? = if i < σ.length then some none else none
  | v :: vs, i, h => by
    unfold wipe
    by_cases hv : v = i
    · subst hv
      by_cases hl : v < (wipe σ vs).length
      · rw [List.getElem?_set_self hl, if_pos (by rw [wipe_length] at hl; exact hl)]
      · rw [List.getElem?_eq_none (by simpa using hl), if_neg (by rw [wipe_length] at hl; exact hl)]
    · rw [List.getElem?_set_ne hv]
      rcases List.mem_cons.mp h with z | z
      · exact absurd z.symm hv
      · exact wipe_own σ vs i z
theorem backM_get (ρ0 ρ : MS) : ∀ (vs : List Nat) (i : Nat), i ∉ vs → (backM ρ0 ρ vs)[i]? = ρ[i]?
  | [], _, _ => rfl
  | v :: vs, i, h => by
    unfold backM
    rw [List.getElem?_set_ne (fun z => h (by simp [z]))]
    exact backM_get ρ0 ρ vs i fun z => h (by simp [z])
theorem backM_own (ρ0 ρ : MS) (hl : ρ.length = ρ0.length) : ∀ (vs : List Nat) (i : Nat), i ∈ vs → (backM ρ0 ρ vs)[i]? = ρ0[i]?
  | v :: vs, i, h => by
    unfold backM
    by_cases hv : v = i
    · subst hv
      by_cases hh : v < (backM ρ0 ρ vs).length
      · rw [List.getElem?_set_self hh]
        rw [backM_len, hl] at hh
        rw [List.getElem?_eq_getElem hh]
        rfl
      · rw [List.getElem?_eq_none (by simpa using hh)]
        rw [backM_len, hl] at hh
        rw [List.getElem?_eq_none (by omega)]
    · rw [List.getElem?_set_ne hv]
      rcases List.mem_cons.mp h with z | z
      · exact absurd z.symm hv
      · exact backM_own ρ0 ρ hl vs i z
/-- slots that are alike but at own are wiped to one -/
theorem wipe_eq {σ σ2 : L2.St} {own : List Nat} (hl : σ2.length = σ.length) (h : ∀ i, i ∉ own → σ2[i]? = σ[i]?) : wipe σ2 own = wipe σ own := by
  refine List.ext_getElem? fun i => ?_
  by_cases hi : i ∈ own
  · rw [wipe_own _ _ _ hi, wipe_own _ _ _ hi, hl]
  · rw [wipe_get _ _ _ hi, wipe_get _ _ _ hi, h i hi]
def noOwn (own : List Nat) (fps : Fp) : Fp := fun j => if j ∈ own then [] else fps j
theorem StR.wipe {K : PySem.W.Frag} {H : Hp} {σ : L2.St} {ρ : MS} {fps : Fp} (S : StR K H σ ρ fps) (own : List Nat) : StR K H (wipe σ own) (wipeM ρ own) (noOwn own fps) := by
  refine ⟨by rw [wipe_length, wipeM_len]; exact S.len, fun i m e => ?_, fun i hi => ?_, fun i j hij b hb hc => ?_⟩
  · by_cases h : i ∈ own
    · exact absurd e (wipeM_own ρ own i m h)
    · rw [wipeM_get ρ own i h] at e
      rw [wipe_get σ own i h]
      simpa [noOwn, h] using S.slot i m e
  · by_cases h : i ∈ own
    · simp [noOwn, h]
    · simp only [noOwn, h, if_false]
      refine S.emp i fun m e => hi m ?_
      rw [wipeM_get ρ own i h]
      exact e
  · by_cases h : i ∈ own
    · simp [noOwn, h] at hb
    · by_cases h' : j ∈ own
      · simp [noOwn, h'] at hc
      · simp only [noOwn, h, h', if_false] at hb hc
        exact S.dis i j hij b hb hc
/-- the heap without the object at D -/
def msk (H : Hp) (D : Addr) : Hp := fun b => if b = D then none else H b
theorem msk_ne {H : Hp} {D b : Addr} (h : b ≠ D) : msk H D b = H b := by unfold msk; rw [if_neg h]
theorem msk_self {H : Hp} {D : Addr} : msk H D D = none := by unfold msk; rw [if_pos rfl]
theorem msk_upd {H : Hp} {D : Addr} {o : HO} : msk (upd H D o) D = msk H D := funext fun b => by
  by_cases h : b = D
  · rw [h, msk_self, msk_self]
  · rw [msk_ne h, msk_ne h, upd_ne h]
theorem msk_free {H : Hp} {D : Addr} (h : H D = none) : msk H D = H := funext fun b => by
  by_cases hb : b = D
  · rw [hb, msk_self, h]
  · rw [msk_ne hb]
theorem Eff.msk {ws : List Nat} {H H1 : Hp} {fps fps1 : Fp} {D : Addr} (E : Eff ws H H1 fps fps1) : Eff ws (msk H D) (msk H1 D) fps fps1 := by
  refine ⟨fun b o h k => ?_, fun b h => ?_, E.stay, fun i hi b hb => ?_⟩
  · by_cases hb : b = D
    · rw [hb, msk_self] at h; cases h
    · rw [msk_ne hb] at h ⊢
      exact E.keep b o h k
  · by_cases hb : b = D
    · rw [hb, msk_self]
    · rw [msk_ne hb] at h ⊢
      exact E.live b h
  · rcases E.sub i hi b hb with z | z
    · exact .inl z
    · by_cases hD : b = D
      · rw [hD]; exact .inr msk_self
      · exact .inr (by rw [msk_ne hD]; exact z)
/-- a turn, its own slots forgotten -/
theorem Eff.turn {ws ag own : List Nat} {H H1 : Hp} {fps fps1 : Fp} (E : Eff (ag ++ ws) H H1 (noOwn own fps) fps1) (ha : ∀ i ∈ ag, i ∈ own) : Eff ws H H1 (noOwn own fps) (noOwn own fps1) := by
  have key : ∀ b, (∃ j ∈ ag ++ ws, b ∈ noOwn own fps j) → ∃ j ∈ ws, b ∈ noOwn own fps j := fun b ⟨j, hj, z⟩ => by
    rcases List.mem_append.mp hj with w | w
    · simp [noOwn, ha j w] at z
    · exact ⟨j, w, z⟩
  refine ⟨fun b o h k => E.keep b o h fun i hi hb => ?_, E.live, fun i hi => ?_, fun i hi b hb => ?_⟩
  · obtain ⟨j, hj, z⟩ := key b ⟨i, hi, hb⟩
    exact k j hj z
  · by_cases h : i ∈ own
    · simp [noOwn, h]
    · have : fps1 i = noOwn own fps i := E.stay i fun z => by
        rcases List.mem_append.mp z with w | w
        · exact h (ha i w)
        · exact hi w
      simp only [noOwn, h, if_false] at this ⊢
      exact this
  · by_cases h : i ∈ own
    · simp [noOwn, h] at hb
    · simp only [noOwn, h, if_false] at hb
      rcases E.sub i (by simp [hi]) b hb with z | z
      · exact .inl (key b z)
      · exact .inr z

section
variable {X : Cx} {e elt tg iter : Expr} {ifs : List Expr} {ws vs wi vi we wc ag : List Nat} {f : FE} {g : FG} {c : FT} {src : FI} {pos p2 : Pos} {own : List (Str × Nat)} {scope : Scope}
theorem dc_nil : DC X [] [] fYes := by
  refine ⟨pts_nil.imp fun σ H Q h => ?_⟩
  obtain ⟨ρ, fps, b, ρ', S, e, q⟩ := h
  obtain ⟨rfl, rfl⟩ := Prod.mk.inj (Option.some.inj e)
  exact q H fps S Eff.refl
theorem dc_one {a : Expr} (h : DT X a ws c) : DC X [a] ws c := ⟨pts_one h.pt⟩

theorem lc_red {σ0 : L2.St} {H0 : Hp} {Q : VK} (hag : ∀ i ∈ ag, i ∈ own.map (·.2)) (hv : ∀ i ∈ vi, i ∉ wc ++ we) (h : tE X.K (wi ++ (wc ++ we)) [] (fLc (own.map (·.2)) src g c f) σ0 H0 Q) :
    tLc (tI X.K wi vi src) (tG X.K ag g) (tT X.K wc c) (tE X.K we [] f) (own.map (·.2)) σ0 H0 Q := by
  generalize own.map (·.2) = ow at *
  obtain ⟨ρ0, fps0, m0, ρ0', S0, e, q⟩ := h
  obtain ⟨⟨ds, ρ1⟩, e1, e⟩ := Option.bind_eq_some_iff.mp e
  obtain ⟨⟨accF, ρF⟩, e2, e⟩ := Option.bind_eq_some_iff.mp e
  obtain ⟨rfl, rfl⟩ := Prod.mk.inj (Option.some.inj e)
  refine ⟨ρ0, fps0, ds, ρ1, S0, e1, fun J H1 fps1 fp G Y S1 E1 P1 al w hG hY => ?_⟩
  intro D hD
  have SW := S1.wipe ow
  have fpsub : ∀ j b, b ∈ noOwn ow fps1 j → b ∈ fps1 j := fun j b hb => by
    unfold noOwn at hb
    split at hb
    · cases hb
    · exact hb
  have alive1 : ∀ j b, b ∈ fps1 j → H1 b ≠ none := fun j b hb z => by
    obtain ⟨o, e, _⟩ := S1.alive hb
    rw [z] at e; cases e
  -- what the heap of a turn is
  have kpT : ∀ {H : Hp} {fps : Fp}, Eff (wc ++ we) H1 (msk H D) (noOwn ow fps1) fps → Kp H1 H := fun {H fps} E b o h n => by
    have hb : b ≠ D := ne_of_none h hD
    have := E.keep b o h fun i _ hi => by
      obtain ⟨o', e', mu⟩ := S1.alive (fpsub i b hi)
      rw [h] at e'; cases e'
      exact n mu
    rw [msk_ne hb] at this
    exact this
  have fpT : ∀ {H : Hp} {fps : Fp}, Eff (wc ++ we) H1 (msk H D) (noOwn ow fps1) fps → ∀ b ∈ fp, H b = H1 b := fun {H fps} E b hb => by
    obtain ⟨o, h, _⟩ := al b hb
    have hbD : b ≠ D := ne_of_none h hD
    rw [h]
    have := E.keep b o h fun i hi hbi => by
      have hbi := fpsub i b hbi
      rcases P1 b hb with ⟨j, hj, z⟩ | ⟨z, _⟩
      · exact S1.dis j i (fun w => hv j hj (w ▸ hi)) b z hbi
      · exact z i hbi
    rw [msk_ne hbD] at this
    exact this
  refine lc_it w (fun i H => ∃ ρ fps acc us fa, StR X.K H (wipe σ0 ow) ρ fps ∧ fps = noOwn ow fps ∧ lcL ow g c f (ds.drop i) ρ acc = some (accF, ρF) ∧ H D = some (.lst us) ∧ Reps X.K H acc us fa ∧ D ∉ fa ∧
      (∀ b ∈ D :: fa, ∀ j, b ∉ fps j) ∧ Eff (wc ++ we) H1 (msk H D) (noOwn ow fps1) fps ∧ ∀ b ∈ fa, (∃ j ∈ wc ++ we, b ∈ noOwn ow fps1 j) ∨ H1 b = none) ?_ ?_ ?_ ?_
  · refine ⟨wipeM ρ1 ow, noOwn ow fps1, [], [], [], SW.same (Same.new hD), ?_, e2, upd_same, ⟨rfl, rfl⟩, by simp, fun b hb j hj => ?_, ?_, by simp⟩
    · funext j
      unfold noOwn
      split <;> rfl
    · obtain rfl : b = D := by simpa using hb
      exact alive1 j b (fpsub j b hj) hD
    · rw [msk_upd, msk_free hD]
      exact Eff.refl
  · rintro i H hi ⟨ρ, fps, acc, us, fa, S, hn, ee, hDl, r, nD, dj, E, or⟩
    exact hG H (kpT E) (fpT E)
  · rintro i x H H' hi ⟨ρ, fps, acc, us, fa, S, hn, ee, hDl, r, nD, dj, E, or⟩ y
    obtain ⟨d, hd, rd, sm⟩ := hY i H x H' (kpT E) y
    rw [drop_get hd] at ee
    obtain ⟨ρ2, e3, ee⟩ := Option.bind_eq_some_iff.mp ee
    obtain ⟨⟨cb, ρ3⟩, e4, ee⟩ := Option.bind_eq_some_iff.mp ee
    refine ⟨ρ, fps, d, ρ2, S.same sm, rd, e3, fun σ2 fps2 S2 k2 E2 => ⟨?_, ρ2, fps2, cb, ρ3, S2, e4, fun H3 fps3 S3 E3 => ?_⟩⟩
    · exact (wipe_eq (own := ow) k2.1 fun j hj => k2.2 j fun z => hj (hag j z)).trans (wipe_eq (by rw [wipe_length]) fun j hj => wipe_get _ _ _ hj)
    · have wσ : wipe σ2 ow = wipe σ0 ow := (wipe_eq (own := ow) k2.1 fun j hj => k2.2 j fun z => hj (hag j z)).trans (wipe_eq (by rw [wipe_length]) fun j hj => wipe_get _ _ _ hj)
      have hnn : noOwn ow fps = fps := by rw [← hn]
      have dj3 : ∀ {H9 : Hp} {fps9 : Fp} {wx : List Nat}, Eff wx H H9 fps fps9 → (∀ b ∈ D :: fa, ∀ j, b ∉ fps9 j) ∧ (∀ b ∈ D :: fa, H9 b = H b) := fun {H9 fps9 wx} E9 => by
        have ald : ∀ b ∈ D :: fa, ∃ o, H b = some o := fun b hb => by
          rcases List.mem_cons.mp hb with z | z
          · exact ⟨_, z ▸ hDl⟩
          · obtain ⟨o, e, _⟩ := Reps.alive acc r b z
            exact ⟨o, e⟩
        refine ⟨fun b hb j hj => ?_, fun b hb => ?_⟩
        · obtain ⟨o, e⟩ := ald b hb
          by_cases hw : j ∈ wx
          · rcases E9.sub j hw b hj with ⟨k, _, z⟩ | z
            · exact dj b hb k z
            · rw [e] at z; cases z
          · rw [E9.stay j hw] at hj
            exact dj b hb j hj
        · obtain ⟨o, e⟩ := ald b hb
          rw [e]
          exact E9.keep b o e fun k _ z => dj b hb k z
      have E3' : Eff (ag ++ wc) H H3 fps fps3 := (((Eff.of_same (fps := fps) sm).trans E2).trans E3).weak (by simp)
      cases cb with
      | true =>
        rw [if_pos rfl] at ee
        refine iteT ?_
        obtain ⟨⟨m4, ρ4⟩, e5, ee⟩ := Option.bind_eq_some_iff.mp ee
        split at ee
        · rename_i hz
          refine ⟨ρ3, fps3, m4, ρ4, S3, e5, fun v H4 fps4 fp4 S4 R4 E4 P4 => ?_⟩
          have E4' : Eff (ag ++ (wc ++ we)) H H4 fps fps4 := (E3'.trans E4).weak (by simp)
          obtain ⟨d1, d2⟩ := dj3 E4'
          have P4' : Res (ag ++ wc ++ we) [] H fps fps4 fp4 := Res.later E3' P4
          have dj4 := res_dj P4'
          have old4 : ∀ b ∈ fp4, b ∉ D :: fa := fun b hb hc => by
            rcases P4' b hb with ⟨k, hk, _⟩ | ⟨_, ⟨k, hk, z⟩ | z⟩
            · cases hk
            · exact dj b hc k z
            · rcases List.mem_cons.mp hc with w | w
              · rw [w, hDl] at z; cases z
              · obtain ⟨o, e, _⟩ := Reps.alive acc r b w
                rw [z] at e; cases e
          have hD4 : H4 D = some (.lst us) := (d2 D (by simp)).trans hDl
          refine ⟨us, hD4, by rw [r.len]; exact hz, ?_⟩
          have SW4 := S4.wipe ow
          rw [wσ] at SW4
          have neD : ∀ j b, b ∈ noOwn ow fps4 j → b ≠ D := fun j b hb z => by
            unfold noOwn at hb
            split at hb
            · cases hb
            · exact d1 D (by simp) j (z ▸ hb)
          have kpU : Kp H4 (upd H4 D (.lst (us ++ [v]))) := fun b o h n => by
            rw [upd_ne]
            · exact h
            · intro z
              rw [z, hD4] at h; cases h
              exact n trivial
          have rr : Reps X.K H4 (acc ++ [m4]) (us ++ [v]) (fa ++ fp4) := by
            refine Reps.app ?_ ⟨v, [], fp4, [], rfl, by simp, by simp, R4, rfl, rfl⟩ fun b hb hc => old4 b hc (by simp [hb])
            exact Reps.mono (E4'.kp S) acc r fun b hb => d2 b (by simp [hb])
          have nD4 : D ∉ fa ++ fp4 := fun z => by
            rcases List.mem_append.mp z with z | z
            · exact nD z
            · exact old4 D z (by simp)
          have ET : Eff (wc ++ we) H H4 (noOwn ow fps) (noOwn ow fps4) := Eff.turn (by rw [hnn]; exact E4') hag
          rw [hnn] at ET
          have EN := (E.trans (ET.msk (D := D))).weak (ws2 := wc ++ we) (by simp; intro i hi; rcases hi with z | z | z | z <;> simp [z])
          refine ⟨wipeM ρ4 ow, noOwn ow fps4, acc ++ [m4], us ++ [v], fa ++ fp4, SW4.mono kpU fun j b hb => upd_ne (neD j b hb), ?_, ee, upd_same, Reps.mono kpU _ rr fun b hb => upd_ne fun z => nD4 (z ▸ hb), nD4, fun b hb j hj => ?_, by rw [msk_upd]; exact EN, fun b hb => ?_⟩
          · funext j
            unfold noOwn
            split <;> rfl
          · unfold noOwn at hj
            split at hj
            · cases hj
            · rcases List.mem_cons.mp hb with z | z
              · exact d1 b (by simp [z]) j hj
              · rcases List.mem_append.mp z with z | z
                · exact d1 b (by simp [z]) j hj
                · exact dj4 b z j hj
          · rcases List.mem_append.mp hb with z | z
            · exact or b z
            · have first : ∀ k, b ∈ fps k → (∃ j ∈ wc ++ we, b ∈ noOwn ow fps1 j) ∨ H1 b = none := fun k hk => by
                by_cases hw : k ∈ wc ++ we
                · rcases E.sub k hw b hk with w | w
                  · exact .inl w
                  · exact .inr w
                · have hko := hk
                  rw [E.stay k hw] at hko
                  rcases P4' b z with ⟨k', hk', _⟩ | ⟨_, ⟨k', hk', z'⟩ | z'⟩
                  · cases hk'
                  · have : k' = k := Classical.byContradiction fun w => S.dis k' k w b z' hk
                    subst this
                    have hk3 : k' ∈ ag := by
                      rcases List.mem_append.mp hk' with w | w
                      · rcases List.mem_append.mp w with w | w
                        · exact w
                        · exact absurd (by simp [w]) hw
                      · exact absurd (by simp [w]) hw
                    rw [← hnn] at hk
                    simp [noOwn, hag k' hk3] at hk
                  · obtain ⟨o, e, _⟩ := S.alive hk
                    rw [z'] at e; cases e
              rcases P4' b z with ⟨k, hk, _⟩ | ⟨_, ⟨k, hk, z'⟩ | z'⟩
              · cases hk
              · exact first k z'
              · by_cases hbD : b = D
                · exact .inr (hbD ▸ hD)
                · exact .inr (E.live b (by rw [msk_ne hbD]; exact z'))
        · cases ee
      | false =>
        rw [if_neg Bool.false_ne_true] at ee
        refine iteF ?_
        obtain ⟨d1, d2⟩ := dj3 E3'
        have SW3 := S3.wipe ow
        rw [wσ] at SW3
        have ET : Eff wc H H3 (noOwn ow fps) (noOwn ow fps3) := Eff.turn (by rw [hnn]; exact E3') hag
        rw [hnn] at ET
        have EN := (E.trans (ET.msk (D := D))).weak (ws2 := wc ++ we) (by simp; intro i hi; rcases hi with z | z | z <;> simp [z])
        refine ⟨wipeM ρ3 ow, noOwn ow fps3, acc, us, fa, SW3, ?_, ee, (d2 D (by simp)).trans hDl, Reps.mono (E3'.kp S) acc r fun b hb => d2 b (by simp [hb]), nD, fun b hb j hj => ?_, EN, or⟩
        · funext j
          unfold noOwn
          split <;> rfl
        · unfold noOwn at hj
          split at hj
          · cases hj
          · exact d1 b hb j hj
  · rintro H ⟨ρ, fps, acc, us, fa, S, hn, ee, hDl, r, nD, dj, E, or⟩
    rw [List.drop_length] at ee
    obtain ⟨rfl, rfl⟩ := Prod.mk.inj (Option.some.inj ee)
    -- the own slots again
    have keep1 : ∀ j ∈ ow, ∀ b ∈ fps1 j, H b = H1 b := fun j hj b hb => by
      obtain ⟨o, h, _⟩ := S1.alive hb
      have hbD : b ≠ D := ne_of_none h hD
      rw [h]
      have := E.keep b o h fun i hi hbi => by
        have hio : i ∉ ow := fun z => by simp [noOwn, z] at hbi
        have hij : j ≠ i := fun z => hio (z ▸ hj)
        exact S1.dis j i hij b hb (fpsub i b hbi)
      rw [msk_ne hbD] at this
      exact this
    have apart : ∀ j ∈ ow, ∀ k, k ∉ ow → ∀ b ∈ fps1 j, b ∉ fps k := fun j hj k hk b hb hc => by
      have hjk : j ≠ k := fun z => hk (z ▸ hj)
      by_cases hw : k ∈ wc ++ we
      · rcases E.sub k hw b hc with ⟨i, hi, z⟩ | z
        · have hio : i ∉ ow := fun w => by simp [noOwn, w] at z
          exact S1.dis j i (fun w => hio (w ▸ hj)) b hb (fpsub i b z)
        · exact alive1 j b hb z
      · rw [E.stay k hw] at hc
        exact S1.dis j k hjk b hb (fpsub k b hc)
    have lenρ : ρ.length = ρ1.length := by
      rw [← S.len, ← S1.len, wipe_length]
    have kpH := kpT E
    have SF : StR X.K H σ0 (backM ρ1 ρ ow) (fun j => if j ∈ ow then fps1 j else fps j) := by
      refine ⟨by rw [backM_len, ← S.len, wipe_length], fun i m e => ?_, fun i hi => ?_, fun i j hij b hb hc => ?_⟩
      · by_cases h : i ∈ ow
        · rw [backM_own ρ1 ρ lenρ ow i h] at e
          obtain ⟨v, h1, h2⟩ := S1.slot i m e
          exact ⟨v, h1, by simpa [h] using Rep.mono kpH m h2 (keep1 i h)⟩
        · rw [backM_get ρ1 ρ ow i h] at e
          obtain ⟨v, h1, h2⟩ := S.slot i m e
          rw [wipe_get σ0 ow i h] at h1
          exact ⟨v, h1, by simpa [h] using h2⟩
      · by_cases h : i ∈ ow
        · simp only [h, if_true]
          refine S1.emp i fun m e => hi m ?_
          rw [backM_own ρ1 ρ lenρ ow i h]
          exact e
        · simp only [h, if_false]
          refine S.emp i fun m e => hi m ?_
          rw [backM_get ρ1 ρ ow i h]
          exact e
      · by_cases h : i ∈ ow
        · by_cases h' : j ∈ ow
          · simp only [h, h', if_true] at hb hc
            exact S1.dis i j hij b hb hc
          · simp only [h, h', if_true, if_false] at hb hc
            exact apart i h j h' b hb hc
        · by_cases h' : j ∈ ow
          · simp only [h, h', if_true, if_false] at hb hc
            exact apart j h' i h b hc hb
          · simp only [h, h', if_false] at hb hc
            exact S.dis i j hij b hb hc
    have EF : Eff (wc ++ we) H1 H fps1 (fun j => if j ∈ ow then fps1 j else fps j) := by
      refine ⟨fun b o h k => ?_, fun b h => ?_, fun i hi => ?_, fun i hi b hb => ?_⟩
      · have hbD : b ≠ D := ne_of_none h hD
        have := E.keep b o h fun i hi hbi => k i hi (fpsub i b hbi)
        rw [msk_ne hbD] at this
        exact this
      · by_cases hbD : b = D
        · rw [hbD]; exact hD
        · exact E.live b (by rw [msk_ne hbD]; exact h)
      · by_cases h : i ∈ ow
        · simp [h]
        · simp only [h, if_false]
          rw [E.stay i hi]
          simp [noOwn, h]
      · by_cases h : i ∈ ow
        · simp only [h, if_true] at hb
          exact .inl ⟨i, hi, hb⟩
        · simp only [h, if_false] at hb
          rcases E.sub i hi b hb with ⟨j, hj, z⟩ | z
          · exact .inl ⟨j, hj, fpsub j b z⟩
          · exact .inr z
    have or1 : ∀ b ∈ D :: fa, (∃ j ∈ wc ++ we, b ∈ noOwn ow fps1 j) ∨ H1 b = none := fun b hb => by
      rcases List.mem_cons.mp hb with z | z
      · exact .inr (z ▸ hD)
      · exact or b z
    have PF : Res (wc ++ we) [] H1 fps1 (fun j => if j ∈ ow then fps1 j else fps j) (D :: fa) := fun b hb => by
      refine .inr ⟨fun j hj => ?_, ?_⟩
      · by_cases h : j ∈ ow
        · simp only [h, if_true] at hj
          rcases or1 b hb with ⟨i, hi, z⟩ | z
          · have hio : i ∉ ow := fun w => by simp [noOwn, w] at z
            exact S1.dis j i (fun w => hio (w ▸ h)) b hj (fpsub i b z)
          · exact alive1 j b hj z
        · simp only [h, if_false] at hj
          exact dj b hb j hj
      · rcases or1 b hb with ⟨i, hi, z⟩ | z
        · exact .inl ⟨i, hi, fpsub i b z⟩
        · exact .inr z
    exact q (.ref D) H _ (D :: fa) SF ⟨D, us, fa, rfl, rfl, hDl, nD, r⟩ (E1.trans EF) (Res.later E1 PF)
abbrev blkX (X : Cx) (scope : Scope) (s : Shared) (H : Hp) (C : Addr) (cl : List (Str × Addr)) (fp : List Addr) : Cx := X.blk s H scope (compEnvC scope cl C X.env) fp
theorem de_lc (own : List (Str × Nat)) (hc : X.calm = true) (hN : X.N.Nodup) (ok : BlkOk X.N X.env.scope scope own) (hi : DI X tg iter wi vi src) (hg : ∀ s H C cl fp, DG (blkX X scope s H C cl fp) tg ag g) (ht : ∀ s H C cl fp, DC (blkX X scope s H C cl fp) ifs wc c) (he : ∀ s H C cl fp, DE (blkX X scope s H C cl fp) elt we [] f)
    (hag : ∀ i ∈ ag, i ∈ own.map (·.2) := by decide) (hv : ∀ i ∈ vi, i ∉ wc ++ we := by decide) (hs : ∀ x, foldedSetIterable iter X.env x = pure x := by intro _; rfl) :
    DE X (.ListComp elt [⟨tg, iter, ifs, 0⟩] scope pos) (wi ++ (wc ++ we)) [] (fLc (own.map (·.2)) src g c f) :=
  ⟨(pe_lc (te := tE X.K we [] f) (g := tG X.K ag g) (tt := tT X.K wc c) hc hN hi.pi ok (fun s H C cl fp => (hg s H C cl fp).pg) (fun s H C cl fp => (ht s H C cl fp).pts) (fun s H C cl fp => (he s H C cl fp).pe) hs).imp fun _ _ _ h => lc_red hag hv h⟩
/-- y = [..] on one line, y a local and no cell -/
theorem ds_setLc {i : Nat} {y : Str} {py spos : Pos} (own : List (Str × Nat)) (hc : X.calm = true) (hN : X.N.Nodup) (ok : BlkOk X.N X.env.scope scope own) (hi : DI X tg iter wi vi src) (hg : ∀ s H C cl fp, DG (blkX X scope s H C cl fp) tg ag g) (ht : ∀ s H C cl fp, DC (blkX X scope s H C cl fp) ifs wc c) (he : ∀ s H C cl fp, DE (blkX X scope s H C cl fp) elt we [] f)
    (hsw : swapsWith (.ListComp elt [⟨tg, iter, ifs, 0⟩] scope pos) (some (.Name y py)) spos.line X.env = pure true) (hy : X.N[i]? = some y := by rfl) (hyl : X.env.scope.names.lookup y = some .local := by rfl)
    (hag : ∀ i ∈ ag, i ∈ own.map (·.2) := by decide) (hv : ∀ i ∈ vi, i ∉ wc ++ we := by decide) (hs : ∀ x, foldedSetIterable iter X.env x = pure x := by intro _; rfl) :
    DS X (.Assign [.Name y py] (.ListComp elt [⟨tg, iter, ifs, 0⟩] scope pos) spos) [i] (i :: (wi ++ (wc ++ we))) (fSet i (fLc (own.map (·.2)) src g c f)) := by
  refine ⟨(ps_setLc (te := tE X.K we [] f) (g := tG X.K ag g) (tt := tT X.K wc c) hc hN hy hyl hsw hi.pi ok (fun s H C cl fp => (hg s H C cl fp).pg) (fun s H C cl fp => (ht s H C cl fp).pts) (fun s H C cl fp => (he s H C cl fp).pe) hs).imp fun σ H D h => ?_⟩
  obtain ⟨ρ, fps, o, S, e, q⟩ := h
  obtain ⟨⟨m, ρ1⟩, e1, e⟩ := Option.bind_eq_some_iff.mp e
  obtain rfl := Option.some.inj e
  exact lc_red hag hv ⟨ρ, fps, m, ρ1, S, e1, fun v H1 fps1 fp1 S1 R1 E1 P1 => q _ H1 _ set_sk (put_eff (n := ρ1.length) E1 P1) (put_slot S1 i R1 (res_dj P1))⟩
end
end DL
namespace DL
open L2 PySem.Spec PySem PyProof.Rows

/-! ### enumerate -/
set_option maxHeartbeats 1000000 in
theorem meets_enum1 {v : Value} {o : Obj} {H : Heap → Prop} (B : Begins v o H) :
    Meets (Builtin.«enumerate.__new__» ⟨[.type "enumerate", v], []⟩) (fun _ R s => H s.heap ∧
      R (.ok (.ret (.ref (s.heap.push o).objs.size))) { s with heap := (s.heap.push o).push { cls := .type "enumerate", data := .fields #[.none, .bool false, .ref s.heap.objs.size, rawInt 0, .none, .none] } }) :=
  .of_wp fun prog w A R s h => by
    obtain ⟨hp, g, d, tk, os⟩ := s; obtain ⟨h1, h⟩ := h
    have hsub := sub_enumerate
    have q1 : ∀ {A' : Around} {E : Value → Shared → Prop} {Q : Value → Shared → Prop}, Q (.ref hp.objs.size) ⟨hp.push o, g, d, tk, os⟩ → wpAny (model prog w) A' (pyIter v) Q E ⟨hp, g, d, tk, os⟩ :=
      fun q => B.iter prog w _ _ ⟨hp, g, d, tk, os⟩ _ h1 q
    wp_walk using q1
    refine wpAny_stack_any fun st => wpAny_pure ?_
    split
    · rename_i c _ _ _ _ _
      cases (c == Value.type "enumerate")
      · wp_walk using q1
        exact ⟨_, rfl, h⟩
      · wp_walk using q1
        exact ⟨_, rfl, h⟩
    · wp_walk using q1
      exact ⟨_, rfl, h⟩

theorem call_enum1 {prog : Program} {w : World} {A : Around} {E : Value → Shared → Prop} {s : Shared} {v : Value} {o : Obj} {H : Heap → Prop} {Q : Value → Shared → Prop} (B : Begins v o H) (h1 : H s.heap)
    (h : ∀ h', IsEnum h' (s.heap.objs.size + 1) s.heap.objs.size 0 .none → h'.get? s.heap.objs.size = some o → h'.objs.size = s.heap.objs.size + 2 →
      (∀ b o, s.heap.get? b = some o → h'.get? b = some o) → Q (.ref (s.heap.objs.size + 1)) { s with heap := h' }) :
    wpAny (model prog w) A (call (.type "enumerate") [v]) Q E s := by
  refine callType_new F.called_enumerate (by decide) (F.typeCall_enumerate_1 _) (F.newCall_enumerate_1 _) (fun obj => F.args_object_init_2 obj _) F.entry_enumerate_new
    (meets_enum1 B) ⟨h1, ?_⟩
  have hz : (s.heap.push o).objs.size = s.heap.objs.size + 1 := Heap.size_push ..
  show _ ∧ _
  rw [hz]
  have he : IsEnum ((s.heap.push o).push { cls := .type "enumerate", data := .fields #[.none, .bool false, .ref s.heap.objs.size, rawInt 0, .none, .none] }) (s.heap.objs.size + 1) s.heap.objs.size 0 .none := by
    have := Heap.get?_push_size (s.heap.push o) (o := { cls := .type "enumerate", data := .fields #[.none, .bool false, .ref s.heap.objs.size, rawInt 0, .none, .none] }) rfl
    rw [hz] at this; exact this
  refine ⟨⟨_, he, rfl⟩, h _ he (Heap.get?_push_of_some _ (Heap.get?_push_size _ B.free)) (by rw [Heap.size_push, hz]) fun b o x => Heap.get?_push_of_some _ (Heap.get?_push_of_some _ x)⟩
theorem pyNext_enum_endT {prog : Program} {w : World} {A : Around} {E : Value → Shared → Prop} {s : Shared} {e it l : Addr} {k : Int} {i : Nat} {items : Array Value} {old : Value} {Q : Option Value → Shared → Prop} (hh : A.handled = none)
    (he : IsEnum s.heap e it k old) (hit : s.heap.IsTupleIter it l i) (hl : s.heap.IsTuple l items) (hx : items[i]? = none)
    (hQ : ∀ h', Heap.ExtBut it s.heap h' → Q none { s with heap := h' }) : wpAny (model prog w) A (pyNext (.ref e)) Q E s := by
  have hT : s.TypeIs (.ref e) "enumerate" := ⟨_, he, rfl⟩
  unfold pyNext
  refine wpAny_bind (wpAny_attempt (wpAny_callSpecial?_slot (name := Str.ofString "__next__") hT F.slot_enumerate_next
    (wpAny_call_entry F.slot_enumerate_next hT F.entry_enumerate_next ?_ (F.args_enumerate_next_1 _))))
  show wpAny _ _ (field (.ref e) 2 >>= _) _ _ _
  refine wpAny_bind (wpAny_field he rfl (x := .ref it) rfl ?_)
  refine wpAny_bind (wpAny_nextOf_tuple_end hh hit hl hx fun h' x he' hx' => ?_)
  obtain ⟨o, ho, hc⟩ := hx'
  refine wpAny_bind (wpAny_isInstance (T := "StopIteration") (b := true) ⟨o, ho, hc⟩ isSubtype_stop ?_)
  exact wpAny_pure (hQ _ he')
/-- enumerate(tuple) -/
def ItEnT (K : PySem.W.Frag) (a : Addr) : It :=
  ⟨fun i H => ∃ (xs : List V) (x : V), SqT K H a xs ∧ xs[i]? = some x, fun i H v H' => ∃ T x, v = .ref T ∧ H T = none ∧ H' = upd H T (.tup [.int (i : Nat), x]) ∧ ∀ xs, SqT K H a xs → xs[i]? = some x, fun i H => ∃ xs : List V, SqT K H a xs ∧ xs.length ≤ i⟩
theorem turn_enumT {P : Program} {w : World} {K : PySem.W.Frag} {elts : List Expr} {kk : Nat} {tpos : Pos} (a e it : Addr) :
    Turn P w K (.Tuple elts kk tpos) (ItEnT K a) [e, it] e (fun i h => (∃ old, IsEnum h e it ((i : Nat) : Int) old) ∧ h.IsTupleIter it a i ∧ e ≠ it ∧ a ≠ it ∧ a ≠ e) where
  mem := by simp
  obj := fun i h st b hb => by
    obtain ⟨⟨old, he⟩, ⟨o, ho, hc, hd⟩, _⟩ := st
    have e' : b = e ∨ b = it := by simpa using hb
    rcases e' with z | z
    · rw [z]; exact ⟨_, he, fun v q => nomatch q⟩
    · rw [z]; exact ⟨o, ho, fun v q => by rw [hd] at q; cases q⟩
  keep := fun i h h' st k => let ⟨⟨old, he⟩, hi, hne⟩ := st; ⟨⟨old, k e (by simp) _ he⟩, hi.at fun o q => k it (by simp) o q, hne⟩
  item := by
    intro X hP hw hK hc i pins s σ H E I hf st hg
    subst hP hw hK
    obtain ⟨⟨old, he⟩, hit, hne, hai, hae⟩ := st
    obtain ⟨xs, x, hq, hx⟩ := hg
    obtain ⟨its, rv, p, hz⟩ := I.tuple hq
    obtain ⟨u, hu, ru⟩ := rv.get hx
    have hel : e < s.heap.objs.size := Heap.lt_size he
    have hil : it < s.heap.objs.size := by obtain ⟨_, q, _⟩ := hit; exact Heap.lt_size q
    have hi : i < its.toArray.size := by
      rw [List.size_toArray]
      exact (List.getElem?_eq_some_iff.mp hu).1
    have htup : s.heap.IsTuple a its.toArray := p
    refine wpAny_pyNext_enum_itemC (Draws.tuple (prog := X.prog) (w := X.w) (A := X.A.in1) (I.ok.hd hc) it a hai its.toArray) he ⟨hit, htup⟩ hi hne (by simp [hne, Ne.symm hae]) fun u' h' tk hu' ho hst' hT hsz hk => ?_
    have eu : u' = u := by
      have hu2 : its.toArray[i]? = some u' := hu'
      rw [List.getElem?_toArray] at hu2
      rw [hu] at hu2
      exact (Option.some.inj hu2).symm
    subst eu
    refine ⟨_, rfl, wpAny_letOwnedTupleGo_enum (s := { s with heap := h', toks := tk + 1 }) ho fun h'' he' sb => ?_⟩
    have hT2 : h''.get? s.heap.objs.size = some { cls := .type "tuple", data := .seq #[.int i tk, u'] } := (sb.2 _ (Nat.ne_of_gt hel)).trans hT
    have new : ObjOk X.prog X.w (upd H s.heap.objs.size (.tup [.int (i : Nat), x])) h'' s.heap.objs.size (.tup [.int (i : Nat), x]) :=
      ⟨by show 2 ≤ sizeLine; decide, [.int i tk, u'], .cons ⟨_, rfl⟩ (.cons ru .nil), ⟨_, hT2, rfl, _, rfl⟩⟩
    have I1 : L2.Inv X pins σ (upd H s.heap.objs.size (.tup [.int (i : Nat), x])) { s with heap := h'', toks := tk + 1 } :=
      I.turnedNew (ch := [e, it]) (fun b ob hb q => (sb.2 b (fun z => hb (by simp [z]))).trans (hk b ob (fun z => hb (by simp [z])) (fun z => hb (by simp [z])) q)) hf (Nat.le_refl _) new
    refine ⟨.ref s.heap.objs.size, _, I1, rfl, ⟨_, x, rfl, I.hok.fresh (Nat.le_refl _), rfl, fun ys hy => by rw [I.tuple_inj hy hq]; exact hx⟩, ⟨⟨u', ?_⟩, hst'.1.at fun o q => (sb.2 it (Ne.symm hne)).trans q, hne, hai, hae⟩, fun b hb => ?_⟩
    · have e1 : ((i + 1 : Nat) : Int) = (i : Int) + 1 := by omega
      rw [e1]; exact he'
    · have hb' : b < s.heap.objs.size := by
        have e' : b = e ∨ b = it := by simpa using hb
        rcases e' with z | z
        · rw [z]; exact hel
        · rw [z]; exact hil
      rw [upd_ne (Nat.ne_of_lt hb')]
      exact (hf b hb).1
  done := by
    intro X hP hw hK hc i pins s σ H E I hf st hg
    subst hP hw hK
    obtain ⟨⟨old, he⟩, hit, hne, hai, hae⟩ := st
    obtain ⟨xs, hq, hx⟩ := hg
    obtain ⟨its, rv, p, hz⟩ := I.tuple hq
    obtain ⟨f0, f1, f2, f3, f4, f5⟩ := hf it (by simp)
    have hl := rv.length
    exact pyNext_enum_endT (I.ok.hd hc) he hit (show s.heap.IsTuple a its.toArray from p) (by simp; omega) fun h' eb => ⟨rfl, I.turned (t' := s.toks) (fun b o hb q => eb b o hb q) f0 f1 f3 f4 f5⟩
  self := fun A i s Q E st h => let ⟨⟨_, he⟩, _⟩ := st; wpAny_pyIter_enum he h
def iEnumA (K : PySem.W.Frag) (ta : TA) : TI := fun σ H R => ta σ H fun vs H1 => ∃ a xs, vs = [.ref a] ∧ ((SqL K H1 a xs ∧ R (Ite K a) H1) ∨ (SqT K H1 a xs ∧ R (ItEnT K a) H1))
theorem pi_enumA {X : Cx} {e : Expr} {ta : TA} {p pos tpos : Pos} {elts : List Expr} {kk : Nat} (hg : Gl X "enumerate") (hm : X.mg "enumerate" = none) (ha : PA X [e] ta) (hs : starEach [e] X.env = [(false, eval e X.env)] := by rfl) :
    PI X (.Tuple elts kk tpos) (.Call (.Name "enumerate" p) [e] [] pos) (iEnumA X.K ta) := by
  refine ⟨fun pins s σ H R I h => ?_⟩
  refine Call_ (ld_blt I hg hm boot_enumerate (PyProof.Rows.callWith_type1 (thn (ha.run pos pins s σ H _ I h) fun us s1 ⟨vs, H1, I1, r1, q1⟩ => ?_) hs rfl))
  obtain ⟨a, xs, ex, hq⟩ := q1
  subst ex
  have fresh : ∀ b ∈ [s1.heap.objs.size + 1, s1.heap.objs.size], FpOk X pins H1 b := fun b hb => by
    have e' : b = s1.heap.objs.size + 1 ∨ b = s1.heap.objs.size := by simpa using hb
    have hle : s1.heap.objs.size ≤ b := by
      rcases e' with z | z
      · rw [z]; exact Nat.le_add_right _ _
      · rw [z]; exact Nat.le_refl _
    exact I1.fpOk hle (I1.hok.fresh hle)
  cases r1 with
  | cons r rr =>
    cases rr
    cases r
    rcases hq with ⟨hq, q⟩ | ⟨hq, q⟩
    · obtain ⟨its, rv, p', hz⟩ := I1.list hq
      refine call_enumerate_list p'.isList fun h' he hit hsz hk => wpAny_pyIter_enum he ?_
      have I2 : L2.Inv X pins σ H1 { s1 with heap := h' } := I1.kept (t' := s1.toks) hk
      exact ⟨s1.heap.objs.size + 1, [s1.heap.objs.size + 1, s1.heap.objs.size], _, _, H1, rfl, I2, turn_enum a (s1.heap.objs.size + 1) s1.heap.objs.size, ⟨⟨.none, he⟩, hit, Nat.succ_ne_self _⟩, fresh, q⟩
    · obtain ⟨its, rv, p', hz⟩ := I1.tuple hq
      have hal : a < s1.heap.objs.size := p'.lt
      refine call_enum1 (begins_tuple a its.toArray) (show s1.heap.IsTuple a its.toArray from p') fun h' he hit hsz hk => wpAny_pyIter_enum he ?_
      have I2 : L2.Inv X pins σ H1 { s1 with heap := h' } := I1.kept (t' := s1.toks) hk
      exact ⟨s1.heap.objs.size + 1, [s1.heap.objs.size + 1, s1.heap.objs.size], _, _, H1, rfl, I2, turn_enumT a (s1.heap.objs.size + 1) s1.heap.objs.size, ⟨⟨.none, he⟩, ⟨_, hit, rfl, rfl⟩, Nat.succ_ne_self _, Nat.ne_of_lt hal, Nat.ne_of_lt (Nat.lt_succ_of_lt hal)⟩, fresh, q⟩
theorem walk_enumT {K : PySem.W.Frag} {a : Addr} {xs : List V} : Walk (ItEnT K a) xs.length (fun H => SqT K H a xs) (YPair (fun i => some (.int (i : Nat))) (fun i => xs[i]?)) := by
  refine ⟨fun i _ hi q => ⟨xs, xs[i], q, by simp [hi]⟩, fun _ q => ⟨xs, q, Nat.le_refl _⟩, fun i H v H' _ q y => ?_⟩
  obtain ⟨T, x, h1, h2, h3, h4⟩ := y
  exact ⟨T, .int (i : Nat), x, h1, h2, h3, rfl, h4 xs q⟩

/-! ### as sources -/
def enumD : List PyData → Nat → List PyData
  | [], _ => []
  | d :: ds, k => .tuple [.int (k : Int), d] :: enumD ds (k + 1)
theorem enumD_len : ∀ (ds : List PyData) (k : Nat), (enumD ds k).length = ds.length
  | [], _ => rfl
  | _ :: ds, k => by simp [enumD, enumD_len ds]
theorem enumD_get : ∀ (ds : List PyData) (k i : Nat) (d : PyData), ds[i]? = some d → (enumD ds k)[i]? = some (.tuple [.int ((k + i : Nat) : Int), d])
  | [], _, _, _, h => by simp at h
  | x :: ds, k, 0, d, h => by
    simp at h
    subst h
    simp [enumD]
  | x :: ds, k, i + 1, d, h => by
    have := enumD_get ds (k + 1) i d (by simpa using h)
    simp only [enumD, List.getElem?_cons_succ]
    rw [this]
    congr 4
    omega
def zipD : List PyData → List PyData → List PyData
  | d :: ds, e :: es => .tuple [d, e] :: zipD ds es
  | _, _ => []
theorem zipD_len : ∀ (ds es : List PyData), (zipD ds es).length = min ds.length es.length
  | [], _ => by simp [zipD]
  | _ :: _, [] => by simp [zipD]
  | _ :: ds, _ :: es => by simp [zipD, zipD_len ds es]
theorem zipD_get : ∀ (ds es : List PyData) (i : Nat) (d e : PyData), ds[i]? = some d → es[i]? = some e → (zipD ds es)[i]? = some (.tuple [d, e])
  | [], _, _, _, _, h, _ => by simp at h
  | _ :: _, [], _, _, _, _, h => by simp at h
  | x :: ds, y :: es, 0, d, e, h, k => by
    simp at h k
    subst h k
    simp [zipD]
  | x :: ds, y :: es, i + 1, d, e, h, k => by
    simp only [zipD, List.getElem?_cons_succ]
    exact zipD_get ds es i d e (by simpa using h) (by simpa using k)
theorem y_pair {K : PySem.W.Frag} {H' : Hp} {ds : List PyData} {f g : Nat → Option V} (h : ∀ i x y, f i = some x → g i = some y → ∃ a b, RepD K H' a x ∧ RepD K H' b y ∧ ds[i]? = some (.tuple [a, b])) :
    ∀ (i : Nat) (H1 : Hp) (x : V) (H2 : Hp), Kp H' H1 → YPair f g i H1 x H2 → ∃ d, ds[i]? = some d ∧ RepD K H2 d x ∧ Same H1 H2 := fun i H1 v H2 kp y => by
  obtain ⟨T, x, z, rfl, hn, rfl, e1, e2⟩ := y
  obtain ⟨a, b, ra, rb, e⟩ := h i x z e1 e2
  have s := Same.new (o := HO.tup [x, z]) hn
  have k2 := kp.trans (Kp.of_same s)
  exact ⟨_, e, ⟨T, [x, z], rfl, SqT.of upd_same, x, [z], rfl, RepD.kp k2 _ _ ra, z, [], rfl, RepD.kp k2 _ _ rb, rfl⟩, s⟩
def fEn (f : FE) : FI := fun ρ => (f ρ).bind fun p => p.1.its.bind fun ds => some (enumD ds 0, p.2)
section
variable {X : Cx} {a b : Expr} {ws vs ws1 ws2 vs1 vs2 : List Nat} {f1 f2 : FE} {pos p tpos : Pos} {elts : List Expr} {kk : Nat}
theorem enum_y {K : PySem.W.Frag} {H : Hp} {xs : List PyData} {us : List V} (r : RepDs K H xs us) : ∀ (i : Nat) (x y : V), (some (V.int (i : Nat)) : Option V) = some x → us[i]? = some y → ∃ a b, RepD K H a x ∧ RepD K H b y ∧ (enumD xs 0)[i]? = some (PyData.tuple [a, b]) := fun i x y hx hy => by
  obtain rfl := Option.some.inj hx
  have hl : i < xs.length := by rw [← r.len]; exact (List.getElem?_eq_some_iff.mp hy).1
  obtain ⟨u, e3, rd⟩ := r.get (List.getElem?_eq_getElem hl)
  rw [hy] at e3
  obtain rfl := Option.some.inj e3
  exact ⟨.int i, xs[i], rfl, rd, by have := enumD_get xs 0 i _ (List.getElem?_eq_getElem hl); rw [Nat.zero_add] at this; exact this⟩
theorem di_enum (hm : X.mg "enumerate" = none) (h : DE X a ws vs f1) (hg : Gl X "enumerate" := by rfl) (hs : starEach [a] X.env = (false, eval a X.env) :: starEach [] X.env := by rfl) (hs' : starEach [a] X.env = [(false, eval a X.env)] := by rfl) :
    DI X (.Tuple elts kk tpos) (.Call (.Name "enumerate" p) [a] [] pos) ws vs (fEn f1) := by
  refine ⟨(pi_enumA hg hm (pa_cons h.pe pa_nil hs) hs').imp fun σ H R q => ?_⟩
  obtain ⟨ρ, fps, ds, ρ', S, e, q⟩ := q
  obtain ⟨⟨m, ρ1⟩, e1, e⟩ := Option.bind_eq_some_iff.mp e
  obtain ⟨xs, e2, e⟩ := Option.bind_eq_some_iff.mp e
  obtain ⟨rfl, rfl⟩ := Prod.mk.inj (Option.some.inj e)
  refine ⟨ρ, fps, m, ρ1, S, e1, fun v H1 fps1 fp1 S1 R1 E1 P1 => ?_⟩
  obtain ⟨c, us, rfl, r, hs⟩ := its_rep R1 e2
  rcases hs with ⟨hs, st⟩ | ⟨hs, st⟩
  · exact ⟨c, us, rfl, .inl ⟨hs, q _ H1 fps1 fp1 _ _ S1 E1 P1 (Rep.alive m R1) (by rw [enumD_len, ← r.len]; exact walk_enum (xs := us)) st (y_pair (enum_y r))⟩⟩
  · exact ⟨c, us, rfl, .inr ⟨hs, q _ H1 fps1 fp1 _ _ S1 E1 P1 (Rep.alive m R1) (by rw [enumD_len, ← r.len]; exact walk_enumT (xs := us)) st (y_pair (enum_y r))⟩⟩
theorem zip_y {K : PySem.W.Frag} {H : Hp} {xs ys : List PyData} {us zs : List V} (r : RepDs K H xs us) (r2 : RepDs K H ys zs) : ∀ (i : Nat) (x y : V), us[i]? = some x → zs[i]? = some y → ∃ a b, RepD K H a x ∧ RepD K H b y ∧ (zipD xs ys)[i]? = some (PyData.tuple [a, b]) := fun i x y hx hy => by
  have hl : i < xs.length := by rw [← r.len]; exact (List.getElem?_eq_some_iff.mp hx).1
  have hl2 : i < ys.length := by rw [← r2.len]; exact (List.getElem?_eq_some_iff.mp hy).1
  obtain ⟨u, e3, rd⟩ := r.get (List.getElem?_eq_getElem hl)
  obtain ⟨u2, e4, rd2⟩ := r2.get (List.getElem?_eq_getElem hl2)
  rw [hx] at e3
  rw [hy] at e4
  obtain rfl := Option.some.inj e3
  obtain rfl := Option.some.inj e4
  exact ⟨xs[i], ys[i], rd, rd2, zipD_get xs ys i _ _ (List.getElem?_eq_getElem hl) (List.getElem?_eq_getElem hl2)⟩
end
end DL
namespace DL
open L2 PySem.Spec PySem PyProof.Rows

/-! ### what a def computes -/
abbrev FF := MS → Option (M × MS)
def spF (K : PySem.W.Frag) (ts : List Nat) (n : Nat) (F : FF) : Sp := fun vs H Q _ => ∃ ms fps r outs, vs.length = n ∧ StR K H (vs.map some) ms fps ∧ F ms = some (r, outs) ∧
  ∀ v H' fps' fp, StR K H' (vs.map some) outs fps' → Rep K H' r v fp → Eff ts H H' fps fps' → Res ts [] H fps fps' fp → Q v H'
/-- the arguments as they are behind: data as before; a parameter that was stored again is lost -/
def outM (as : List Nat) : Nat → MS → MS → MS
  | _, [], _ => []
  | j, some (.d x) :: ms, _ :: ρ => some (.d x) :: outM as (j + 1) ms ρ
  | j, _ :: ms, r :: ρ => (if j ∈ as then none else r) :: outM as (j + 1) ms ρ
  | j, _ :: ms, [] => none :: outM as (j + 1) ms []
def fDef (n N : Nat) (as : List Nat) (f : FS) : FF := fun ms => if ms.length = n then (f (ms ++ List.replicate (N - n) none)).bind fun o => match o with
  | .rt m ρ => some (m, outM as 0 ms ρ)
  | .nx ρ => some (.d .none, outM as 0 ms ρ)
  | _ => none else none

theorem outM_len (as : List Nat) : ∀ (j : Nat) (ms ρ : MS), (outM as j ms ρ).length = ms.length
  | _, [], ρ => by cases ρ <;> simp [outM]
  | j, m :: ms, [] => by
    have := outM_len as (j + 1) ms []
    rcases m with _ | m
    · simp [outM, this]
    · cases m <;> simp [outM, this]
  | j, m :: ms, r :: ρ => by
    have := outM_len as (j + 1) ms ρ
    rcases m with _ | m
    · simp [outM, this]
    · cases m <;> simp [outM, this]
/-- what stands there -/
theorem outM_get (as : List Nat) : ∀ (j : Nat) (ms ρ : MS) (i : Nat) (m : M), (outM as j ms ρ)[i]? = some (some m) → (∃ x, m = .d x ∧ ms[i]? = some (some (.d x))) ∨ (j + i ∉ as ∧ ρ[i]? = some (some m) ∧ ∀ x, ms[i]? ≠ some (some (.d x)))
  | _, [], ρ, i, m, h => by cases ρ <;> simp [outM] at h
  | j, m0 :: ms, [], 0, m, h => by
    rcases m0 with _ | m0
    · simp [outM] at h
    · cases m0 <;> simp [outM] at h
  | j, m0 :: ms, [], i + 1, m, h => by
    have h' : (outM as (j + 1) ms [])[i]? = some (some m) := by
      rcases m0 with _ | m0
      · simpa [outM] using h
      · cases m0 <;> simpa [outM] using h
    rcases outM_get as (j + 1) ms [] i m h' with z | ⟨a, b, c⟩
    · exact .inl (by simpa using z)
    · simp at b
  | j, m0 :: ms, r :: ρ, 0, m, h => by
    rcases m0 with _ | m0
    · simp only [outM, List.getElem?_cons_zero, Option.some.injEq] at h
      split at h
      · cases h
      · exact .inr ⟨by simpa, by simp [h], by simp⟩
    · cases m0 with
      | d x =>
        simp only [outM, List.getElem?_cons_zero, Option.some.injEq] at h
        exact .inl ⟨x, h.symm, by simp⟩
      | _ =>
        simp only [outM, List.getElem?_cons_zero, Option.some.injEq] at h
        split at h
        · cases h
        · exact .inr ⟨by simpa, by simp [h], by simp⟩
  | j, m0 :: ms, r :: ρ, i + 1, m, h => by
    have h' : (outM as (j + 1) ms ρ)[i]? = some (some m) := by
      rcases m0 with _ | m0
      · simpa [outM] using h
      · cases m0 <;> simpa [outM] using h
    rcases outM_get as (j + 1) ms ρ i m h' with z | ⟨a, b, c⟩
    · exact .inl (by simpa using z)
    · refine .inr ⟨?_, by simpa using b, by simpa using c⟩
      have : j + (i + 1) = j + 1 + i := by omega
      rw [this]
      exact a
theorem outM_sl (as : List Nat) : ∀ (j : Nat) (ms ρ : MS) (i : Nat) (m : M), ms.length ≤ ρ.length → j + i ∉ as → (∀ x, ms[i]? ≠ some (some (.d x))) → i < ms.length → ρ[i]? = some (some m) → (outM as j ms ρ)[i]? = some (some m)
  | _, [], _, i, m, _, _, _, h, _ => by simp at h
  | j, m0 :: ms, [], i, m, h, _, _, _, _ => by simp at h
  | j, m0 :: ms, r :: ρ, 0, m, _, na, nd, _, h => by
    simp only [List.getElem?_cons_zero, Option.some.injEq] at h
    subst h
    rcases m0 with _ | m0
    · simp [outM]; simpa using na
    · cases m0 with
      | d x => exact absurd (by simp) (nd x)
      | _ => simp [outM]; simpa using na
  | j, m0 :: ms, r :: ρ, i + 1, m, hl, na, nd, hi, h => by
    have := outM_sl as (j + 1) ms ρ i m (by simpa using hl) (by rw [show j + 1 + i = j + (i + 1) by omega]; exact na) (by simpa using nd) (by simpa using hi) (by simpa using h)
    rcases m0 with _ | m0
    · simpa [outM] using this
    · cases m0 <;> simpa [outM] using this

section
variable {P : Program} {w : World} {K : PySem.W.Frag} {mg : Str → Option Value} {base : Heap} {x qual : Str} {params : Arguments} {body : List Stmt} {scope : Scope} {kws : List (Str × V)} {f : Addr} {fd : FuncData} {N ps : List Str} {k : Nat} {as ws ts : List Nat} {g : FS}

theorem start_rep {H : Hp} {vs : List V} {ms : MS} {fps : Fp} (n : Nat) (S : StR K H (vs.map some) ms fps) (hn : n = N.length - vs.length) : StR K H (start N vs) (ms ++ List.replicate n none) fps := by
  have hl := S.len
  rw [List.length_map] at hl
  subst hn
  refine ⟨by simp [L2.start, hl], fun i m e => ?_, fun i hi => ?_, S.dis⟩
  · by_cases h : i < ms.length
    · rw [List.getElem?_append_left h] at e
      obtain ⟨v, e2, r⟩ := S.slot i m e
      refine ⟨v, ?_, r⟩
      unfold L2.start
      rw [List.getElem?_append_left (by simpa [hl] using h)]
      exact e2
    · rw [List.getElem?_append_right (by omega)] at e
      rw [List.getElem?_replicate] at e
      split at e <;> cases e
  · refine S.emp i fun m e => hi m ?_
    have h := (List.getElem?_eq_some_iff.mp e).1
    rw [List.getElem?_append_left h]
    exact e

theorem DB.weak {X : Cx} {sts : List Stmt} {as' ws' : List Nat} (h : DB X sts as ws g) (ha : ∀ i ∈ as, i ∈ as') (hw : ∀ i ∈ ws, i ∈ ws') : DB X sts as' ws' g := ⟨h.ps.imp fun _ _ _ q => tS_weak ha hw q⟩
theorem fn_den (F : FunD K x qual params body scope [] kws f fd) (S : FnScope N ps scope) (hN : ps.length ≤ N.length) (has : ∀ i ∈ as, i ∈ ws) (hts : ∀ i ∈ ws, i < ps.length → i ∈ ts)
    (h : ∀ (cdv : Value) (A : Around) (outer : List Env) (s : Shared) (H : Hp) (E : XK), Room k (A.deeper (envOfC qual scope s.heap.objs.size f cdv)) → DB (cxOf CX0 P w K mg base N qual scope f cdv A outer s H E).nox body as ws g) :
    FnOk P w K mg base CX0 (k + 1) f fd ps (spF K ts ps.length (fDef ps.length N.length as g)) := by
  classical
  refine F.ok S (fun vs H Q E h => h.choose_spec.choose_spec.choose_spec.choose_spec.1) fun cdv A outer s H vs Q E hr hsp => ?_
  obtain ⟨ms, fps, r, outs, hl, S0, e, q⟩ := hsp
  refine ⟨tS K as ws g, PSs.nox (h cdv A outer s H E hr).ps, ?_⟩
  unfold fDef at e
  have hml : ms.length = ps.length := by
    have := S0.len
    rw [List.length_map, hl] at this
    exact this.symm
  rw [if_pos hml] at e
  obtain ⟨o, e1, e⟩ := Option.bind_eq_some_iff.mp e
  refine ⟨_, fps, o, start_rep (N.length - ps.length) S0 (by rw [hl]), e1, fun σ' H' fps' k' E' => ?_⟩
  have bnd : ∀ j, ∀ b ∈ fps j, j < ps.length := fun j b hb => Classical.byContradiction fun z => by
    have : fps j = [] := S0.emp j fun m e => by
      have := (List.getElem?_eq_some_iff.mp e).1
      omega
    rw [this] at hb; cases hb
  -- behind the body
  have fin : ∀ (ρ : MS) (m : M) (v : V) (fp : List Addr), StR K H' σ' ρ fps' → Rep K H' m v fp → Res ws [] H fps fps' fp → (m, outM as 0 ms ρ) = (r, outs) → Q v H' := fun ρ m v fp S1 R1 P1 eq => by
    obtain ⟨rfl, rfl⟩ := Prod.mk.inj eq
    have isD : ∀ i x, ms[i]? = some (some (M.d x)) → fps i = [] := fun i x e => by
      obtain ⟨u, _, h1, _⟩ := S0.slot i _ e
      exact h1
    have σl : ∀ i, i < ps.length → i ∉ as → σ'[i]? = (vs.map some)[i]? := fun i hi ha => by
      rw [k'.2 i ha]
      unfold L2.start
      rw [List.getElem?_append_left (by simpa [hl] using hi)]
    have outlt : ∀ {i m'}, (outM as 0 ms ρ)[i]? = some (some m') → i < ps.length := fun {i m'} e => by
      have := (List.getElem?_eq_some_iff.mp e).1
      rw [outM_len] at this
      omega
    have hρ : ms.length ≤ ρ.length := by
      rw [← S1.len, k'.1]
      simp [L2.start, hl, hml]
    let fq : Fp := fun i => if (i < ps.length ∧ i ∉ as ∧ ∀ x, ms[i]? ≠ some (some (.d x))) then fps' i else []
    have hfq : ∀ i, ∀ b ∈ fq i, b ∈ fps' i := fun i b hb => by
      have hb : b ∈ (if (i < ps.length ∧ i ∉ as ∧ ∀ x, ms[i]? ≠ some (some (M.d x))) then fps' i else []) := hb
      split at hb
      · exact hb
      · cases hb
    refine q v H' fq fp ⟨?_, fun i m' e => ?_, fun i hi => ?_, fun i j hij b hb hc => S1.dis i j hij b (hfq i b hb) (hfq j b hc)⟩ R1 ⟨fun b o hb kk => E'.keep b o hb fun i hi hbi => kk i (hts i hi (bnd i b hbi)) hbi, E'.live, fun i hi => ?_, fun i hi b hb => ?_⟩ fun b hb => .inr ⟨fun i hbi => res_dj P1 b hb i (hfq i b hbi), ?_⟩
    · rw [outM_len, List.length_map, hl, hml]
    · have hlt := outlt e
      rcases outM_get as 0 ms ρ i m' e with ⟨x, rfl, e2⟩ | ⟨na, e2, nd⟩
      · obtain ⟨u, e3, h1, h2⟩ := S0.slot i _ e2
        refine ⟨u, e3, ?_, RepD.kp (E'.kp (start_rep (N.length - ps.length) S0 (by rw [hl]))) _ _ h2⟩
        show (if (i < ps.length ∧ i ∉ as ∧ ∀ x, ms[i]? ≠ some (some (M.d x))) then fps' i else []) = []
        rw [if_neg fun z => z.2.2 x e2]
      · rw [Nat.zero_add] at na
        obtain ⟨u, e3, h1⟩ := S1.slot i _ e2
        rw [σl i hlt na] at e3
        refine ⟨u, e3, ?_⟩
        show Rep K H' m' u (if (i < ps.length ∧ i ∉ as ∧ ∀ x, ms[i]? ≠ some (some (M.d x))) then fps' i else [])
        rw [if_pos ⟨hlt, na, nd⟩]
        exact h1
    · show (if (i < ps.length ∧ i ∉ as ∧ ∀ x, ms[i]? ≠ some (some (M.d x))) then fps' i else []) = []
      split
      · rename_i hc
        refine S1.emp i fun m' e => hi m' ?_
        exact outM_sl as 0 ms ρ i m' hρ (by rw [Nat.zero_add]; exact hc.2.1) hc.2.2 (by omega) e
      · rfl
    · show (if (i < ps.length ∧ i ∉ as ∧ ∀ x, ms[i]? ≠ some (some (M.d x))) then fps' i else []) = fps i
      by_cases hlt : i < ps.length
      · have nw : i ∉ ws := fun z => hi (hts i z hlt)
        have na : i ∉ as := fun z => nw (has i z)
        by_cases hd : ∃ x, ms[i]? = some (some (M.d x))
        · obtain ⟨x, hd⟩ := hd
          rw [if_neg fun z => z.2.2 x hd, isD i x hd]
        · rw [if_pos ⟨hlt, na, fun x z => hd ⟨x, z⟩⟩, E'.stay i nw]
      · rw [if_neg fun z => hlt z.1]
        refine (S0.emp i fun m e => ?_).symm
        have := (List.getElem?_eq_some_iff.mp e).1
        omega
    · have hb' := hfq i b hb
      by_cases hw : i ∈ ws
      · rcases E'.sub i hw b hb' with ⟨j, hj, z⟩ | z
        · exact .inl ⟨j, hts j hj (bnd j b z), z⟩
        · exact .inr z
      · rw [E'.stay i hw] at hb'
        exact .inl ⟨i, hi, hb'⟩
    · rcases P1 b hb with ⟨j, hj, _⟩ | ⟨_, ⟨j, hj, z⟩ | z⟩
      · cases hj
      · exact .inl ⟨j, hts j hj (bnd j b z), z⟩
      · exact .inr z
  cases o with
  | rt m ρ => exact fun v fp S1 R1 P1 => fin ρ m v fp S1 R1 P1 (Option.some.inj e)
  | nx ρ => exact fun S1 => fin ρ (.d .none) .non [] S1 ⟨rfl, rfl⟩ Res.nil (Option.some.inj e)
  | bk ρ => cases e
  | ct ρ => cases e
end
end DL
namespace DL
open L2 PySem.Spec PySem PyProof.Rows

/-! ### calls: arguments by value (none), or a name's slot, whose object may be changed (some i) -/
abbrev FR := MS → Option (List (Option M) × MS)
structure ArgsOk (K : PySem.W.Frag) (H : Hp) (σ : L2.St) (js : List (Option Nat)) (us : List V) (ms : List (Option M)) (fpa : Fp) : Prop where
  ul : us.length = js.length
  ml : ms.length = js.length
  slot : ∀ k i, js[k]? = some (some i) → fpa k = [] ∧ ∃ v, us[k]? = some v ∧ σ[i]? = some (some v)
  val : ∀ k, js[k]? = some none → ∃ m v, ms[k]? = some (some m) ∧ us[k]? = some v ∧ Rep K H m v (fpa k)
  out : ∀ k, js.length ≤ k → fpa k = []
  dis : ∀ k l, k ≠ l → ∀ b ∈ fpa k, b ∉ fpa l
def tR (K : PySem.W.Frag) (ws : List Nat) (js : List (Option Nat)) (f : FR) : TA := fun σ H Q => ∃ ρ fps ms ρ', StR K H σ ρ fps ∧ f ρ = some (ms, ρ') ∧
  ∀ us H' fps' fpa, StR K H' σ ρ' fps' → ArgsOk K H' σ js us ms fpa → Eff ws H H' fps fps' → (∀ k, Res ws [] H fps fps' (fpa k)) → Q us H'
structure DR (X : Cx) (es : List Expr) (ws : List Nat) (js : List (Option Nat)) (f : FR) : Prop where
  pa : PA X es (tR X.K ws js f)
def fRNil : FR := fun ρ => some ([], ρ)
def fRVal (f : FE) (g : FR) : FR := fun ρ => (f ρ).bind fun p => (g p.2).bind fun q => some (some p.1 :: q.1, q.2)
def fRSlot (i : Nat) (g : FR) : FR := fun ρ => (sl ρ i).bind fun _ => (g ρ).bind fun q => some (none :: q.1, q.2)
section
variable {X : Cx} {e a b : Expr} {es : List Expr} {ws vs ws1 ws2 : List Nat} {js : List (Option Nat)} {f1 : FE} {g : FR} {pos p2 : Pos}
theorem dr_nil : DR X [] [] [] fRNil := by
  refine ⟨pa_nil.imp fun σ H Q h => ?_⟩
  obtain ⟨ρ, fps, ms, ρ', S, e, q⟩ := h
  obtain ⟨rfl, rfl⟩ := Prod.mk.inj (Option.some.inj e)
  exact q [] H fps (fun _ => []) S ⟨rfl, rfl, fun k i e => by simp at e, fun k e => by simp at e, fun _ _ => rfl, fun _ _ _ b hb => by simp at hb⟩ Eff.refl fun _ => Res.nil
theorem dr_val (ha : DE X a ws1 [] f1) (hr : DR X es ws2 js g) (hs : starEach (a :: es) X.env = (false, eval a X.env) :: starEach es X.env := by rfl) : DR X (a :: es) (ws1 ++ ws2) (none :: js) (fRVal f1 g) := by
  refine ⟨(pa_cons ha.pe hr.pa hs).imp fun σ H Q h => ?_⟩
  obtain ⟨ρ, fps, ms, ρ', S, e, q⟩ := h
  obtain ⟨⟨m1, ρ1⟩, e1, e⟩ := Option.bind_eq_some_iff.mp e
  obtain ⟨⟨m2, ρ2⟩, e2, e⟩ := Option.bind_eq_some_iff.mp e
  obtain ⟨rfl, rfl⟩ := Prod.mk.inj (Option.some.inj e)
  refine ⟨ρ, fps, _, _, S, e1, fun v1 H1 fps1 fp1 S1 R1 E1 P1 => ?_⟩
  refine ⟨_, fps1, _, _, S1, e2, fun us H2 fps2 fpa S2 A2 E2 P2 => ?_⟩
  have al := Rep.alive m1 R1
  have hv : ∀ i ∈ ([] : List Nat), i ∉ ws2 := by simp
  have dj : ∀ k, ∀ b ∈ fp1, b ∉ fpa k := fun k b hb hc => by
    rcases P2 k b hc with ⟨i, hi, _⟩ | ⟨_, ⟨j, _, z⟩ | z⟩
    · cases hi
    · exact res_dj P1 b hb j z
    · obtain ⟨o, e, _⟩ := al b hb
      rw [z] at e; cases e
  refine q (v1 :: us) H2 fps2 (fun k => match k with
    | 0 => fp1
    | k + 1 => fpa k) S2 ⟨by simp [A2.ul], by simp [A2.ml], fun k i e => ?_, fun k e => ?_, fun k hk => ?_, fun k l hkl b hb hc => ?_⟩ (E1.trans E2) fun k => ?_
  · cases k with
    | zero => simp at e
    | succ k => simpa using A2.slot k i (by simpa using e)
  · cases k with
    | zero => exact ⟨m1, v1, rfl, rfl, Rep.mono (E2.kp S1) m1 R1 (P1.kept S1 al E2 hv)⟩
    | succ k => simpa using A2.val k (by simpa using e)
  · cases k with
    | zero => simp at hk
    | succ k => exact A2.out k (by simpa using hk)
  · cases k with
    | zero => cases l with
      | zero => exact hkl rfl
      | succ l => exact dj l b hb hc
    | succ k => cases l with
      | zero => exact dj k b hc hb
      | succ l => exact A2.dis k l (by omega) b hb hc
  · cases k with
    | zero => exact P1.carry S1 al E2 hv
    | succ k => exact Res.later E1 (P2 k)
theorem dr_slot (i : Nat) {x : Str} (hr : DR X es ws2 js g) (hN : X.N[i]? = some x := by rfl) (hv : Vis X.env.scope x := by first | exact Or.inl rfl | exact Or.inr (Or.inl rfl) | exact Or.inr (Or.inr rfl)) (hd : (x == ("__debug__" : Str)) = false := by decide)
    (hcd : (x == ("__classdict__" : Str)) = false := by decide) (hs : starEach (.Name x pos :: es) X.env = (false, eval (.Name x pos) X.env) :: starEach es X.env := by rfl) : DR X (.Name x pos :: es) ws2 (some i :: js) (fRSlot i g) := by
  refine ⟨(pa_cons (pe_var hN hv hd hcd) hr.pa hs).imp fun σ H Q h => ?_⟩
  obtain ⟨ρ, fps, ms, ρ', S, e, q⟩ := h
  obtain ⟨m0, e1, e⟩ := Option.bind_eq_some_iff.mp e
  obtain ⟨⟨m2, ρ2⟩, e2, e⟩ := Option.bind_eq_some_iff.mp e
  obtain ⟨rfl, rfl⟩ := Prod.mk.inj (Option.some.inj e)
  obtain ⟨v, hv, _⟩ := S.slot i _ (sl_eq e1)
  refine ⟨v, hv, ρ, fps, _, _, S, e2, fun us H2 fps2 fpa S2 A2 E2 P2 => ?_⟩
  refine q (v :: us) H2 fps2 (fun k => match k with
    | 0 => []
    | k + 1 => fpa k) S2 ⟨by simp [A2.ul], by simp [A2.ml], fun k j e => ?_, fun k e => ?_, fun k hk => ?_, fun k l hkl b hb hc => ?_⟩ E2 fun k => ?_
  · cases k with
    | zero =>
      obtain rfl : i = j := by simpa using e
      exact ⟨rfl, v, rfl, hv⟩
    | succ k => simpa using A2.slot k j (by simpa using e)
  · cases k with
    | zero => simp at e
    | succ k => simpa using A2.val k (by simpa using e)
  · cases k with
    | zero => rfl
    | succ k => exact A2.out k (by simpa using hk)
  · cases k with
    | zero => simp at hb
    | succ k => cases l with
      | zero => simp at hc
      | succ l => exact A2.dis k l (by omega) b hb hc
  · cases k with
    | zero => exact Res.nil
    | succ k => exact P2 k
end

def amsOf : List (Option Nat) → List (Option M) → MS → Option (List M)
  | [], _, _ => some []
  | none :: js, some m :: ms, ρ => (amsOf js ms ρ).bind fun r => some (m :: r)
  | some i :: js, _ :: ms, ρ => (sl ρ i).bind fun m => (amsOf js ms ρ).bind fun r => some (m :: r)
  | _, _, _ => none
def putBack : List (Option Nat) → MS → MS → MS
  | some i :: js, o :: outs, ρ => putBack js outs (ρ.set i o)
  | none :: js, _ :: outs, ρ => putBack js outs ρ
  | _, _, ρ => ρ
def fCall (js : List (Option Nat)) (F : FF) (g : FR) : FE := fun ρ => (g ρ).bind fun p => (amsOf js p.1 p.2).bind fun ams => (F (ams.map some)).bind fun r => some (r.1, putBack js r.2 p.2)

theorem amsOf_len : ∀ {js : List (Option Nat)} {ms : List (Option M)} {ρ : MS} {ams : List M}, amsOf js ms ρ = some ams → ams.length = js.length
  | [], _, _, _, h => by
    simp only [amsOf, Option.some.injEq] at h
    rw [← h]; rfl
  | none :: js, [], _, _, h => by simp [amsOf] at h
  | none :: js, none :: ms, _, _, h => by simp [amsOf] at h
  | none :: js, some m :: ms, _, _, h => by
    obtain ⟨r, e, h⟩ := Option.bind_eq_some_iff.mp (by simpa only [amsOf] using h)
    obtain rfl := Option.some.inj h
    simp [amsOf_len e]
  | some i :: js, [], _, _, h => by simp [amsOf] at h
  | some i :: js, _ :: ms, _, _, h => by
    obtain ⟨m, e0, h⟩ := Option.bind_eq_some_iff.mp (by simpa only [amsOf] using h)
    obtain ⟨r, e, h⟩ := Option.bind_eq_some_iff.mp h
    obtain rfl := Option.some.inj h
    simp [amsOf_len e]
theorem amsOf_get : ∀ {js : List (Option Nat)} {ms : List (Option M)} {ρ : MS} {ams : List M} {k : Nat} {m : M}, amsOf js ms ρ = some ams → ams[k]? = some m → (∃ i, js[k]? = some (some i) ∧ sl ρ i = some m) ∨ (js[k]? = some none ∧ ms[k]? = some (some m))
  | [], _, _, _, _, _, h, e => by
    simp only [amsOf, Option.some.injEq] at h
    subst h
    simp at e
  | none :: js, [], _, _, _, _, h, _ => by simp [amsOf] at h
  | none :: js, none :: ms, _, _, _, _, h, _ => by simp [amsOf] at h
  | none :: js, some m0 :: ms, _, _, k, m, h, e => by
    obtain ⟨r, e0, h⟩ := Option.bind_eq_some_iff.mp (by simpa only [amsOf] using h)
    obtain rfl := Option.some.inj h
    cases k with
    | zero => exact .inr ⟨rfl, by simpa using e⟩
    | succ k => simpa using amsOf_get (k := k) e0 (by simpa using e)
  | some i :: js, [], _, _, _, _, h, _ => by simp [amsOf] at h
  | some i :: js, _ :: ms, _, _, k, m, h, e => by
    obtain ⟨m1, e1, h⟩ := Option.bind_eq_some_iff.mp (by simpa only [amsOf] using h)
    obtain ⟨r, e0, h⟩ := Option.bind_eq_some_iff.mp h
    obtain rfl := Option.some.inj h
    cases k with
    | zero =>
      obtain rfl : m1 = m := by simpa using e
      exact .inl ⟨i, rfl, e1⟩
    | succ k => simpa using amsOf_get (k := k) e0 (by simpa using e)
def sls (js : List (Option Nat)) : List Nat := js.filterMap id
theorem mem_sls {js : List (Option Nat)} {k i : Nat} (h : js[k]? = some (some i)) : i ∈ sls js := List.mem_filterMap.mpr ⟨some i, List.mem_of_getElem? h, rfl⟩
theorem sls_inj : ∀ {js : List (Option Nat)} {k l i : Nat}, (sls js).Nodup → js[k]? = some (some i) → js[l]? = some (some i) → k = l
  | [], _, _, _, _, h, _ => by simp at h
  | none :: js, k, l, i, hn, h, h' => by
    cases k with
    | zero => simp at h
    | succ k => cases l with
      | zero => simp at h'
      | succ l => exact congrArg (· + 1) (sls_inj (js := js) (by simpa [sls] using hn) (by simpa using h) (by simpa using h'))
  | some j :: js, k, l, i, hn, h, h' => by
    have hn' : j ∉ sls js ∧ (sls js).Nodup := by simpa [sls] using hn
    cases k with
    | zero => cases l with
      | zero => rfl
      | succ l =>
        obtain rfl : j = i := by simpa using h
        exact absurd (mem_sls (by simpa using h')) hn'.1
    | succ k => cases l with
      | zero =>
        obtain rfl : j = i := by simpa using h'
        exact absurd (mem_sls (by simpa using h)) hn'.1
      | succ l => exact congrArg (· + 1) (sls_inj (js := js) hn'.2 (by simpa using h) (by simpa using h'))
theorem putBack_len : ∀ (js : List (Option Nat)) (outs ρ : MS), (putBack js outs ρ).length = ρ.length
  | some i :: js, o :: outs, ρ => by simp [putBack, putBack_len js outs]
  | none :: js, _ :: outs, ρ => by simp [putBack, putBack_len js outs]
  | [], _, ρ => by simp [putBack]
  | some _ :: _, [], ρ => by simp [putBack]
  | none :: _, [], ρ => by simp [putBack]
theorem putBack_ne : ∀ (js : List (Option Nat)) (outs ρ : MS) (i : Nat), i ∉ sls js → (putBack js outs ρ)[i]? = ρ[i]?
  | some j :: js, o :: outs, ρ, i, h => by
    have h' : i ≠ j ∧ i ∉ sls js := by simpa [sls] using h
    simp only [putBack]
    rw [putBack_ne js outs _ i h'.2, List.getElem?_set_ne (Ne.symm h'.1)]
  | none :: js, _ :: outs, ρ, i, h => by
    simp only [putBack]
    exact putBack_ne js outs ρ i (by simpa [sls] using h)
  | [], _, ρ, _, _ => by simp [putBack]
  | some _ :: _, [], ρ, _, _ => by simp [putBack]
  | none :: _, [], ρ, _, _ => by simp [putBack]
theorem putBack_at : ∀ (js : List (Option Nat)) (outs ρ : MS) (k i : Nat), (sls js).Nodup → js[k]? = some (some i) → i < ρ.length → outs.length = js.length → (putBack js outs ρ)[i]? = outs[k]?
  | some j :: js, o :: outs, ρ, k, i, hn, h, hi, hl => by
    have hn' : j ∉ sls js ∧ (sls js).Nodup := by simpa [sls] using hn
    simp only [putBack]
    cases k with
    | zero =>
      obtain rfl : j = i := by simpa using h
      rw [putBack_ne js outs _ j hn'.1, List.getElem?_set_self hi]
      rfl
    | succ k =>
      have := putBack_at js outs (ρ.set j o) k i hn'.2 (by simpa using h) (by simpa using hi) (by simpa using hl)
      simpa using this
  | none :: js, o :: outs, ρ, k, i, hn, h, hi, hl => by
    simp only [putBack]
    cases k with
    | zero => simp at h
    | succ k =>
      have := putBack_at js outs ρ k i (by simpa [sls] using hn) (by simpa using h) hi (by simpa using hl)
      simpa using this
  | [], _, ρ, k, i, _, h, _, _ => by simp at h
  | some _ :: _, [], ρ, _, _, _, _, _, hl => by simp at hl
  | none :: _, [], ρ, _, _, _, _, _, hl => by simp at hl
/-- the caller's slots that may be touched -/
def tsl (js : List (Option Nat)) (ts : List Nat) : List Nat := ts.filterMap fun k => (js[k]?).bind id
theorem mem_tsl {js : List (Option Nat)} {ts : List Nat} {k i : Nat} (h : js[k]? = some (some i)) (hk : k ∈ ts) : i ∈ tsl js ts := List.mem_filterMap.mpr ⟨k, hk, by rw [h]; rfl⟩
theorem of_tsl {js : List (Option Nat)} {ts : List Nat} {i : Nat} (h : i ∈ tsl js ts) : ∃ k ∈ ts, js[k]? = some (some i) := by
  obtain ⟨k, hk, e⟩ := List.mem_filterMap.mp h
  refine ⟨k, hk, ?_⟩
  cases q : js[k]? with
  | none => rw [q] at e; cases e
  | some o =>
    rw [q] at e
    have e : o = some i := e
    rw [e]

section
variable {X : Cx} {ws ts : List Nat} {js : List (Option Nat)} {g : FR} {F : FF} {n : Nat}
theorem call_red (hn : (sls js).Nodup) (hl : js.length = n) {σ : L2.St} {H : Hp} {Q : VK} {E : XK} (h : tE X.K (ws ++ tsl js ts) [] (fCall js F g) σ H Q) : tR X.K ws js g σ H fun us H1 => spF X.K ts n F us H1 Q E := by
  classical
  obtain ⟨ρ, fps, m, ρ', S, e, q⟩ := h
  obtain ⟨⟨ms, ρ1⟩, e1, e⟩ := Option.bind_eq_some_iff.mp e
  obtain ⟨ams, e2, e⟩ := Option.bind_eq_some_iff.mp e
  obtain ⟨⟨r, outs⟩, e3, e⟩ := Option.bind_eq_some_iff.mp e
  obtain ⟨rfl, rfl⟩ := Prod.mk.inj (Option.some.inj e)
  refine ⟨ρ, fps, ms, ρ1, S, e1, fun us H1 fps1 fpa S1 A E1 P1 => ?_⟩
  have hal := amsOf_len e2
  -- the arguments' objects
  let fc : Fp := fun k => match js[k]? with
    | some (some i) => fps1 i
    | some none => fpa k
    | none => []
  have fc_s : ∀ {k i}, js[k]? = some (some i) → fc k = fps1 i := fun {k i} e => by
    show (match js[k]? with
      | some (some i) => fps1 i
      | some none => fpa k
      | none => []) = fps1 i
    rw [e]
  have fc_v : ∀ {k}, js[k]? = some none → fc k = fpa k := fun {k} e => by
    show (match js[k]? with
      | some (some i) => fps1 i
      | some none => fpa k
      | none => []) = fpa k
    rw [e]
  have fc_n : ∀ {k}, js[k]? = none → fc k = [] := fun {k} e => by
    show (match js[k]? with
      | some (some i) => fps1 i
      | some none => fpa k
      | none => []) = []
    rw [e]
  have dpa : ∀ k, ∀ b ∈ fpa k, ∀ j, b ∉ fps1 j := fun k => res_dj (P1 k)
  have SC : StR X.K H1 (us.map some) (ams.map some) fc := by
    refine ⟨by rw [List.length_map, List.length_map, A.ul, hal], fun k m e => ?_, fun k hk => ?_, fun k l hkl b hb hc => ?_⟩
    · have e' : ams[k]? = some m := by
        rw [List.getElem?_map] at e
        cases z : ams[k]? with
        | none => rw [z] at e; cases e
        | some y =>
          rw [z] at e
          have : y = m := by simpa using e
          rw [this]
      rcases amsOf_get e2 e' with ⟨i, h1, h2⟩ | ⟨h1, h2⟩
      · obtain ⟨_, v, h3, h4⟩ := A.slot k i h1
        obtain ⟨u, h5, h6⟩ := S1.slot i m (sl_eq h2)
        rw [h4] at h5
        have : v = u := by simpa using h5
        subst this
        exact ⟨v, by rw [List.getElem?_map, h3]; rfl, by rw [fc_s h1]; exact h6⟩
      · obtain ⟨m', v, h3, h4, h5⟩ := A.val k h1
        rw [h2] at h3
        have : m = m' := by simpa using h3
        subst this
        exact ⟨v, by rw [List.getElem?_map, h4]; rfl, by rw [fc_v h1]; exact h5⟩
    · cases z : js[k]? with
      | none => exact fc_n z
      | some o =>
        have hlt : k < ams.length := by
          rw [hal]
          exact (List.getElem?_eq_some_iff.mp z).1
        exact absurd (by rw [List.getElem?_map, List.getElem?_eq_getElem hlt]; rfl) (hk (ams[k]))
    · cases z : js[k]? with
      | none => rw [fc_n z] at hb; cases hb
      | some o => cases z' : js[l]? with
        | none => rw [fc_n z'] at hc; cases hc
        | some o' =>
          cases o with
          | none =>
            rw [fc_v z] at hb
            cases o' with
            | none =>
              rw [fc_v z'] at hc
              exact A.dis k l hkl b hb hc
            | some i' =>
              rw [fc_s z'] at hc
              exact dpa k b hb i' hc
          | some i =>
            rw [fc_s z] at hb
            cases o' with
            | none =>
              rw [fc_v z'] at hc
              exact dpa l b hc i hb
            | some i' =>
              rw [fc_s z'] at hc
              refine S1.dis i i' (fun w => hkl ?_) b hb hc
              subst w
              exact sls_inj hn z z'
  refine ⟨ams.map some, fc, r, outs, by rw [A.ul, hl], SC, e3, fun v H2 fps2 fp SO R2 E2 P2 => ?_⟩
  have hol : outs.length = js.length := by
    have := SO.len
    rw [List.length_map, A.ul] at this
    exact this.symm
  -- a slot's place among the arguments
  let fin : Fp := fun i => if h : ∃ k, js[k]? = some (some i) then fps2 h.choose else fps1 i
  have fin_s : ∀ {k i}, js[k]? = some (some i) → fin i = fps2 k := fun {k i} e => by
    have h : ∃ k, js[k]? = some (some i) := ⟨k, e⟩
    show (if h : ∃ k, js[k]? = some (some i) then fps2 h.choose else fps1 i) = fps2 k
    rw [dif_pos h, sls_inj hn h.choose_spec e]
  have fin_o : ∀ {i}, i ∉ sls js → fin i = fps1 i := fun {i} hi => by
    show (if h : ∃ k, js[k]? = some (some i) then fps2 h.choose else fps1 i) = fps1 i
    rw [dif_neg fun ⟨k, e⟩ => hi (mem_sls e)]
  have ofs : ∀ {i}, i ∈ sls js → ∃ k, js[k]? = some (some i) := fun {i} hi => by
    obtain ⟨o, ho, e⟩ := List.mem_filterMap.mp hi
    have e : o = some i := e
    subst e
    exact List.getElem?_of_mem ho
  have alive1 : ∀ {i b}, b ∈ fps1 i → ∃ o, H1 b = some o := fun {i b} hb => let ⟨o, e, _⟩ := S1.alive hb; ⟨o, e⟩
  -- objects of other slots
  have oth : ∀ {i}, i ∉ sls js → ∀ b ∈ fps1 i, ∀ k, b ∉ fc k := fun {i} hi b hb k hc => by
    cases z : js[k]? with
    | none => rw [fc_n z] at hc; cases hc
    | some o => cases o with
      | none =>
        rw [fc_v z] at hc
        exact dpa k b hc i hb
      | some j =>
        rw [fc_s z] at hc
        exact S1.dis i j (fun w => hi (w ▸ mem_sls z)) b hb hc
  have oth2 : ∀ {i}, i ∉ sls js → ∀ b ∈ fps1 i, ∀ k, b ∉ fps2 k := fun {i} hi b hb k hc => by
    by_cases hk : k ∈ ts
    · rcases E2.sub k hk b hc with ⟨l, _, z⟩ | z
      · exact oth hi b hb l z
      · obtain ⟨o, e⟩ := alive1 hb
        rw [z] at e; cases e
    · rw [E2.stay k hk] at hc
      exact oth hi b hb k hc
  have kept : ∀ {i}, i ∉ sls js → ∀ b ∈ fps1 i, H2 b = H1 b := fun {i} hi b hb => by
    obtain ⟨o, e⟩ := alive1 hb
    rw [e]
    exact E2.keep b o e fun k _ => oth hi b hb k
  have kp := E2.kp SC
  have SF : StR X.K H2 σ (putBack js outs ρ1) fin := by
    refine ⟨by rw [putBack_len]; exact S1.len, fun i m e => ?_, fun i hi => ?_, fun i j hij b hb hc => ?_⟩
    · by_cases hi : i ∈ sls js
      · obtain ⟨k, hk⟩ := ofs hi
        have hlt : i < ρ1.length := by
          have := (List.getElem?_eq_some_iff.mp e).1
          rwa [putBack_len] at this
        rw [putBack_at js outs ρ1 k i hn hk hlt hol] at e
        obtain ⟨u, h1, h2⟩ := SO.slot k m e
        obtain ⟨_, v', h3, h4⟩ := A.slot k i hk
        rw [List.getElem?_map, h3] at h1
        have : v' = u := by simpa using h1
        subst this
        exact ⟨v', h4, by rw [fin_s hk]; exact h2⟩
      · rw [putBack_ne js outs ρ1 i hi] at e
        obtain ⟨u, h1, h2⟩ := S1.slot i m e
        exact ⟨u, h1, by rw [fin_o hi]; exact Rep.mono kp m h2 (kept hi)⟩
    · by_cases h : i ∈ sls js
      · obtain ⟨k, hk⟩ := ofs h
        rw [fin_s hk]
        by_cases hlt : i < ρ1.length
        · refine SO.emp k fun m e => hi m ?_
          rw [putBack_at js outs ρ1 k i hn hk hlt hol]
          exact e
        · obtain ⟨_, v', h3, h4⟩ := A.slot k i hk
          have := (List.getElem?_eq_some_iff.mp h4).1
          rw [S1.len] at this
          exact absurd this hlt
      · rw [fin_o h]
        refine S1.emp i fun m e => hi m ?_
        rw [putBack_ne js outs ρ1 i h]
        exact e
    · by_cases h : i ∈ sls js
      · obtain ⟨k, hk⟩ := ofs h
        rw [fin_s hk] at hb
        by_cases h' : j ∈ sls js
        · obtain ⟨l, hl⟩ := ofs h'
          rw [fin_s hl] at hc
          refine SO.dis k l (fun w => hij ?_) b hb hc
          subst w
          rw [hk] at hl
          simpa using hl
        · rw [fin_o h'] at hc
          exact oth2 h' b hc k hb
      · rw [fin_o h] at hb
        by_cases h' : j ∈ sls js
        · obtain ⟨l, hl⟩ := ofs h'
          rw [fin_s hl] at hc
          exact oth2 h b hb l hc
        · rw [fin_o h'] at hc
          exact S1.dis i j hij b hb hc
  -- where an argument's object comes from
  have orig : ∀ k ∈ ts, ∀ b ∈ fc k, (∃ j ∈ ws ++ tsl js ts, b ∈ fps j) ∨ H b = none := fun k hk b hb => by
    cases z : js[k]? with
    | none => rw [fc_n z] at hb; cases hb
    | some o => cases o with
      | none =>
        rw [fc_v z] at hb
        rcases P1 k b hb with ⟨j, hj, _⟩ | ⟨_, ⟨j, hj, w⟩ | w⟩
        · cases hj
        · exact .inl ⟨j, by simp [hj], w⟩
        · exact .inr w
      | some i =>
        rw [fc_s z] at hb
        by_cases hi : i ∈ ws
        · rcases E1.sub i hi b hb with ⟨j, hj, w⟩ | w
          · exact .inl ⟨j, by simp [hj], w⟩
          · exact .inr w
        · rw [E1.stay i hi] at hb
          exact .inl ⟨i, by simp [mem_tsl z hk], hb⟩
  refine q v H2 fin fp SF R2 ⟨fun b o hb k => ?_, fun b hb => E1.live b (E2.live b hb), fun i hi => ?_, fun i hi b hb => ?_⟩ fun b hb => .inr ⟨fun i hbi => ?_, ?_⟩
  · have h1 := E1.keep b o hb fun i hi => k i (by simp [hi])
    refine E2.keep b o h1 fun l hl hbl => ?_
    rcases orig l hl b hbl with ⟨j, hj, w⟩ | w
    · exact k j hj w
    · rw [hb] at w; cases w
  · have hw : i ∉ ws := fun z => hi (by simp [z])
    by_cases h : i ∈ sls js
    · obtain ⟨k, hk⟩ := ofs h
      have hkt : k ∉ ts := fun z => hi (by simp [mem_tsl hk z])
      rw [fin_s hk, E2.stay k hkt, fc_s hk, E1.stay i hw]
    · rw [fin_o h, E1.stay i hw]
  · by_cases h : i ∈ sls js
    · obtain ⟨k, hk⟩ := ofs h
      rw [fin_s hk] at hb
      by_cases hkt : k ∈ ts
      · rcases E2.sub k hkt b hb with ⟨l, hl, w⟩ | w
        · exact orig l hl b w
        · exact .inr (E1.live b w)
      · rw [E2.stay k hkt, fc_s hk] at hb
        by_cases hw : i ∈ ws
        · rcases E1.sub i hw b hb with ⟨j, hj, w⟩ | w
          · exact .inl ⟨j, by simp [hj], w⟩
          · exact .inr w
        · rw [E1.stay i hw] at hb
          exact .inl ⟨i, hi, hb⟩
    · rw [fin_o h] at hb
      by_cases hw : i ∈ ws
      · rcases E1.sub i hw b hb with ⟨j, hj, w⟩ | w
        · exact .inl ⟨j, by simp [hj], w⟩
        · exact .inr w
      · rw [E1.stay i hw] at hb
        exact .inl ⟨i, hi, hb⟩
  · by_cases h : i ∈ sls js
    · obtain ⟨k, hk⟩ := ofs h
      rw [fin_s hk] at hbi
      exact res_dj P2 b hb k hbi
    · rw [fin_o h] at hbi
      rcases P2 b hb with ⟨j, hj, _⟩ | ⟨_, ⟨j, _, w⟩ | w⟩
      · cases hj
      · exact oth h b hbi j w
      · obtain ⟨o, e⟩ := alive1 hbi
        rw [w] at e; cases e
  · rcases P2 b hb with ⟨j, hj, _⟩ | ⟨_, ⟨j, hj, w⟩ | w⟩
    · cases hj
    · exact orig j hj b w
    · exact .inr (E1.live b w)
/-- a def of the module: its name, its parameters, its level, which of them it may change, what it computes -/
def FnD (P : Program) (w : World) (K : PySem.W.Frag) (mg : Str → Option Value) (base : Heap) (x : Str) (n k : Nat) (ts : List Nat) (F : FF) : Prop :=
  ∃ (f : Addr) (fd : FuncData) (ps : List Str), mg x = some (.ref f) ∧ PySem.W.keepIn K (.ref f) = true ∧ Binds K fd ps [] ∧ FnOk P w K mg base CX0 k f fd ps (spF K ts n F)
/-- f(e, ..) -/
theorem de_call {k j : Nat} {x : Str} {e : Expr} {es : List Expr} {p pos : Pos} (G : FnD X.prog X.w X.K X.mg X.base x n k ts F) (hr : Room j X.A) (hkj : k ≤ j)
    (ha : DR X (e :: es) ws js g) (hg : Gl X x := by rfl) (hn : (sls js).Nodup := by decide) (hl : js.length = n := by rfl) (hdb : (x == ("__debug__" : Str)) = false := by decide)
    (hs : starEach (e :: es) X.env = (false, eval e X.env) :: starEach es X.env := by rfl) (hpl : (backTo pos (starEach es X.env)).any (·.1) = false := by rfl) : DE X (.Call (.Name x p) (e :: es) [] pos) (ws ++ tsl js ts) [] (fCall js F g) := by
  obtain ⟨f, fd, ps, hm, hk, hb, G⟩ := G
  exact ⟨(pe_call (E := E0) G (hr.mono hkj) hg hm hk hb .nil pass0 ha.pa hdb hs hpl).imp fun σ H Q h => by
    have := call_red (E := E0) hn hl h
    simpa only [tCall, List.append_nil] using this⟩
end
/-- the law's end: what the law's def computes of every script -/
def spLaw (K : PySem.W.Frag) : Sp := fun vs H Q _ => ∃ (a : Addr) (ns : List Int), vs = [.ref a] ∧ FzL K H a (ns.map V.int) ∧ ns.length ≤ 63 ∧ ∀ H', Q (.bl true) H'
theorem only_fz {K : PySem.W.Frag} {H : Hp} {a : Addr} {xs : List V} (o : Only H) (h : SqL K H a xs) : FzL K H a xs := by
  rcases h with (h | ⟨u, h⟩) | h
  · rcases o a with z | ⟨u, ys, z⟩
    · rw [z] at h; cases h
    · rw [z] at h; cases h
  · exact .inl ⟨u, h⟩
  · exact .inr h
theorem repds_ints {K : PySem.W.Frag} {H : Hp} : ∀ ns : List Int, RepDs K H (ns.map PyData.int) (ns.map V.int)
  | [] => rfl
  | n :: ns => ⟨_, _, rfl, rfl, repds_ints ns⟩
theorem law_end {K : PySem.W.Frag} {ts : List Nat} {F : FF} (h : ∀ ns : List Int, ns.length ≤ 63 → ∃ outs, F [some (.d (.list (ns.map .int)))] = some (.d (.bool true), outs)) : ∀ vs H Q E, spLaw K vs H Q E → spF K ts 1 F vs H Q E := fun vs H Q E ⟨a, ns, e, hf, hl, q⟩ => by
  subst e
  obtain ⟨outs, ho⟩ := h ns hl
  refine ⟨_, fun _ => [], _, outs, rfl, ⟨rfl, fun i m e => ?_, fun _ _ => rfl, fun _ _ _ b hb => by cases hb⟩, ho, fun v H' fps' fp _ R _ _ => ?_⟩
  · cases i with
    | zero =>
      obtain rfl : M.d (.list (ns.map .int)) = m := by simpa using e
      exact ⟨_, rfl, rfl, a, ns.map V.int, rfl, hf, repds_ints ns⟩
    | succ i => simp at e
  · obtain ⟨_, rfl⟩ := R
    exact q H'
end DL
namespace DL
open L2 PySem.Spec PySem PyProof.Rows

/-! ### set(a list of ints) -/
/-- a set just made -/
abbrev set0 (w : World) : Obj := { cls := .type "set", dict := none, data := .set #[] 0 (.fresh 0 0 (!w.params.followText "set-order")) }
section
variable {P : Program} {w : World} {A : Around} {E : Value → Shared → Prop} {s : Shared}
theorem set_of_list {l : Addr} {items : Array Value} (ns : List Int) {Q : Value → Shared → Prop} (hh : A.handled = none) (hl : s.heap.IsList l items) (hit : IntsAre items.toList ns) (hb : ns.length + 1 < scanBound)
    (h : ∀ (g : Heap) (tk c : Nat), SetR w g s.heap.objs.size (fun j => decide (j ∈ ns)) c → c ≤ ns.length → (∀ b o, s.heap.get? b = some o → g.get? b = some o) → Q (.ref s.heap.objs.size) { s with heap := g, toks := tk }) :
    wpAny (model P w) A (call (.type "set") [.ref l]) Q E s := by
  have lenI : items.size = ns.length := by
    have := IntsAre.length hit
    rwa [Array.length_toList] at this
  have ⟨c0, c1, m0⟩ := F.called_set.mro
  have m1 := F.called_set.made
  have m2 := F.called_set.sub
  apply wpAny_call
  apply codeAny_of_tree
  change wpAny _ _ (callAny (.type "set") _) _ _ _
  apply wpAny_pure
  refine ⟨Code.quiet_builtin _ (by decide +kernel), ?_⟩
  apply codeAny_builtin F.entry_type_call
  rw [Around.under_plain (weight_type_call_type "set" [.ref l] []) rfl]
  have m3 := F.called_set.notType
  have m4 := F.called_set.canCreate
  have m5 := F.typeCall_set_1 (.ref l)
  repeat (any_goals (first | assumption | wp_step))
  apply codeAny_mono (code_set_led1 (.ref l) (E := E) (Q₁ := fun ob t => ob = .ref s.heap.objs.size ∧ t = { s with heap := s.heap.push (set0 w) }) ⟨rfl, rfl⟩)
  intro r1 t1 k1
  rcases r1 with e | fl
  · exact k1
  match fl, k1 with
  | .ret ob, k1 =>
    obtain ⟨rfl, rfl⟩ := k1
    have gS : (s.heap.push (set0 w)).get? s.heap.objs.size = some (set0 w) := Heap.get?_push_size _ rfl
    have tS : Shared.TypeIs { s with heap := s.heap.push (set0 w) } (.ref s.heap.objs.size) "set" := ⟨_, gS, rfl⟩
    have m6 := F.called_set.init.lookup
    have m7 := F.called_set.init.bind (.ref s.heap.objs.size)
    repeat (any_goals (first | assumption | wp_step))
    apply codeAny_mono (codeAny_call_builtin (R := wants (fun r t => r = .none ∧ ∃ g tk c, t = { s with heap := g, toks := tk } ∧ SetR w g s.heap.objs.size (fun j => decide (j ∈ ns)) c ∧ c ≤ ns.length ∧
      ∀ b o, s.heap.get? b = some o → g.get? b = some o) E) F.called_set.init.plain F.entry_set_init (check_set_init_1 tS ?_))
    · intro r2 t2 k2
      rcases r2 with e | fl
      · exact k2
      match fl, k2 with
      | .ret r, k2 =>
        obtain ⟨rfl, g, tk, c, rfl, z1, z2, z3⟩ := k2
        repeat (any_goals (first | assumption | wp_step))
        exact h _ _ _ z1 z2 z3
      | .next, k2 => exact k2.elim
      | .brk, k2 => exact k2.elim
      | .cont, k2 => exact k2.elim
    · have ⟨ol, gol, cl0, nl, dl0⟩ := id hl
      rcases ol with ⟨oc, od, odat, osl⟩
      simp only at cl0 dl0
      subst cl0 dl0
      have gol' : (s.heap.push (set0 w)).get? l = some { cls := .type "list", dict := od, data := .seq items nl, slots := osl } := Heap.get?_push_of_some _ gol
      have q1 := F.sub_list_set
      have q2 := F.sub_list_frozenset
      have q3 : (Value.type "list" == Value.type "dict") = false := by decide
      have hl1 : (s.heap.push (set0 w)).IsList l items := ⟨_, gol', rfl, nl, rfl⟩
      unfold Builtin.«set.__init__» noKeywords Builtin.Frozenset.updateFrom
      generalize eP : pyIter = PI
      wp_walk
      subst eP
      apply wpAny_pyIter_list hl1
      apply wpAny_bind
      apply wpAny_runValue
      have lt0 : l < s.heap.objs.size := Heap.lt_size gol
      have sz1 : (s.heap.push (set0 w)).objs.size = s.heap.objs.size + 1 := Heap.size_push ..
      have ne1 : l ≠ (s.heap.push (set0 w)).objs.size := by rw [sz1]; exact Nat.ne_of_lt (Nat.lt_succ_of_lt lt0)
      have nf : s.heap.objs.size ∉ [(s.heap.push (set0 w)).objs.size, l] := by
        rw [sz1]
        simp only [List.mem_cons, List.not_mem_nil, or_false, not_or]
        exact ⟨Nat.ne_of_lt (Nat.lt_succ_self _), Nat.ne_of_gt lt0⟩
      have vals : ∀ (i : Nat) (v : Value), items[i]? = some v → ∃ k t, ns[i]? = some k ∧ v = .int k t := fun i v hv => by
        have hi : i < ns.length := by rw [← lenI]; exact (Array.getElem?_eq_some_iff.mp hv).1
        obtain ⟨t, e⟩ := PyProof.Rows.IntsAre.int_at hit i v (by rw [Array.getElem?_toList]; exact hv)
        refine ⟨ns[i], t, List.getElem?_eq_getElem hi, e.trans ?_⟩
        rw [List.getD_eq_getElem?_getD, List.getElem?_eq_getElem hi]
        rfl
      apply set_update_ints ((Walks.list (A := A.in1.in1.in1) (by simp [hh]) _ l ne1 items).toS) s.heap.objs.size nf ns lenI hb vals (items.size - 0) 0 _ (by omega) (Nat.zero_le _) ⟨⟨_, Heap.get?_push_size _ rfl, rfl, rfl⟩, hl1.push _⟩
      · exact ⟨0, Nat.le_refl 0, setR_new_at (Heap.get?_push_of_some _ gS)⟩
      · rintro ⟨g, g2, d', tk', os'⟩ c' mv hc' hS'
        obtain rfl : g2 = s.gens := mv.gens
        obtain rfl : d' = s.drawn := mv.drawn
        obtain rfl : os' = s.os := mv.os
        apply wpAny_pure
        change wpAny _ _ (ret Value.none) _ _ _
        apply wpAny_pure
        refine ⟨rfl, g, tk', c', rfl, hS', lenI ▸ hc', fun b o e => ?_⟩
        have lb : b < s.heap.objs.size := Heap.lt_size e
        refine mv.heap b o ?_ (Heap.get?_push_of_some _ (Heap.get?_push_of_some _ e))
        rw [sz1]
        simp only [List.mem_cons, List.not_mem_nil, or_false, not_or]
        exact ⟨Nat.ne_of_lt lb, Nat.ne_of_lt (Nat.lt_succ_of_lt lb)⟩
  | .next, k1 => exact k1.elim
  | .brk, k1 => exact k1.elim
  | .cont, k1 => exact k1.elim
end
end DL
namespace DL
open L2 PySem.Spec PySem PyProof.Rows

/-- the different ones of ns, rising -/
def sortU (ns : List Int) : List Int := ns.eraseDups.mergeSort (fun a b => decide (a ≤ b))
theorem mem_sortU {ns : List Int} {k : Int} : k ∈ sortU ns ↔ k ∈ ns := by
  unfold sortU
  rw [(List.mergeSort_perm _ _).mem_iff, List.mem_eraseDups]
theorem sortU_sorted (ns : List Int) : (sortU ns).Pairwise (· ≤ ·) := by
  have := List.pairwise_mergeSort (le := fun a b : Int => decide (a ≤ b)) (fun a b c h1 h2 => by simp at *; omega) (fun a b => by simp; omega) ns.eraseDups
  exact this.imp fun h => by simpa using h
theorem nodup_eraseDups : ∀ (n : Nat) (ns : List Int), ns.length ≤ n → ns.eraseDups.Nodup
  | _, [], _ => by simp
  | n + 1, a :: ns, h => by
    rw [List.eraseDups_cons]
    refine List.nodup_cons.mpr ⟨?_, nodup_eraseDups n _ ?_⟩
    · rw [List.mem_eraseDups]
      simp
    · have := List.length_filter_le (fun b => !b == a) ns
      simp only [List.length_cons] at h
      omega
theorem sortU_nodup (ns : List Int) : (sortU ns).Nodup := (List.mergeSort_perm _ _).nodup_iff.mpr (nodup_eraseDups _ ns (Nat.le_refl _))
theorem sortU_lt (ns : List Int) : (sortU ns).Pairwise (· < ·) := by
  have h1 := sortU_sorted ns
  have h2 : (sortU ns).Pairwise (· ≠ ·) := sortU_nodup ns
  exact (h1.and h2).imp fun h => by omega
theorem lt_uniq : ∀ {l m : List Int}, l.Pairwise (· < ·) → m.Pairwise (· < ·) → (∀ k, k ∈ l ↔ k ∈ m) → l = m
  | [], [], _, _, _ => rfl
  | [], x :: m, _, _, h => by have := (h x).mpr (by simp); cases this
  | x :: l, [], _, _, h => by have := (h x).mp (by simp); cases this
  | x :: l, y :: m, h1, h2, h => by
    rw [List.pairwise_cons] at h1 h2
    have e : x = y := by
      have a := (h x).mp (by simp)
      have b := (h y).mpr (by simp)
      rcases List.mem_cons.mp a with a | a
      · exact a
      · rcases List.mem_cons.mp b with b | b
        · exact b.symm
        · have := h1.1 y b
          have := h2.1 x a
          omega
    subst e
    rw [lt_uniq h1.2 h2.2 fun k => ?_]
    constructor
    · intro hk
      rcases List.mem_cons.mp ((h k).mp (by simp [hk])) with z | z
      · have := h1.1 k hk; omega
      · exact z
    · intro hk
      rcases List.mem_cons.mp ((h k).mpr (by simp [hk])) with z | z
      · have := h2.1 k hk; omega
      · exact z

section
variable {P : Program} {w : World} {A : Around} {E : Value → Shared → Prop} {s : Shared}
theorem intsAre_back : ∀ {vs : List Value}, (∀ v ∈ vs, ∃ k tk, v = Value.int k tk) → ∃ ns, IntsAre vs ns
  | [], _ => ⟨[], .nil⟩
  | v :: vs, h => by
    obtain ⟨k, tk, rfl⟩ := h v (by simp)
    obtain ⟨ns, r⟩ := intsAre_back fun u hu => h u (List.mem_cons_of_mem _ hu)
    exact ⟨k :: ns, .cons k tk r⟩
theorem each_ints : ∀ {vs : List Value} {ns : List Int}, IntsAre vs ns → PySem.W.EachIs (fun u k => ∃ tk, u = Value.int k tk) vs ns
  | _, _, .nil => .nil
  | _, _, .cons k tk r => .cons ⟨tk, rfl⟩ (each_ints r)
theorem ints_each : ∀ {vs : List Value} {ns : List Int}, PySem.W.EachIs (fun u k => ∃ tk, u = Value.int k tk) vs ns → IntsAre vs ns
  | _, _, .nil => .nil
  | _, _, .cons ⟨tk, rfl⟩ t => .cons _ tk (ints_each t)
/-- sorted(a set of ints), any size -/
theorem sorted_setB {a : Addr} {S : Int → Bool} {n : Nat} {Q : Value → Shared → Prop} (R : SetR w s.heap a S n) (hh : A.handled = none) (hn : n ≤ sizeLine) (hu : A.units + 65 < cLine)
    (hQ : ∀ t p (out : List Value) (c : Nat) (ns : List Int), (∀ b o, s.heap.get? b = some o → t.heap.get? b = some o) → t.gens = s.gens → t.os = s.os → s.heap.objs.size ≤ p →
      t.heap.get? p = some (seqObj "list" (List.toArray out) c) → IntsAre out ns → ns.Pairwise (· < ·) → (∀ k, k ∈ ns ↔ S k = true) → ns.length = n → Q (.ref p) t) :
    wpAny (model P w) A (call (.builtin "sorted") [.ref a]) Q E s := by
  have ⟨o, es, ep, t, ho, hex, hd, g, nd, hm, hb, hf, hsz, hr, hl⟩ := R
  apply Calls.call_function_entry kind_sorted plain_sorted entry_sorted (args_sorted1 _)
  unfold Builtin.«sorted»
  apply wpAny_bind (m := checkCount "sorted" 1 1 _)
  apply wpAny_pure
  apply wpAny_bind
  apply collect_set (A := A.in1) hh ⟨o, ho, hex.1, hd⟩ hf hb hr hl
  intro s1 vs k1 hz g1 o1 pm
  have lv : vs.length = n := by rw [pm.length_eq, List.length_map, Array.length_toList]; exact hsz
  obtain ⟨ks, hI⟩ := intsAre_back (vs := vs) fun v hv => by
    obtain ⟨e, he, q⟩ := List.mem_map.mp (pm.mem_iff.mp hv)
    obtain ⟨k, tk, h1, _⟩ := g e he
    exact ⟨k, tk, by rw [← q]; exact h1⟩
  have map_raw : ∀ {us : List Value} {ms : List Int}, IntsAre us ms → us.map Builtin.Re.reRawOf = ms := fun {us ms} h => by
    induction h with
    | nil => rfl
    | cons k tk r ih => simp only [List.map_cons, ih]; rfl
  have pk : ks.Perm (es.toList.map keyOf) := by
    have q := pm.map Builtin.Re.reRawOf
    rw [List.map_map, map_raw hI] at q
    exact q
  apply wpAny_bind
  refine wpAny_newList ?_ (by rw [lv]; exact hn)
  have hoL : (s1.heap.push (seqObj "list" vs.toArray 0)).get? s1.heap.objs.size = some (seqObj "list" vs.toArray 0) := Heap.get?_push_size _ rfl
  apply wpAny_bind
  apply wpAny_holding
  have eI := each_ints hI
  refine PySem.W.list_sort_data (s := { s1 with heap := s1.heap.push (seqObj "list" vs.toArray 0) }) (bs := ks) (enc := PyData.int) hoL eI (eI.mono fun v k ⟨tk, e⟩ => ⟨[], by rw [e]; exact .int k tk, by simp⟩)
    (PySem.W.AllAlike.of fun b b' => rfl) (PySem.W.Sortable.others fun b => ⟨(fun z => by cases z), (fun xs z => by cases z)⟩) (by rw [← eI.length, lv]; exact hn) (fun b _ => ?_) fun out hlo eo => ?_
  · show A.in1.units + 1 + 0 < cLine
    have : A.in1.units = A.units + 1 := rfl
    omega
  · have hO := ints_each eo
    have eL : PySem.W.dataLe false PyData.int = fun a b : Int => decide (a ≤ b) := PySem.W.dataLe_int fun b => b
    rw [eL] at hO
    have pn : (ks.mergeSort fun a b => decide (a ≤ b)).Perm (es.toList.map keyOf) := (List.mergeSort_perm _ _).trans pk
    have srt : (ks.mergeSort fun a b => decide (a ≤ b)).Pairwise (· ≤ ·) := by
      have := List.pairwise_mergeSort (le := fun a b : Int => decide (a ≤ b)) (fun a b c h1 h2 => by simp at *; omega) (fun a b => by simp; omega) ks
      exact this.imp fun h => by simpa using h
    have nd2 : (ks.mergeSort fun a b => decide (a ≤ b)).Pairwise (· ≠ ·) := pn.nodup_iff.mpr nd
    obtain ⟨c, hc⟩ := sortedHeap_at (vs := vs) (out := List.toArray out) hoL
    apply wpAny_pure
    refine ⟨_, rfl, hQ _ s1.heap.objs.size out c _ (fun b u e => ?_) g1 o1 hz hc hO ((srt.and nd2).imp fun h => by omega) (fun k => by rw [pn.mem_iff, ← hm k]) ?_⟩
    · have q := k1 b u e
      have hlt := Heap.lt_size q
      change (sortedHeap (s1.heap.push (seqObj "list" vs.toArray 0)) s1.heap.objs.size vs (List.toArray out)).get? b = some u
      rw [sortedHeap_old (Nat.ne_of_lt hlt) (by rw [size_push']; exact Nat.lt_succ_of_lt hlt)]
      exact Heap.get?_push_of_some _ q
    · rw [pn.length_eq, List.length_map, Array.length_toList]; exact hsz
end

def intsD : List PyData → Option (List Int)
  | [] => some []
  | .int i :: ds => (intsD ds).bind fun r => some (i :: r)
  | _ => none
theorem intsD_map : ∀ ns : List Int, intsD (ns.map .int) = some ns
  | [] => rfl
  | n :: ns => by simp [intsD, intsD_map ns]
theorem intsD_eq : ∀ {ds : List PyData} {ns : List Int}, intsD ds = some ns → ds = ns.map .int
  | [], _, h => by cases h; rfl
  | .int i :: ds, _, h => by
    obtain ⟨r, e, h⟩ := Option.bind_eq_some_iff.mp (by simpa only [intsD] using h)
    obtain rfl := Option.some.inj h
    rw [intsD_eq e]
    rfl
  | .none :: _, _, h => by simp [intsD] at h
  | .bool _ :: _, _, h => by simp [intsD] at h
  | .str _ :: _, _, h => by simp [intsD] at h
  | .list _ :: _, _, h => by simp [intsD] at h
  | .tuple _ :: _, _, h => by simp [intsD] at h
  | .dict _ :: _, _, h => by simp [intsD] at h
theorem repds_ints_eq {K : PySem.W.Frag} {H : Hp} : ∀ {ns : List Int} {vs : List V}, RepDs K H (ns.map .int) vs → vs = ns.map V.int
  | [], _, h => by cases h; rfl
  | n :: ns, _, h => by
    obtain ⟨v, r, rfl, h1, h2⟩ := h
    cases h1
    rw [repds_ints_eq h2]
    rfl
/-- sorted(set(xs)) of a list of ints -/
def gSortSet : M → Option M
  | .lst ms => (allD ms).bind fun ds => (intsD ds).bind fun ns => if ns.length < 4000 then some (.lst ((sortU ns).map fun k => .d (.int k))) else none
  | .d (.list ds) => (intsD ds).bind fun ns => if ns.length < 4000 then some (.lst ((sortU ns).map fun k => .d (.int k))) else none
  | _ => none
section
variable {X : Cx} {e a b : Expr} {ws vs : List Nat} {f : FE} {pos p p2 pos2 : Pos}
theorem cr_setL (hc : X.calm = true) : CallR X (.type "set") (fun us H Q => ∃ (l : Addr) (ns : List Int), us = [.ref l] ∧ SqL X.K H l (ns.map V.int) ∧ ns.length < 4000 ∧ ∀ q c, H q = none → c ≤ ns.length → Q (.ref q) (upd H q (SetO X.w q (fun j => decide (j ∈ ns)) c))) := by
  intro pins s σ H xs us Q I r h
  obtain ⟨l, ns, rfl, hl, hlen, q⟩ := h
  obtain ⟨u, rfl, ru⟩ := Vals.one r
  obtain rfl : u = Value.ref l := ru
  obtain ⟨its, rv, pl, hz⟩ := I.list hl
  refine set_of_list ns (I.ok.hd hc) pl.isList (by simpa using intsAre_of rv) (by show ns.length + 1 < 4096; omega) fun g tk c R hcn kp => ?_
  have fr := I.hok.fresh (Nat.le_refl s.heap.objs.size)
  exact ⟨.ref s.heap.objs.size, _, I.laid (t' := tk) kp (Nat.le_refl _) (setO_new R), rfl, q _ c fr hcn⟩
theorem cr_sortedB (hc : X.calm = true) (hu : X.A.units + 65 < cLine) : CallR X (.builtin "sorted") (fun us H Q => ∃ (l : Addr) (S : Int → Bool) (n : Nat), us = [.ref l] ∧ H l = some (SetO X.w l S n) ∧ n ≤ 4000 ∧
    ∀ (ns : List Int) (q : Addr), ns.Pairwise (· < ·) → (∀ k : Int, k ∈ ns ↔ S k = true) → H q = none → Q (.ref q) (upd H q (.lst (ns.map V.int)))) := by
  intro pins s σ H xs us Q I r h
  obtain ⟨l, S, n, rfl, hl, hn, q⟩ := h
  obtain ⟨u, rfl, ru⟩ := Vals.one r
  obtain rfl : u = Value.ref l := ru
  refine sorted_setB (setO_get I hl) (I.ok.hd hc) (by rw [sizeLine_eq]; omega) hu fun t p out c ns kp g1 o1 hp hg hi hs hm hlen => ?_
  have hn' : H p = none := I.hok.fresh hp
  have hz : (ns.map V.int).length ≤ sizeLine := by rw [List.length_map, hlen, sizeLine_eq]; omega
  obtain ⟨hh, gg, dd, tk, oo⟩ := t
  obtain rfl : gg = s.gens := g1
  obtain rfl : oo = s.os := o1
  have J : L2.Inv X pins σ (upd H p (.lst (ns.map V.int))) { s with heap := hh, gens := s.gens, drawn := dd, toks := tk } :=
    I.call (ch := []) (Un.laid kp hp hn') (I.hok.laid kp hp ⟨hz, out, c, vals_of_ints (by simpa using hi), hg⟩) I.bare (fun _ z => nomatch z)
  exact ⟨.ref p, _, J, rfl, q ns p hs hm hn'⟩
theorem de_sortSet (hc : X.calm = true) (hu : X.A.units + 65 < cLine) (hm1 : X.mg "sorted" = none) (hm2 : X.mg "set" = none) (ha : DE X a ws vs f) (hg1 : Gl X "sorted" := by rfl) (hg2 : Gl X "set" := by rfl)
    (hs : starEach [a] X.env = (false, eval a X.env) :: starEach [] X.env := by rfl) (hpl : (backTo pos2 (starEach [] X.env)).any (·.1) = false := by rfl)
    (hs' : starEach [.Call (.Name "set" p2) [a] [] pos2] X.env = (false, eval (.Call (.Name "set" p2) [a] [] pos2) X.env) :: starEach [] X.env := by rfl) (hpl' : (backTo pos (starEach [] X.env)).any (·.1) = false := by rfl) :
    DE X (.Call (.Name "sorted" p) [.Call (.Name "set" p2) [a] [] pos2] [] pos) ws [] (fUn gSortSet f) := by
  have h1 := pe_callTy (pos := pos2) (p := p2) (cr_setL hc) hg2 hm2 (by decide +kernel) (pa_cons ha.pe pa_nil hs) (by decide) (by decide) hs hpl
  refine ⟨(pe_callB (pos := pos) (p := p) (cr_sortedB hc hu) hg1 hm1 (by decide +kernel) (pa_cons h1 pa_nil hs') (by decide) (by decide) hs' hpl').imp fun σ H Q h => ?_⟩
  obtain ⟨ρ, fps, m, ρ', S, e, q⟩ := h
  obtain ⟨⟨m1, ρ1⟩, e1, e⟩ := Option.bind_eq_some_iff.mp e
  obtain ⟨z, e3, e⟩ := Option.bind_eq_some_iff.mp e
  obtain ⟨rfl, rfl⟩ := Prod.mk.inj (Option.some.inj e)
  refine ⟨ρ, fps, _, _, S, e1, fun v1 H1 fps1 fp1 S1 R1 E1 P1 => ?_⟩
  have key : ∃ (l : Addr) (ns : List Int), v1 = .ref l ∧ SqL X.K H1 l (ns.map V.int) ∧ ns.length < 4000 ∧ z = .lst ((sortU ns).map fun k => M.d (.int k)) := by
    change gSortSet m1 = some z at e3
    clear q
    unfold gSortSet at e3
    split at e3
    · obtain ⟨ds, h2, e3⟩ := Option.bind_eq_some_iff.mp e3
      obtain ⟨ns, h3, e3⟩ := Option.bind_eq_some_iff.mp e3
      split at e3
      · obtain ⟨l, us, rfl, _, hl, r⟩ := lst_rep h2 R1
        rw [intsD_eq h3] at r
        rw [repds_ints_eq r] at hl
        exact ⟨l, ns, rfl, SqL.of hl, by assumption, (Option.some.inj e3).symm⟩
      · cases e3
    · obtain ⟨ns, h3, e3⟩ := Option.bind_eq_some_iff.mp e3
      split at e3
      · obtain ⟨_, l, us, rfl, hl, r⟩ := R1
        rw [intsD_eq h3] at r
        rw [repds_ints_eq r] at hl
        exact ⟨l, ns, rfl, hl.sq, by assumption, (Option.some.inj e3).symm⟩
      · cases e3
    · cases e3
  obtain ⟨l, ns, rfl, hl, hlen, rfl⟩ := key
  refine ⟨l, ns, rfl, hl, hlen, fun q0 c hq0 hcn => ⟨q0, _, c, rfl, upd_same, by omega, fun ks q1 hs1 hm1' hq1 => ?_⟩⟩
  obtain rfl : ks = sortU ns := lt_uniq hs1 (sortU_lt ns) fun k => by rw [hm1' k, mem_sortU]; simp
  have s01 : Same H1 (upd H1 q0 (SetO X.w q0 (fun j => decide (j ∈ ns)) c)) := Same.new hq0
  have S2 := S1.same s01
  have E2 := E1.trans (Eff.of_same (fps := fps1) s01)
  rw [List.append_nil] at E2
  have nw := new_done S S2 E2 q
  have e9 : ((sortU ns).map fun k => M.d (PyData.int k)) = ((sortU ns).map PyData.int).map M.d := by rw [List.map_map]; rfl
  rw [e9] at nw
  exact New.lst (vs := (sortU ns).map V.int) nw (repds_ints _) hq1
end

/-! ### a bare tuple -/
/-- tuple(xs), its object told -/
def gTupleB : M → Option M
  | .lst ms => (allD ms).bind fun ds => some (.bt ds)
  | _ => none
/-- the place of the first equal one -/
def gIdx (m n : M) : Option M := m.its.bind fun ds => n.py.bind fun d => (ds.findIdx? fun z => PyData.eqv z d).bind fun j => if (SeqAt.shaped (.list ds) && SeqAt.shaped (.tuple ds) && SeqAt.shaped d) = true then some (.d (.int (j : Int))) else none
section
variable {X : Cx} {e a b : Expr} {ws vs ws1 vs1 ws2 vs2 : List Nat} {f f1 f2 : FE} {pos p p2 pos2 apos : Pos}
theorem cr_tupleB : CallR X (.type "tuple") (r1C X.K gTupleB) := by
  intro pins s σ H xs us Q I r h
  obtain ⟨x, m, fx, z, rfl, R, e, n⟩ := h
  obtain ⟨u, rfl, ru⟩ := Vals.one r
  unfold gTupleB at e
  split at e
  · obtain ⟨ds, e1, e⟩ := Option.bind_eq_some_iff.mp e
    cases e
    obtain ⟨l, vs, rfl, _, hl, rd⟩ := lst_rep e1 R
    obtain rfl : u = Value.ref l := ru
    obtain ⟨its, rv, pl, hz⟩ := I.list (SqL.of hl)
    have hlen := rv.length
    refine call_tuple_list pl.isList (fun g kp => ?_) (by simp only [List.size_toArray]; omega)
    have I1 : L2.Inv X pins σ H { s with heap := g } := I.kept (t' := s.toks) kp
    have hn : H g.objs.size = none := I1.hok.fresh (Nat.le_refl _)
    have I2 : L2.Inv X pins σ (upd H g.objs.size (.frz { cls := .type "tuple", data := .seq its.toArray } (.tup vs))) { s with heap := g.push { cls := .type "tuple", data := .seq its.toArray } } :=
      I1.laid (t' := s.toks) (fun b o e => Heap.get?_push_of_some _ e) (Nat.le_refl _) ⟨Heap.get?_push_size _ rfl, hz, its, rv, IsTup.new _ _⟩
    have sm : Same H (upd H g.objs.size (.frz { cls := .type "tuple", data := .seq its.toArray } (.tup vs))) := Same.new hn
    exact ⟨.ref g.objs.size, _, I2, rfl, n _ _ [] sm ⟨rfl, _, vs, rfl, ⟨_, upd_same, rfl, rfl⟩, rd.same sm⟩ (by simp)⟩
  · cases e
theorem bt_ty {pins : List (Addr × Obj)} {s : Shared} {σ : L2.St} {H : Hp} {t : Addr} {us : List V} (I : L2.Inv X pins σ H s) (h : BtT H t us) : s.TypeIs (.ref t) "tuple" ∧ ∀ a, Value.ref t = .ref a → ∃ ob, s.heap.get? a = some ob ∧ ob.dict = none := by
  obtain ⟨o, ho, hd, hc⟩ := h
  obtain ⟨hg, _⟩ := I.hok t _ ho
  exact ⟨⟨o, hg, hc⟩, fun a e => by cases e; exact ⟨o, hg, hd⟩⟩
theorem bt_index (hu : X.A.units + 65 < cLine) : MtR X "tuple.index" (fun x us H Q => ∃ (t : Addr) (y : V) (d : PyData) (ds : List PyData) (j : Nat), x = .ref t ∧ us = [y] ∧ Dp X.K H (.ref t) (.tuple ds) ∧ Dp X.K H y d ∧ SeqAt.shaped (.tuple ds) = true ∧ SeqAt.shaped d = true ∧
    (ds.findIdx? fun z => PyData.eqv z d) = some j ∧ Q (.int (j : Nat)) H) := by
  intro pins s σ H x xs v us Q I rx rxs h
  obtain ⟨t, y, d, ds, j, rfl, rfl, hl, hy, sl', sd, hj, q⟩ := h
  cases rx
  obtain ⟨u, rfl, ry⟩ := Vals.one rxs
  obtain ⟨bs, r1⟩ := Dp.reads I d y u hy ry
  have lay : PyData.canLayAll0 ds = true := SeqAt.canLay_of_shaped sl'
  have room : X.A.units + 1 + min (PyData.depthAll ds) d.depth < cLine := room_in_shaped sd hu
  cases hl with
  | tup hs ha =>
    obtain ⟨its, rv, ⟨⟨cls, dd, data, sls⟩, ho, hc, n, hdt⟩, hlen⟩ := I.tuple hs
    simp only at hc hdt
    subst hc hdt
    obtain ⟨as, h4⟩ := Dp.readsAll I ds _ its ha rv
    have ln : its.length = ds.length := SeqAt.ReadsAll.length ds its as h4
    have mp : its.map (SeqAt.readOf s.heap) = ds := SeqAt.readsAll_map ds its as lay h4
    obtain ⟨hjl, hje, hjn⟩ := List.findIdx?_eq_some_iff_getElem.mp hj
    have at_ : ∀ (m : Nat) (hm : m < its.toArray.size) (hm' : m < ds.length), SeqAt.readOf s.heap its.toArray[m] = ds[m] := fun m hm hm' => by
      have hml : m < its.length := by simpa using hm
      have : ds[m]? = some (SeqAt.readOf s.heap its[m]) := by rw [← mp, List.getElem?_map, List.getElem?_eq_getElem hml]; rfl
      rw [List.getElem?_eq_getElem hm'] at this
      have := Option.some.inj this
      rw [this]
      simp
    have hja : j < its.toArray.size := by simpa [ln] using hjl
    refine call_meets PySem.F.slot_tuple_index ⟨_, ho, rfl⟩ PySem.F.entry_tuple_index (PySem.F.args_tuple_index_2 _ _)
      (TI.tuple_indexAt t its.toArray n dd sls u (fun z => PyData.eqv (SeqAt.readOf s.heap z) d) j hja ?_ ?_) ⟨ho, SeqAt.items_eqAt (vs := its.toArray) (show ReadsAll s.heap its.toArray.toList ds as from h4) r1 lay (SeqAt.canLay_of_shaped sd) room, ?_⟩
    · show PyData.eqv (SeqAt.readOf s.heap its.toArray[j]) d = true
      rw [at_ j hja hjl]
      exact hje
    · intro m hm hmj
      have hmd : m < ds.length := by omega
      show PyData.eqv (SeqAt.readOf s.heap its.toArray[m]) d = false
      rw [at_ m hm hmd]
      have := hjn m hmj
      simpa using this
    · exact ⟨.int (j : Nat), H, I.tok _, ⟨_, rfl⟩, q⟩
/-- t.index(e), t a bare tuple -/
def fBtIdx (f h : FE) : FE := fun ρ => (f ρ).bind fun p => (match p.1 with
  | .bt _ => some ()
  | _ => none).bind fun _ => (h p.2).bind fun q => (gIdx p.1 q.1).bind fun z => some (z, q.2)
theorem de_btIdx (hu : X.A.units + 65 < cLine) (ha : DE X a ws1 vs1 f1) (hb : DE X b ws2 vs2 f2) (hv : ∀ i ∈ vs1, i ∉ ws2 := by decide)
    (hbase : attributeBase a "index" X.env (eval a X.env) = eval a X.env := by rfl)
    (hfew : ((backTo pos (starEach [b] X.env)).all (fun x => !x.1) && (backToKw pos (keywordEach [] X.env)).all (fun x => x.1.isSome)
      && decide ([b].length + ([] : List Keyword).length + (if ([] : List Keyword).isEmpty then 0 else 1) < 30)) = true := by rfl)
    (hline : (apos.endLine == pos.line) = true := by rfl) (hs : starEach [b] X.env = (false, eval b X.env) :: starEach [] X.env := by rfl) (hplain : (backTo pos (starEach [] X.env)).any (·.1) = false := by rfl) :
    DE X (.Call (.Attribute a "index" apos) [b] [] pos) (ws1 ++ ws2) [] (fBtIdx f1 f2) := by
  refine ⟨⟨fun pins s σ H Q I h => ?_⟩⟩
  obtain ⟨ρ, fps, m, ρ', S, e, q⟩ := h
  obtain ⟨⟨m1, ρ1⟩, e1, e⟩ := Option.bind_eq_some_iff.mp e
  obtain ⟨_, e0, e⟩ := Option.bind_eq_some_iff.mp e
  obtain ⟨⟨m2, ρ2⟩, e2, e⟩ := Option.bind_eq_some_iff.mp e
  obtain ⟨z, e3, e⟩ := Option.bind_eq_some_iff.mp e
  obtain ⟨rfl, rfl⟩ := Prod.mk.inj (Option.some.inj e)
  have mbt : ∃ ds, m1 = .bt ds := by
    simp only at e0
    split at e0
    · exact ⟨_, rfl⟩
    · cases e0
  obtain ⟨ds, rfl⟩ := mbt
  refine wpAny_Call_method_late hbase hfew hline rfl (thn (ha.pe.run pins s σ H (fun v H1 => ∃ fps1 fp1, StR X.K H1 σ ρ1 fps1 ∧ Rep X.K H1 (.bt ds) v fp1 ∧ Eff ws1 H H1 fps fps1 ∧ Res ws1 vs1 H fps fps1 fp1) I
    ⟨ρ, fps, _, _, S, e1, fun v H1 fps1 fp1 S1 R1 E1 P1 => ⟨fps1, fp1, S1, R1, E1, P1⟩⟩) fun v s1 ⟨x, H1, I1, r1, fps1, fp1, S1, R1, E1, P1⟩ => ?_)
  obtain ⟨rfl, t, us, rfl, hb1, rd⟩ := id R1
  obtain rfl : v = Value.ref t := r1
  obtain ⟨h1, h2⟩ := bt_ty I1 hb1
  refine ⟨"tuple", "tuple.index", PySem.F.plainAttrs_tuple, PySem.F.slot_tuple_index, PySem.F.type_tuple_index, h1, h2, ?_⟩
  have hA := (pa_cons hb.pe pa_nil hs).run pos pins s1 σ H1 (fun vs H2 => ∃ y fps2 fp2, vs = [y] ∧ StR X.K H2 σ ρ2 fps2 ∧ Rep X.K H2 m2 y fp2 ∧ Eff ws2 H1 H2 fps1 fps2) I1
    ⟨ρ1, fps1, _, _, S1, e2, fun y H2 fps2 fp2 S2 R2 E2 P2 => ⟨y, fps2, fp2, rfl, S2, R2, E2⟩⟩
  rw [hs] at hA ⊢
  refine Calls.callWith_builtin (by show (false || (backTo pos (starEach [] X.env)).any (·.1)) = false; rw [hplain] <;> rfl) (Calls.evalArgs_plain ?_)
  refine thn hA fun us2 s2 ⟨vs2, H2, I2, r2, y, fps2, fp2, hvs, S2, R2, E2⟩ => ?_
  subst hvs
  unfold gIdx at e3
  obtain ⟨ds', e4, e3⟩ := Option.bind_eq_some_iff.mp e3
  obtain ⟨d, e5, e3⟩ := Option.bind_eq_some_iff.mp e3
  obtain ⟨j, e6, e3⟩ := Option.bind_eq_some_iff.mp e3
  obtain rfl : ds = ds' := by simpa [M.its] using e4
  split at e3
  · rename_i sh
    simp only [Bool.and_eq_true] at sh
    obtain rfl := Option.some.inj e3
    have R1' := Rep.mono (E2.kp S1) (.bt ds) R1 (by simp)
    exact bt_index hu pins s2 σ H2 (.ref t) [y] _ us2 Q I2 rfl r2 ⟨t, y, d, ds, j, rfl, rfl, Rep.dp _ R1' rfl, Rep.dp _ R2 e5, sh.1.2, sh.2, e6, (new_done S S2 (E1.trans E2) q).dat rfl⟩
  · cases e3
end
end DL
namespace DL
open L2 PySem.Spec PySem PyProof.Rows

/-! ### isinstance(x, T) -/
def M.ty : M → Option String
  | .d .none => some "NoneType"
  | .d (.bool _) => some "bool"
  | .d (.int _) => some "int"
  | .d (.str _) => some "str"
  | .d (.tuple _) => some "tuple"
  | .bt _ => some "tuple"
  | .d (.list _) => some "list"
  | .lst _ => some "list"
  | _ => none
def gIsA (T : String) : M → Option M := fun m => m.ty.bind fun t => (kitB t T).bind fun b => some (.d (.bool b))
theorem ty_x {K : PySem.W.Frag} {H : Hp} {m : M} {x : V} {fp : List Addr} {t : String} (R : Rep K H m x fp) (h : m.ty = some t) : TyX K H x (.type t) := by
  unfold M.ty at h
  split at h
  · obtain ⟨_, rfl⟩ := R; cases h; exact .base .non
  · obtain ⟨_, rfl⟩ := R; cases h; exact .base (.bl _)
  · obtain ⟨_, rfl⟩ := R; cases h; exact .base (.int _)
  · obtain ⟨_, rfl⟩ := R; cases h; exact .base (.str _)
  · obtain ⟨_, a, vs, rfl, ((e | ⟨o, e⟩) | ⟨o, its, n, e, hc, _⟩), _⟩ := R
    · cases h; exact .base (.tup e)
    · cases h; exact .fTuple e
    · cases h; exact .kTuple e hc
  · obtain ⟨_, a, vs, rfl, ⟨o, e, _⟩, _⟩ := R
    cases h; exact .fTuple e
  · obtain ⟨_, a, vs, rfl, (⟨o, e⟩ | ⟨o, its, n, e, hc, _⟩), _⟩ := R
    · cases h; exact .base (.frz e)
    · cases h; exact .kList e hc
  · obtain ⟨a, vs, fq, rfl, _, e, _⟩ := R
    cases h; exact .base (.lst e)
  · cases h
section
variable {X : Cx} {e a b : Expr} {ws vs ws1 ws2 vs1 vs2 : List Nat} {f f1 f2 : FE} {pos p p2 pos2 apos : Pos}
theorem de_isa (T : String) {y : Str} (hm : X.mg "isinstance" = none) (hm2 : X.mg y = none) (ha : DE X a ws vs f) (hg : Gl X "isinstance" := by rfl) (hg2 : Gl X y := by rfl) (hv : bootBuiltins y = some (.type T) := by decide +kernel)
    (hn : y ≠ "__name__" := by decide) (hdb : (y == ("__debug__" : Str)) = false := by decide)
    (hs : starEach [a, .Name y p2] X.env = (false, eval a X.env) :: starEach [.Name y p2] X.env := by rfl) (hs2 : starEach [.Name y p2] X.env = (false, eval (.Name y p2) X.env) :: starEach [] X.env := by rfl) (hpl : (backTo pos (starEach [.Name y p2] X.env)).any (·.1) = false := by rfl) :
    DE X (.Call (.Name "isinstance" p) [a, .Name y p2] [] pos) ws [] (fUn (gIsA T) f) := by
  refine ⟨(pe_callB (call_isi (X := X)) hg hm (by decide +kernel) (pa_cons ha.pe (pa_cons (pe_bltn (v := .ty T) hg2 hm2 hv rfl hn hdb) pa_nil hs2) hs) (by decide) (by decide) hs hpl).imp fun σ H Q h => ?_⟩
  obtain ⟨ρ, fps, m, ρ', S, e, q⟩ := h
  obtain ⟨⟨m1, ρ1⟩, e1, e⟩ := Option.bind_eq_some_iff.mp e
  obtain ⟨z, e3, e⟩ := Option.bind_eq_some_iff.mp e
  obtain ⟨rfl, rfl⟩ := Prod.mk.inj (Option.some.inj e)
  obtain ⟨t, e4, e3⟩ := Option.bind_eq_some_iff.mp e3
  obtain ⟨b, e5, e3⟩ := Option.bind_eq_some_iff.mp e3
  obtain rfl := Option.some.inj e3
  refine ⟨ρ, fps, _, _, S, e1, fun v1 H1 fps1 fp1 S1 R1 E1 P1 => ?_⟩
  exact ⟨v1, .ty T, .type t, .type T, b, rfl, .ty T, ty_x R1 e4, kit_ty e5, (new_done S S1 E1 q).dat rfl⟩

/-! ### xs.pop(k) -/
def fPop (i : Nat) (f : FE) : FE := fun ρ => (sl ρ i).bind fun m0 => m0.lst?.bind fun _ => (f ρ).bind fun p => p.1.int.bind fun k => (sl p.2 i).bind fun m => m.lst?.bind fun ms => (allD ms).bind fun ds =>
  if -(2 ^ 63) ≤ k ∧ k < 2 ^ 63 then (seqIndex? k ds.length).bind fun j => (ds[j]?).bind fun d => some (.d d, p.2.set i (some (.lst ((ds.eraseIdx j).map M.d)))) else none
theorem RepDs.erase {K : PySem.W.Frag} {H : Hp} : ∀ {ds : List PyData} {vs : List V} (j : Nat), RepDs K H ds vs → RepDs K H (ds.eraseIdx j) (vs.eraseIdx j)
  | [], _, _, h => by cases h; rfl
  | _ :: ds, _, 0, h => by
    obtain ⟨v, r, rfl, h1, h2⟩ := h
    exact h2
  | _ :: ds, _, j + 1, h => by
    obtain ⟨v, r, rfl, h1, h2⟩ := h
    exact ⟨v, _, rfl, h1, RepDs.erase j h2⟩
theorem de_pop (i : Nat) {x : Str} {xp : Pos} (he : DE X e ws vs f1) (hN : X.N[i]? = some x := by rfl) (hv : Vis X.env.scope x := by first | exact Or.inl rfl | exact Or.inr (Or.inl rfl) | exact Or.inr (Or.inr rfl))
    (hd : (x == ("__debug__" : Str)) = false := by decide) (hcd : (x == ("__classdict__" : Str)) = false := by decide)
    (hbase : attributeBase (.Name x xp) "pop" X.env (eval (.Name x xp) X.env) = eval (.Name x xp) X.env := by rfl)
    (hfew : ((backTo pos (starEach [e] X.env)).all (fun x => !x.1) && (backToKw pos (keywordEach [] X.env)).all (fun x => x.1.isSome)
      && decide ([e].length + ([] : List Keyword).length + (if ([] : List Keyword).isEmpty then 0 else 1) < 30)) = true := by rfl)
    (hline : (apos.endLine == pos.line) = true := by rfl) (hs : starEach [e] X.env = (false, eval e X.env) :: starEach [] X.env := by rfl) (hplain : (backTo pos (starEach [] X.env)).any (·.1) = false := by rfl) :
    DE X (.Call (.Attribute (.Name x xp) "pop" apos) [e] [] pos) (ws ++ [i]) [] (fPop i f1) := by
  refine ⟨(pe_bm PySem.F.plainAttrs_list PySem.F.slot_list_pop PySem.F.type_list_pop mt_popAt (pe_var hN hv hd hcd) (pa_cons he.pe pa_nil hs) hbase hfew hline hs hplain).imp fun σ H Q h => ?_⟩
  obtain ⟨ρ, fps, m, ρ', S, e, q⟩ := h
  obtain ⟨m0, e0, e⟩ := Option.bind_eq_some_iff.mp e
  obtain ⟨ms0, e00, e⟩ := Option.bind_eq_some_iff.mp e
  obtain ⟨⟨m1, ρ1⟩, e1, e⟩ := Option.bind_eq_some_iff.mp e
  obtain ⟨k, e2, e⟩ := Option.bind_eq_some_iff.mp e
  obtain ⟨m2, e4, e⟩ := Option.bind_eq_some_iff.mp e
  obtain ⟨ms, e5, e⟩ := Option.bind_eq_some_iff.mp e
  obtain ⟨ds, e6, e⟩ := Option.bind_eq_some_iff.mp e
  split at e
  · rename_i hk
    obtain ⟨j, e7, e⟩ := Option.bind_eq_some_iff.mp e
    obtain ⟨d, e8, e⟩ := Option.bind_eq_some_iff.mp e
    obtain ⟨rfl, rfl⟩ := Prod.mk.inj (Option.some.inj e)
    obtain rfl := M.lst_eq e5
    obtain rfl := M.lst_eq e00
    obtain ⟨w0, hw0, a0, vs0, fq0, rfl, _, hH0, _⟩ := S.slot i _ (sl_eq e0)
    refine ⟨_, hw0, .inl ⟨rfl, _, SqL.of hH0⟩, ρ, fps, _, _, S, e1, fun v H1 fps1 fp1 S1 R1 E1 P1 => ?_⟩
    obtain rfl := M.int_eq e2
    obtain ⟨rfl, rfl⟩ := R1
    have hi := sl_eq e4
    obtain ⟨w, hw, R⟩ := S1.slot i _ hi
    obtain ⟨a, us, rfl, hf, hH, r⟩ := lst_rep e6 R
    obtain rfl : a0 = a := by rw [hw0] at hw; cases hw; rfl
    obtain ⟨y, hy, ry⟩ := r.get e8
    refine ⟨a0, us, k, j, y, rfl, rfl, hH, hk.1, hk.2, by rw [r.len]; exact e7, hy, ?_⟩
    have hr : ∀ b ∈ ([] : List Addr), b ∈ ([] : List Addr) ∨ b ∈ ([] : List Addr) := fun b hb => by cases hb
    have S3 := mut_slot (fp := []) (o := .lst (us.eraseIdx j)) (m' := .lst ((ds.eraseIdx j).map M.d)) S1 hi hw hf ⟨_, hH, trivial⟩ (by simp) hr fun kp0 => ⟨a0, us.eraseIdx j, _, rfl, rfl, upd_same, by simp, Reps.ofD (RepDs.kp kp0 _ _ (r.erase j))⟩
    have E := mut_eff (fp := []) (o := .lst (us.eraseIdx j)) E1 hf Res.nil hr
    refine q y _ _ [] S3 ⟨rfl, ?_⟩ E Res.nil
    refine RepD.kp (fun b o hb hn => ?_) _ _ ry
    rw [upd_ne]
    · exact hb
    · intro z
      subst z
      rw [hH] at hb
      cases hb
      exact hn trivial
  · cases e

/-! ### min(xs, default=d), ints -/
def minL (d : Int) : List Int → Int
  | [] => d
  | n :: ns => ns.foldl min n
def fMinD (f h : FE) : FE := fun ρ => (f ρ).bind fun p => p.1.its.bind fun ds => p.1.lst?.bind fun _ => (intsD ds).bind fun ns => (h p.2).bind fun q => q.1.int.bind fun d => some (.d (.int (minL d ns)), q.2)
theorem depth_ints : ∀ ns : List Int, PyData.depthAll (ns.map .int) ≤ 1
  | [] => by simp [PyData.depthAll]
  | n :: ns => by
    have := depth_ints ns
    simp only [List.map_cons, PyData.depthAll, PyData.depth]
    omega
theorem cr_minDef (hc : X.calm = true) (hu : X.A.units + 65 < cLine) : CallRK X (.builtin "min") [Str.ofString "default"] (fun us zs H Q => ∃ (l : Addr) (ns : List Int) (d : Int), us = [.ref l] ∧ zs = [.int d] ∧ SqL X.K H l (ns.map V.int) ∧ Q (.int (minL d ns)) H) := by
  intro pins s σ H vs zs us ws Q I r rz h
  obtain ⟨l, ns, d, rfl, rfl, hs, q⟩ := h
  obtain rfl := Vals.ref1 r
  obtain ⟨w1, rfl, t, e1⟩ := vals1 rz
  subst e1
  obtain ⟨its, rv, hl, hz⟩ := I.list hs
  have rd : ∃ as, ReadsAll s.heap its (ns.map .int) as := Dp.readsAll I _ _ _ (RepDs.dp _ _ (repds_ints ns)) rv
  obtain ⟨as, rd⟩ := rd
  have dp := depth_ints ns
  refine PySem.W.min_list_default (I.ok.hd hc) hl.isList (xs := ns.map .int) (as := as) (by simpa using rd) ?_ ?_ ?_ ?_
  · refine ⟨fun x hx y hy => ?_, fun x hx => ?_⟩
    · obtain ⟨i, _, rfl⟩ := List.mem_map.mp hx
      obtain ⟨j, _, rfl⟩ := List.mem_map.mp hy
      rfl
    · obtain ⟨i, _, rfl⟩ := List.mem_map.mp hx
      simp
  · show X.A.units + 1 + _ < cLine
    omega
  · intro h0 h' tk kp
    cases ns with
    | nil => exact ⟨.int d, _, I.kept (t' := tk) kp, ⟨t, rfl⟩, q⟩
    | cons n ns => simp at h0
  · intro y ys i v h' tk bs hy hi hr kp
    cases ns with
    | nil => simp at hy
    | cons n ns =>
      obtain ⟨rfl, rfl⟩ : PyData.int n = y ∧ ns.map .int = ys := by simpa using hy
      rw [PySem.W.minD_ints] at hr
      cases hr with
      | int k tk2 => exact ⟨.int _, _, I.kept (t' := tk) kp, ⟨_, rfl⟩, q⟩
theorem de_minD (hc : X.calm = true) (hu : X.A.units + 65 < cLine) {kpos : Pos} (hm : X.mg "min" = none) (ha : DE X a ws1 vs1 f1) (hb : DE X b ws2 vs2 f2) (hg : Gl X "min" := by rfl) (hv : ∀ i ∈ vs1, i ∉ ws2 := by decide)
    (hs : starEach [a] X.env = (false, eval a X.env) :: starEach [] X.env := by rfl)
    (he : backTo pos (starEach [a] X.env) = (false, eval a X.env) :: backTo pos (starEach [] X.env) := by rfl) (hpl : (backTo pos (starEach [a] X.env)).any (·.1) = false := by rfl)
    (hall : (backToKw pos (keywordEach [⟨some "default", b, kpos⟩] X.env)).all (·.1.isSome) = true := by rfl) (hnone : (backToKw pos (keywordEach [⟨some "default", b, kpos⟩] X.env)).any (·.1.isNone) = false := by rfl) (hks : (backToKw pos (keywordEach [⟨some "default", b, kpos⟩] X.env)).filterMap (·.1) = [Str.ofString "default"] := by rfl) :
    DE X (.Call (.Name "min" p) [a] [⟨some "default", b, kpos⟩] pos) (ws1 ++ ws2) [] (fMinD f1 f2) := by
  refine ⟨(pe_callBK (cr_minDef hc hu) hg hm (by decide +kernel) (pa_cons ha.pe pa_nil hs) (pk_cons hb.pe pk_nil) (by decide) (by decide) he hpl hall hnone hks).imp fun σ H Q h => ?_⟩
  obtain ⟨ρ, fps, m, ρ', S, e, q⟩ := h
  obtain ⟨⟨m1, ρ1⟩, e1, e⟩ := Option.bind_eq_some_iff.mp e
  obtain ⟨ds, e2, e⟩ := Option.bind_eq_some_iff.mp e
  obtain ⟨ms, e3, e⟩ := Option.bind_eq_some_iff.mp e
  obtain ⟨ns, e4, e⟩ := Option.bind_eq_some_iff.mp e
  obtain ⟨⟨m2, ρ2⟩, e5, e⟩ := Option.bind_eq_some_iff.mp e
  obtain ⟨d, e6, e⟩ := Option.bind_eq_some_iff.mp e
  obtain ⟨rfl, rfl⟩ := Prod.mk.inj (Option.some.inj e)
  refine ⟨ρ, fps, _, _, S, e1, fun v1 H1 fps1 fp1 S1 R1 E1 P1 => ?_⟩
  refine ⟨ρ1, fps1, _, _, S1, e5, fun v2 H2 fps2 fp2 S2 R2 E2 P2 => ?_⟩
  obtain rfl := M.int_eq e6
  obtain ⟨_, rfl⟩ := R2
  have R1' := Rep.mono (E2.kp S1) m1 R1 (P1.kept S1 (Rep.alive m1 R1) E2 hv)
  obtain rfl := M.lst_eq e3
  have e2' : allD ms = some ds := e2
  obtain ⟨l, us, rfl, _, hl, r⟩ := lst_rep e2' R1'
  rw [intsD_eq e4] at r
  rw [repds_ints_eq r] at hl
  exact ⟨l, ns, d, rfl, rfl, SqL.of hl, (new_done S S2 (E1.trans E2) q).dat rfl⟩
end
end DL
namespace DL
open L2 PySem.Spec PySem PyProof.Rows
theorem _root_.L2.Room.hu {k : Nat} {A : Around} (r : Room k A) : A.units + 65 < cLine := by have := r.un; omega
def top (i : Nat) : Stmt := PySem.Challenge.pw_meetways_k74_whole_all_small_asks.main.body.getD i (.Pass ⟨0, 0, 0, 0⟩)
abbrev s_steps_of : Stmt := top 1
abbrev s_by_begins : Stmt := top 3
abbrev s_comings : Stmt := top 4
abbrev s_moment_of : Stmt := top 5
abbrev s_earliest_by : Stmt := top 6
abbrev s_earliest : Stmt := top 7
abbrev s_early_way : Stmt := top 8
abbrev s_comes_at : Stmt := top 13
abbrev s_look_at_fit : Stmt := top 15
abbrev s_way_for : Stmt := top 16
abbrev s_ways_for : Stmt := top 17
abbrev s_parting_paper : Stmt := top 18
abbrev s_alike_paper : Stmt := top 19
abbrev s_are_alike : Stmt := top 20
abbrev s_is_made : Stmt := top 22
abbrev s_plain : Stmt := top 23
abbrev s__law_deck : Stmt := top 25
abbrev s__law_draw : Stmt := top 26
abbrev s__law_far : Stmt := top 27
abbrev s__law_begin : Stmt := top 28
abbrev s__law_meeting : Stmt := top 29
abbrev s__law_net : Stmt := top 30
abbrev s__law_moment : Stmt := top 31
abbrev s__law_step : Stmt := top 32
abbrev s__law_gone : Stmt := top 33
abbrev s__law_small : Stmt := top 34
abbrev s__law_other : Stmt := top 35
abbrev s__law_ways : Stmt := top 36
abbrev s__law_answers : Stmt := top 37
abbrev s__law_same_answers : Stmt := top 38
abbrev s_law : Stmt := top 39
/-- the built-in names that the text reads are no globals -/
structure Blt (mg : Str → Option Value) : Prop where
  bool : mg "bool" = none
  enumerate : mg "enumerate" = none
  int : mg "int" = none
  isinstance : mg "isinstance" = none
  len : mg "len" = none
  list : mg "list" = none
  max : mg "max" = none
  min : mg "min" = none
  range : mg "range" = none
  set : mg "set" = none
  sorted : mg "sorted" = none
  tuple : mg "tuple" = none

/-! ### steps_of -/
def N_steps_of : List Str := ["net", "found", "number", "meeting", "word", "one", "other", "begin", "long"]
def B_steps_of_1 : FS := fSeq (fAsg (fVar 3) (fGT 5 (fGcons (fGN 4) (fGcons (fGN 5) (fGcons (fGN 6) (fGcons (fGN 7) (fGcons (fGN 8) (fGnil)))))))) <|
    fSeq (fDrop (fApp 1 (fTup (fACons (fCp (fVar 2)) (fACons (fCp (fVar 5)) (fACons (fCp (fVar 6)) (fACons (fCp (fVar 7)) (fACons (fBin gAdd (fVar 7) (fVar 8)) (fANil))))))))) <|
    fIfS (fTst (fBin gEq (fVar 4) (fC (.str "both")))) (fDrop (fApp 1 (fTup (fACons (fCp (fVar 2)) (fACons (fCp (fVar 6)) (fACons (fCp (fVar 5)) (fACons (fCp (fVar 7)) (fACons (fBin gAdd (fVar 7) (fVar 8)) (fANil))))))))) (fNx)
def L_steps_of_1 : FS := fFor (fEn (fIx (fVar 0) (fC (.int 1)))) (fGT 2 (fGcons (fGN 2) (fGcons (fGN 3) (fGnil)))) (B_steps_of_1)
def b_steps_of : FS :=
    fSeq (fSet 1 (fLst (fANil))) <|
    fSeq (L_steps_of_1) <|
    fRet (fUn gTuple (fVar 1))
def d_steps_of : FF := fDef 1 9 [1, 2, 3, 4, 5, 6, 7, 8] b_steps_of
theorem k_steps_of {P : Program} {w : World} {K : PySem.W.Frag} {mg : Str → Option Value} {base : Heap} (B : Blt mg) {fa : Addr} {fd : FuncData} (F : FunD K "steps_of" "steps_of" (defArgs s_steps_of) (defBody s_steps_of) (defScope s_steps_of) [] [] fa fd) (hmg : mg "steps_of" = some (.ref fa)) :
    FnD P w K mg base "steps_of" 1 1 [] d_steps_of := by
  have hN : N_steps_of.Nodup := by decide +kernel
  refine ⟨fa, fd, ["net"], hmg, F.kp, FunD.bindsN F (fun _ _ _ _ _ _ us hl => match us, hl with | [_], _ => rfl), fn_den (N := N_steps_of) (as := [1, 2, 3, 4, 5, 6, 7, 8]) (ws := [1, 2, 3, 4, 5, 6, 7, 8]) F ⟨rfl, rfl, rfl, by decide +kernel, rfl, by decide +kernel, by decide +kernel⟩ (by decide) (by decide) (by decide) fun cdv A outer s H E R => ?_⟩
  have hu := R.hu
  exact DB.weak (
    db_cons (ds_set hN (de_lst (da_nil))) <|
    db_cons (ds_for PassesOwn.never rfl (di_enum B.enumerate (de_ix (de_var 0) (de_int))) (dg_tup rfl (dgs_cons (dg_name hN) (dgs_cons (dg_name hN) (dgs_nil)))) (db_cons (ds_asg (de_var 3) (dg_tup rfl (dgs_cons (dg_name hN) (dgs_cons (dg_name hN) (dgs_cons (dg_name hN) (dgs_cons (dg_name hN) (dgs_cons (dg_name hN) (dgs_nil)))))))) <|
    db_cons (ds_expr (de_app 1 (de_tup (da_cons (de_cp (de_var 2)) (da_cons (de_cp (de_var 5)) (da_cons (de_cp (de_var 6)) (da_cons (de_cp (de_var 7)) (da_cons (de_op op_addG (de_var 7) (de_var 8)) (da_nil))))))))) <|
    db_one (ds_if (dt_cmp (op_eqG hu) (de_var 4) (de_str)) (db_one (ds_expr (de_app 1 (de_tup (da_cons (de_cp (de_var 2)) (da_cons (de_cp (de_var 6)) (da_cons (de_cp (de_var 5)) (da_cons (de_cp (de_var 7)) (da_cons (de_op op_addG (de_var 7) (de_var 8)) (da_nil)))))))))) (db_nil)))) <|
    db_one (ds_ret (de_callT cr_tupleG B.tuple (de_var 1)))) (by decide) (by decide)

/-! ### by_begins -/
def N_by_begins : List Str := ["steps", "begin", "end", "number", "one", "other"]
def C_by_begins_1 : FE := fLc [3, 4, 5, 1, 2] (fIS (fVar 0)) (fGT 5 (fGcons (fGN 3) (fGcons (fGN 4) (fGcons (fGN 5) (fGcons (fGN 1) (fGcons (fGN 2) (fGnil))))))) (fYes) (fTup (fACons (fCp (fVar 1)) (fACons (fCp (fVar 2)) (fACons (fCp (fVar 4)) (fACons (fCp (fVar 5)) (fACons (fCp (fVar 3)) (fANil)))))))
def b_by_begins : FS :=
    fRet (fUn gSorted (C_by_begins_1))
def d_by_begins : FF := fDef 1 6 [] b_by_begins
theorem k_by_begins {P : Program} {w : World} {K : PySem.W.Frag} {mg : Str → Option Value} {base : Heap} (B : Blt mg) {fa : Addr} {fd : FuncData} (F : FunD K "by_begins" "by_begins" (defArgs s_by_begins) (defBody s_by_begins) (defScope s_by_begins) [] [] fa fd) (hmg : mg "by_begins" = some (.ref fa)) :
    FnD P w K mg base "by_begins" 1 1 [] d_by_begins := by
  have hN : N_by_begins.Nodup := by decide +kernel
  refine ⟨fa, fd, ["steps"], hmg, F.kp, FunD.bindsN F (fun _ _ _ _ _ _ us hl => match us, hl with | [_], _ => rfl), fn_den (N := N_by_begins) (as := []) (ws := [1, 2, 3, 4, 5]) F ⟨rfl, rfl, rfl, by decide +kernel, rfl, by decide +kernel, by decide +kernel⟩ (by decide) (by decide) (by decide) fun cdv A outer s H E R => ?_⟩
  have hu := R.hu
  exact DB.weak (
    db_one (ds_ret (de_callB (cr_sortedG hu) B.sorted (de_lc [("number", 3), ("one", 4), ("other", 5), ("begin", 1), ("end", 2)] rfl hN (blkOk_by (N := N_by_begins) (sc := defScope s_by_begins) (by decide +kernel)) (di_seq (de_var 0)) (fun _ _ _ _ _ => dg_tup rfl (dgs_cons (dg_name hN) (dgs_cons (dg_name hN) (dgs_cons (dg_name hN) (dgs_cons (dg_name hN) (dgs_cons (dg_name hN) (dgs_nil))))))) (fun _ _ _ _ _ => dc_nil) (fun _ _ _ _ _ => de_tup (da_cons (de_cp (de_var 1)) (da_cons (de_cp (de_var 2)) (da_cons (de_cp (de_var 4)) (da_cons (de_cp (de_var 5)) (da_cons (de_cp (de_var 3)) (da_nil))))))))))) (by decide) (by decide)

/-! ### comings -/
def N_comings : List Str := ["steps", "many", "place", "moment", "found", "begin", "end", "one", "other", "number"]
def B_comings_1 : FS := fIfS (fTAnd (fTst (fBin gIsNot (fIx (fVar 4) (fVar 7)) (fC .none))) (fTst (fBin gLe (fIx (fIx (fVar 4) (fVar 7)) (fC (.int 0))) (fVar 5)))) (fIfS (fTOr (fTst (fBin gIs (fIx (fVar 4) (fVar 8)) (fC .none))) (fTst (fBin gLt (fVar 6) (fIx (fIx (fVar 4) (fVar 8)) (fC (.int 0)))))) (fPut 4 (fTup (fACons (fCp (fVar 6)) (fACons (fCp (fVar 9)) (fACons (fCp (fVar 7)) (fANil))))) (fVar 8)) (fNx)) (fNx)
def L_comings_1 : FS := fFor (fIS (fCall [some 0] d_by_begins (fRSlot 0 (fRNil)))) (fGT 5 (fGcons (fGN 5) (fGcons (fGN 6) (fGcons (fGN 7) (fGcons (fGN 8) (fGcons (fGN 9) (fGnil))))))) (B_comings_1)
def b_comings : FS :=
    fSeq (fSet 4 (fBin gMul (fLst (fACons (fC .none) (fANil))) (fVar 1))) <|
    fSeq (fPut 4 (fTup (fACons (fCp (fVar 3)) (fACons (fC .none) (fACons (fC .none) (fANil))))) (fVar 2)) <|
    fSeq (L_comings_1) <|
    fRet (fMv 4)
def d_comings : FF := fDef 4 10 [4, 5, 6, 7, 8, 9] b_comings
theorem k_comings {P : Program} {w : World} {K : PySem.W.Frag} {mg : Str → Option Value} {base : Heap} (B : Blt mg) (G_by_begins : FnD P w K mg base "by_begins" 1 1 [] d_by_begins) {fa : Addr} {fd : FuncData} (F : FunD K "comings" "comings" (defArgs s_comings) (defBody s_comings) (defScope s_comings) [] [] fa fd) (hmg : mg "comings" = some (.ref fa)) :
    FnD P w K mg base "comings" 4 2 [] d_comings := by
  have hN : N_comings.Nodup := by decide +kernel
  refine ⟨fa, fd, ["steps", "many", "place", "moment"], hmg, F.kp, FunD.bindsN F (fun _ _ _ _ _ _ us hl => match us, hl with | [_, _, _, _], _ => rfl), fn_den (N := N_comings) (as := [4, 5, 6, 7, 8, 9]) (ws := [4, 5, 6, 7, 8, 9]) F ⟨rfl, rfl, rfl, by decide +kernel, rfl, by decide +kernel, by decide +kernel⟩ (by decide) (by decide) (by decide) fun cdv A outer s H E R => ?_⟩
  have hu := R.hu
  exact DB.weak (
    db_cons (ds_set hN (de_op op_mulG (de_lst (da_cons (de_non) (da_nil))) (de_var 1))) <|
    db_cons (ds_put 4 (de_tup (da_cons (de_cp (de_var 3)) (da_cons (de_non) (da_cons (de_non) (da_nil))))) (de_var 2)) <|
    db_cons (ds_for PassesOwn.never rfl (di_seq (de_call G_by_begins R (by decide) (dr_slot 0 (dr_nil)))) (dg_tup rfl (dgs_cons (dg_name hN) (dgs_cons (dg_name hN) (dgs_cons (dg_name hN) (dgs_cons (dg_name hN) (dgs_cons (dg_name hN) (dgs_nil))))))) (db_one (ds_if (dw_dt (dw_and (dt_cmp op_isNotG (de_ix (de_var 4) (de_var 7)) (de_non)) (dw_and1 (dt_cmp op_leG (de_ix (de_ix (de_var 4) (de_var 7)) (de_int)) (de_var 5))))) (db_one (ds_if (dw_dt (dw_or (dt_cmp op_isG (de_ix (de_var 4) (de_var 8)) (de_non)) (dw_or1 (dt_cmp op_ltG (de_var 6) (de_ix (de_ix (de_var 4) (de_var 8)) (de_int)))))) (db_one (ds_put 4 (de_tup (da_cons (de_cp (de_var 6)) (da_cons (de_cp (de_var 9)) (da_cons (de_cp (de_var 7)) (da_nil))))) (de_var 8))) (db_nil))) (db_nil)))) <|
    db_one (ds_ret (de_mv 4))) (by decide) (by decide)

/-! ### moment_of -/
def N_moment_of : List Str := ["coming"]
def b_moment_of : FS :=
    fSeq (fIfS (fTst (fBin gIs (fVar 0) (fC .none))) (fRet (fC .none)) (fNx)) <|
    fRet (fCp (fIx (fVar 0) (fC (.int 0))))
def d_moment_of : FF := fDef 1 1 [] b_moment_of
theorem k_moment_of {P : Program} {w : World} {K : PySem.W.Frag} {mg : Str → Option Value} {base : Heap} (B : Blt mg) {fa : Addr} {fd : FuncData} (F : FunD K "moment_of" "moment_of" (defArgs s_moment_of) (defBody s_moment_of) (defScope s_moment_of) [] [] fa fd) (hmg : mg "moment_of" = some (.ref fa)) :
    FnD P w K mg base "moment_of" 1 1 [] d_moment_of := by
  have hN : N_moment_of.Nodup := by decide +kernel
  refine ⟨fa, fd, ["coming"], hmg, F.kp, FunD.bindsN F (fun _ _ _ _ _ _ us hl => match us, hl with | [_], _ => rfl), fn_den (N := N_moment_of) (as := []) (ws := []) F ⟨rfl, rfl, rfl, by decide +kernel, rfl, by decide +kernel, by decide +kernel⟩ (by decide) (by decide) (by decide) fun cdv A outer s H E R => ?_⟩
  have hu := R.hu
  exact DB.weak (
    db_cons (ds_if (dt_cmp op_isG (de_var 0) (de_non)) (db_one (ds_ret (de_non))) (db_nil)) <|
    db_one (ds_ret (de_cp (de_ix (de_var 0) (de_int))))) (by decide) (by decide)

/-! ### earliest_by -/
def N_earliest_by : List Str := ["steps", "many", "place", "moment", "coming"]
def C_earliest_by_1 : FE := fLc [4] (fIS (fCall [some 0, none, none, none] d_comings (fRSlot 0 (fRVal (fCp (fVar 1)) (fRVal (fCp (fVar 2)) (fRVal (fCp (fVar 3)) (fRNil))))))) (fGN 4) (fYes) (fCall [none] d_moment_of (fRVal (fCp (fVar 4)) (fRNil)))
def b_earliest_by : FS :=
    fRet (C_earliest_by_1)
def d_earliest_by : FF := fDef 4 5 [] b_earliest_by
theorem k_earliest_by {P : Program} {w : World} {K : PySem.W.Frag} {mg : Str → Option Value} {base : Heap} (B : Blt mg) (G_comings : FnD P w K mg base "comings" 4 2 [] d_comings) (G_moment_of : FnD P w K mg base "moment_of" 1 1 [] d_moment_of) {fa : Addr} {fd : FuncData} (F : FunD K "earliest_by" "earliest_by" (defArgs s_earliest_by) (defBody s_earliest_by) (defScope s_earliest_by) [] [] fa fd) (hmg : mg "earliest_by" = some (.ref fa)) :
    FnD P w K mg base "earliest_by" 4 3 [] d_earliest_by := by
  have hN : N_earliest_by.Nodup := by decide +kernel
  refine ⟨fa, fd, ["steps", "many", "place", "moment"], hmg, F.kp, FunD.bindsN F (fun _ _ _ _ _ _ us hl => match us, hl with | [_, _, _, _], _ => rfl), fn_den (N := N_earliest_by) (as := []) (ws := [4]) F ⟨rfl, rfl, rfl, by decide +kernel, rfl, by decide +kernel, by decide +kernel⟩ (by decide) (by decide) (by decide) fun cdv A outer s H E R => ?_⟩
  have hu := R.hu
  exact DB.weak (
    db_one (ds_ret (de_lc [("coming", 4)] rfl hN (blkOk_by (N := N_earliest_by) (sc := defScope s_earliest_by) (by decide +kernel)) (di_seq (de_call G_comings R (by decide) (dr_slot 0 (dr_val (de_cp (de_var 1)) (dr_val (de_cp (de_var 2)) (dr_val (de_cp (de_var 3)) (dr_nil))))))) (fun _ _ _ _ _ => dg_name hN) (fun _ _ _ _ _ => dc_nil) (fun _ _ _ _ _ => de_call G_moment_of R (by decide) (dr_val (de_cp (de_var 4)) (dr_nil)))))) (by decide) (by decide)

/-! ### earliest -/
def N_earliest : List Str := ["net", "place", "moment"]
def b_earliest : FS :=
    fRet (fUn gTuple (fCall [none, none, none, none] d_earliest_by (fRVal (fCall [none] d_steps_of (fRVal (fCp (fVar 0)) (fRNil))) (fRVal (fCp (fIx (fVar 0) (fC (.int 0)))) (fRVal (fCp (fVar 1)) (fRVal (fCp (fVar 2)) (fRNil)))))))
def d_earliest : FF := fDef 3 3 [] b_earliest
theorem k_earliest {P : Program} {w : World} {K : PySem.W.Frag} {mg : Str → Option Value} {base : Heap} (B : Blt mg) (G_earliest_by : FnD P w K mg base "earliest_by" 4 3 [] d_earliest_by) (G_steps_of : FnD P w K mg base "steps_of" 1 1 [] d_steps_of) {fa : Addr} {fd : FuncData} (F : FunD K "earliest" "earliest" (defArgs s_earliest) (defBody s_earliest) (defScope s_earliest) [] [] fa fd) (hmg : mg "earliest" = some (.ref fa)) :
    FnD P w K mg base "earliest" 3 4 [] d_earliest := by
  have hN : N_earliest.Nodup := by decide +kernel
  refine ⟨fa, fd, ["net", "place", "moment"], hmg, F.kp, FunD.bindsN F (fun _ _ _ _ _ _ us hl => match us, hl with | [_, _, _], _ => rfl), fn_den (N := N_earliest) (as := []) (ws := []) F ⟨rfl, rfl, rfl, by decide +kernel, rfl, by decide +kernel, by decide +kernel⟩ (by decide) (by decide) (by decide) fun cdv A outer s H E R => ?_⟩
  have hu := R.hu
  exact DB.weak (
    db_one (ds_ret (de_callT cr_tupleG B.tuple (de_call G_earliest_by R (by decide) (dr_val (de_call G_steps_of R (by decide) (dr_val (de_cp (de_var 0)) (dr_nil))) (dr_val (de_cp (de_ix (de_var 0) (de_int))) (dr_val (de_cp (de_var 1)) (dr_val (de_cp (de_var 2)) (dr_nil))))))))) (by decide) (by decide)

/-! ### early_way -/
def N_early_way : List Str := ["net", "place", "moment", "other", "came", "numbers", "here"]
def T_early_way_1 : FT := fTst (fBin gNe (fVar 6) (fVar 1))
def B_early_way_1 : FS := fSeq (fDrop (fApp 5 (fCp (fIx (fIx (fVar 4) (fVar 6)) (fC (.int 1)))))) <|
    fSet 6 (fCp (fIx (fIx (fVar 4) (fVar 6)) (fC (.int 2))))
def W_early_way_1 : FS := fWhile 4000 (T_early_way_1) (B_early_way_1)
def b_early_way : FS :=
    fSeq (fSet 4 (fCall [none, none, none, none] d_comings (fRVal (fCall [none] d_steps_of (fRVal (fCp (fVar 0)) (fRNil))) (fRVal (fCp (fIx (fVar 0) (fC (.int 0)))) (fRVal (fCp (fVar 1)) (fRVal (fCp (fVar 2)) (fRNil))))))) <|
    fSeq (fIfS (fTst (fBin gIs (fIx (fVar 4) (fVar 3)) (fC .none))) (fRet (fC .none)) (fNx)) <|
    fSeq (fSet 5 (fLst (fANil))) <|
    fSeq (fSet 6 (fCp (fVar 3))) <|
    fSeq (W_early_way_1) <|
    fRet (fUn gTuple (fPick (fVar 5) (fNo) (fNo) (fSo (fUn gNeg (fC (.int 1))))))
def d_early_way : FF := fDef 4 7 [4, 5, 6] b_early_way
theorem k_early_way {P : Program} {w : World} {K : PySem.W.Frag} {mg : Str → Option Value} {base : Heap} (B : Blt mg) (G_comings : FnD P w K mg base "comings" 4 2 [] d_comings) (G_steps_of : FnD P w K mg base "steps_of" 1 1 [] d_steps_of) {fa : Addr} {fd : FuncData} (F : FunD K "early_way" "early_way" (defArgs s_early_way) (defBody s_early_way) (defScope s_early_way) [] [] fa fd) (hmg : mg "early_way" = some (.ref fa)) :
    FnD P w K mg base "early_way" 4 3 [] d_early_way := by
  have hN : N_early_way.Nodup := by decide +kernel
  refine ⟨fa, fd, ["net", "place", "moment", "other"], hmg, F.kp, FunD.bindsN F (fun _ _ _ _ _ _ us hl => match us, hl with | [_, _, _, _], _ => rfl), fn_den (N := N_early_way) (as := [4, 5, 6]) (ws := [4, 5, 6]) F ⟨rfl, rfl, rfl, by decide +kernel, rfl, by decide +kernel, by decide +kernel⟩ (by decide) (by decide) (by decide) fun cdv A outer s H E R => ?_⟩
  have hu := R.hu
  exact DB.weak (
    db_cons (ds_set hN (de_call G_comings R (by decide) (dr_val (de_call G_steps_of R (by decide) (dr_val (de_cp (de_var 0)) (dr_nil))) (dr_val (de_cp (de_ix (de_var 0) (de_int))) (dr_val (de_cp (de_var 1)) (dr_val (de_cp (de_var 2)) (dr_nil))))))) <|
    db_cons (ds_if (dt_cmp op_isG (de_ix (de_var 4) (de_var 3)) (de_non)) (db_one (ds_ret (de_non))) (db_nil)) <|
    db_cons (ds_set hN (de_lst (da_nil))) <|
    db_cons (ds_set hN (de_cp (de_var 3))) <|
    db_cons (ds_while 4000 PassesOwn.never (dt_cmp (op_neG hu) (de_var 6) (de_var 1)) (db_cons (ds_expr (de_app 5 (de_cp (de_ix (de_ix (de_var 4) (de_var 6)) (de_int))))) <|
    db_one (ds_set hN (de_cp (de_ix (de_ix (de_var 4) (de_var 6)) (de_int)))))) <|
    db_one (ds_ret (de_callT cr_tupleG B.tuple (de_pick (de_var 5) (do_none) (do_none) (do_some (de_un un_negG (de_int))))))) (by decide) (by decide)

/-! ### comes_at -/
def N_comes_at : List Str := ["net", "moment", "way", "word", "one", "other", "begin", "long"]
def b_comes_at : FS :=
    fSeq (fIfS (fTst (fBin gEq (fVar 2) (fTup (fANil)))) (fRet (fCp (fVar 1))) (fNx)) <|
    fSeq (fAsg (fIx (fIx (fVar 0) (fC (.int 1))) (fIx (fVar 2) (fUn gNeg (fC (.int 1))))) (fGT 5 (fGcons (fGN 3) (fGcons (fGN 4) (fGcons (fGN 5) (fGcons (fGN 6) (fGcons (fGN 7) (fGnil)))))))) <|
    fRet (fBin gAdd (fVar 6) (fVar 7))
def d_comes_at : FF := fDef 3 8 [3, 4, 5, 6, 7] b_comes_at
theorem k_comes_at {P : Program} {w : World} {K : PySem.W.Frag} {mg : Str → Option Value} {base : Heap} (B : Blt mg) {fa : Addr} {fd : FuncData} (F : FunD K "comes_at" "comes_at" (defArgs s_comes_at) (defBody s_comes_at) (defScope s_comes_at) [] [] fa fd) (hmg : mg "comes_at" = some (.ref fa)) :
    FnD P w K mg base "comes_at" 3 1 [] d_comes_at := by
  have hN : N_comes_at.Nodup := by decide +kernel
  refine ⟨fa, fd, ["net", "moment", "way"], hmg, F.kp, FunD.bindsN F (fun _ _ _ _ _ _ us hl => match us, hl with | [_, _, _], _ => rfl), fn_den (N := N_comes_at) (as := [3, 4, 5, 6, 7]) (ws := [3, 4, 5, 6, 7]) F ⟨rfl, rfl, rfl, by decide +kernel, rfl, by decide +kernel, by decide +kernel⟩ (by decide) (by decide) (by decide) fun cdv A outer s H E R => ?_⟩
  have hu := R.hu
  exact DB.weak (
    db_cons (ds_if (dt_cmp (op_eqG hu) (de_var 2) (de_tup (da_nil))) (db_one (ds_ret (de_cp (de_var 1)))) (db_nil)) <|
    db_cons (ds_asg (de_ix (de_ix (de_var 0) (de_int)) (de_ix (de_var 2) (de_un un_negG (de_int)))) (dg_tup rfl (dgs_cons (dg_name hN) (dgs_cons (dg_name hN) (dgs_cons (dg_name hN) (dgs_cons (dg_name hN) (dgs_cons (dg_name hN) (dgs_nil)))))))) <|
    db_one (ds_ret (de_op op_addG (de_var 6) (de_var 7)))) (by decide) (by decide)

/-! ### look_at_fit -/
def N_look_at_fit : List Str := ["one", "other"]
def b_look_at_fit : FS :=
    fIfS (fTst (fBin gNe (fIx (fVar 0) (fC (.int 0))) (fIx (fVar 1) (fC (.int 0))))) (fNever) (fNx)
def d_look_at_fit : FF := fDef 2 2 [] b_look_at_fit
theorem k_look_at_fit {P : Program} {w : World} {K : PySem.W.Frag} {mg : Str → Option Value} {base : Heap} (B : Blt mg) {fa : Addr} {fd : FuncData} (F : FunD K "look_at_fit" "look_at_fit" (defArgs s_look_at_fit) (defBody s_look_at_fit) (defScope s_look_at_fit) [] [] fa fd) (hmg : mg "look_at_fit" = some (.ref fa)) :
    FnD P w K mg base "look_at_fit" 2 1 [] d_look_at_fit := by
  have hN : N_look_at_fit.Nodup := by decide +kernel
  refine ⟨fa, fd, ["one", "other"], hmg, F.kp, FunD.bindsN F (fun _ _ _ _ _ _ us hl => match us, hl with | [_, _], _ => rfl), fn_den (N := N_look_at_fit) (as := []) (ws := []) F ⟨rfl, rfl, rfl, by decide +kernel, rfl, by decide +kernel, by decide +kernel⟩ (by decide) (by decide) (by decide) fun cdv A outer s H E R => ?_⟩
  have hu := R.hu
  exact DB.weak (
    db_one (ds_if (dt_cmp (op_neG hu) (de_ix (de_var 0) (de_int)) (de_ix (de_var 1) (de_int))) (db_one (ds_never)) (db_nil))) (by decide) (by decide)

/-! ### way_for -/
def N_way_for : List Str := ["net", "step", "way"]
def b_way_for : FS :=
    fSeq (fSet 2 (fCall [none, none, none, none] d_early_way (fRVal (fCp (fVar 0)) (fRVal (fCp (fIx (fVar 1) (fC (.int 1)))) (fRVal (fCp (fIx (fVar 1) (fC (.int 3)))) (fRVal (fCp (fIx (fVar 1) (fC (.int 2)))) (fRNil))))))) <|
    fSeq (fIfS (fTOr (fTst (fBin gIs (fVar 2) (fC .none))) (fTst (fBin gGt (fCall [none, none, none] d_comes_at (fRVal (fCp (fVar 0)) (fRVal (fCp (fIx (fVar 1) (fC (.int 3)))) (fRVal (fCp (fVar 2)) (fRNil))))) (fIx (fVar 1) (fC (.int 4)))))) (fRet (fC .none)) (fNx)) <|
    fRet (fCp (fVar 2))
def d_way_for : FF := fDef 2 3 [2] b_way_for
theorem k_way_for {P : Program} {w : World} {K : PySem.W.Frag} {mg : Str → Option Value} {base : Heap} (B : Blt mg) (G_early_way : FnD P w K mg base "early_way" 4 3 [] d_early_way) (G_comes_at : FnD P w K mg base "comes_at" 3 1 [] d_comes_at) {fa : Addr} {fd : FuncData} (F : FunD K "way_for" "way_for" (defArgs s_way_for) (defBody s_way_for) (defScope s_way_for) [] [] fa fd) (hmg : mg "way_for" = some (.ref fa)) :
    FnD P w K mg base "way_for" 2 4 [] d_way_for := by
  have hN : N_way_for.Nodup := by decide +kernel
  refine ⟨fa, fd, ["net", "step"], hmg, F.kp, FunD.bindsN F (fun _ _ _ _ _ _ us hl => match us, hl with | [_, _], _ => rfl), fn_den (N := N_way_for) (as := [2]) (ws := [2]) F ⟨rfl, rfl, rfl, by decide +kernel, rfl, by decide +kernel, by decide +kernel⟩ (by decide) (by decide) (by decide) fun cdv A outer s H E R => ?_⟩
  have hu := R.hu
  exact DB.weak (
    db_cons (ds_set hN (de_call G_early_way R (by decide) (dr_val (de_cp (de_var 0)) (dr_val (de_cp (de_ix (de_var 1) (de_int))) (dr_val (de_cp (de_ix (de_var 1) (de_int))) (dr_val (de_cp (de_ix (de_var 1) (de_int))) (dr_nil))))))) <|
    db_cons (ds_if (dw_dt (dw_or (dt_cmp op_isG (de_var 2) (de_non)) (dw_or1 (dt_cmp op_gtG (de_call G_comes_at R (by decide) (dr_val (de_cp (de_var 0)) (dr_val (de_cp (de_ix (de_var 1) (de_int))) (dr_val (de_cp (de_var 2)) (dr_nil))))) (de_ix (de_var 1) (de_int)))))) (db_one (ds_ret (de_non))) (db_nil)) <|
    db_one (ds_ret (de_cp (de_var 2)))) (by decide) (by decide)

/-! ### ways_for -/
def N_ways_for : List Str := ["net", "steps", "step"]
def C_ways_for_1 : FE := fLc [2] (fIS (fVar 1)) (fGN 2) (fYes) (fCall [none, none] d_way_for (fRVal (fCp (fVar 0)) (fRVal (fCp (fVar 2)) (fRNil))))
def b_ways_for : FS :=
    fRet (fUn gTupleB (C_ways_for_1))
def d_ways_for : FF := fDef 2 3 [] b_ways_for
theorem k_ways_for {P : Program} {w : World} {K : PySem.W.Frag} {mg : Str → Option Value} {base : Heap} (B : Blt mg) (G_way_for : FnD P w K mg base "way_for" 2 4 [] d_way_for) {fa : Addr} {fd : FuncData} (F : FunD K "ways_for" "ways_for" (defArgs s_ways_for) (defBody s_ways_for) (defScope s_ways_for) [] [] fa fd) (hmg : mg "ways_for" = some (.ref fa)) :
    FnD P w K mg base "ways_for" 2 5 [] d_ways_for := by
  have hN : N_ways_for.Nodup := by decide +kernel
  refine ⟨fa, fd, ["net", "steps"], hmg, F.kp, FunD.bindsN F (fun _ _ _ _ _ _ us hl => match us, hl with | [_, _], _ => rfl), fn_den (N := N_ways_for) (as := []) (ws := [2]) F ⟨rfl, rfl, rfl, by decide +kernel, rfl, by decide +kernel, by decide +kernel⟩ (by decide) (by decide) (by decide) fun cdv A outer s H E R => ?_⟩
  have hu := R.hu
  exact DB.weak (
    db_one (ds_ret (de_callT cr_tupleB B.tuple (de_lc [("step", 2)] rfl hN (blkOk_by (N := N_ways_for) (sc := defScope s_ways_for) (by decide +kernel)) (di_seq (de_var 1)) (fun _ _ _ _ _ => dg_name hN) (fun _ _ _ _ _ => dc_nil) (fun _ _ _ _ _ => de_call G_way_for R (by decide) (dr_val (de_cp (de_var 0)) (dr_val (de_cp (de_var 2)) (dr_nil)))))))) (by decide) (by decide)

/-! ### parting_paper -/
def N_parting_paper : List Str := ["k", "steps", "ways", "net", "step", "ask"]
def b_parting_paper : FS :=
    fSeq (fSet 4 (fCp (fIx (fVar 1) (fBtIdx (fVar 2) (fC .none))))) <|
    fSeq (fSet 5 (fTup (fACons (fCp (fIx (fVar 4) (fC (.int 1)))) (fACons (fCp (fIx (fVar 4) (fC (.int 3)))) (fACons (fCp (fIx (fVar 4) (fC (.int 2)))) (fACons (fCp (fIx (fVar 4) (fC (.int 4)))) (fANil))))))) <|
    fRet (fTup (fACons (fC (.str "parts")) (fACons (fCp (fVar 0)) (fACons (fCp (fVar 5)) (fACons (fTup (fACons (fCp (fIx (fVar 4) (fC (.int 0)))) (fANil))) (fACons (fUn gTuple (fCall [none, none, none] d_earliest (fRVal (fCp (fVar 3)) (fRVal (fCp (fIx (fVar 4) (fC (.int 1)))) (fRVal (fCp (fIx (fVar 4) (fC (.int 3)))) (fRNil)))))) (fANil)))))))
def d_parting_paper : FF := fDef 4 6 [4, 5] b_parting_paper
theorem k_parting_paper {P : Program} {w : World} {K : PySem.W.Frag} {mg : Str → Option Value} {base : Heap} (B : Blt mg) (G_earliest : FnD P w K mg base "earliest" 3 4 [] d_earliest) {fa : Addr} {fd : FuncData} (F : FunD K "parting_paper" "parting_paper" (defArgs s_parting_paper) (defBody s_parting_paper) (defScope s_parting_paper) [] [] fa fd) (hmg : mg "parting_paper" = some (.ref fa)) :
    FnD P w K mg base "parting_paper" 4 5 [] d_parting_paper := by
  have hN : N_parting_paper.Nodup := by decide +kernel
  refine ⟨fa, fd, ["k", "steps", "ways", "net"], hmg, F.kp, FunD.bindsN F (fun _ _ _ _ _ _ us hl => match us, hl with | [_, _, _, _], _ => rfl), fn_den (N := N_parting_paper) (as := [4, 5]) (ws := [4, 5]) F ⟨rfl, rfl, rfl, by decide +kernel, rfl, by decide +kernel, by decide +kernel⟩ (by decide) (by decide) (by decide) fun cdv A outer s H E R => ?_⟩
  have hu := R.hu
  exact DB.weak (
    db_cons (ds_set hN (de_cp (de_ix (de_var 1) (de_btIdx hu (de_var 2) (de_non))))) <|
    db_cons (ds_set hN (de_tup (da_cons (de_cp (de_ix (de_var 4) (de_int))) (da_cons (de_cp (de_ix (de_var 4) (de_int))) (da_cons (de_cp (de_ix (de_var 4) (de_int))) (da_cons (de_cp (de_ix (de_var 4) (de_int))) (da_nil))))))) <|
    db_one (ds_ret (de_tup (da_cons (de_str) (da_cons (de_cp (de_var 0)) (da_cons (de_cp (de_var 5)) (da_cons (de_tup (da_cons (de_cp (de_ix (de_var 4) (de_int))) (da_nil))) (da_cons (de_callT cr_tupleG B.tuple (de_call G_earliest R (by decide) (dr_val (de_cp (de_var 3)) (dr_val (de_cp (de_ix (de_var 4) (de_int))) (dr_val (de_cp (de_ix (de_var 4) (de_int))) (dr_nil)))))) (da_nil))))))))) (by decide) (by decide)

/-! ### alike_paper -/
def N_alike_paper : List Str := ["one", "other", "ways", "others"]
def b_alike_paper : FS :=
    fSeq (fDrop (fCall [none, none] d_look_at_fit (fRVal (fCp (fVar 0)) (fRVal (fCp (fVar 1)) (fRNil))))) <|
    fSeq (fSet 2 (fCall [none, none] d_ways_for (fRVal (fCp (fVar 1)) (fRVal (fCall [none] d_steps_of (fRVal (fCp (fVar 0)) (fRNil))) (fRNil))))) <|
    fSeq (fIfS (fTst (fBin gIn (fC .none) (fVar 2))) (fRet (fCall [none, none, some 2, none] d_parting_paper (fRVal (fC (.int 0)) (fRVal (fCall [none] d_steps_of (fRVal (fCp (fVar 0)) (fRNil))) (fRSlot 2 (fRVal (fCp (fVar 1)) (fRNil))))))) (fNx)) <|
    fSeq (fSet 3 (fCall [none, none] d_ways_for (fRVal (fCp (fVar 0)) (fRVal (fCall [none] d_steps_of (fRVal (fCp (fVar 1)) (fRNil))) (fRNil))))) <|
    fSeq (fIfS (fTst (fBin gIn (fC .none) (fVar 3))) (fRet (fCall [none, none, some 3, none] d_parting_paper (fRVal (fC (.int 1)) (fRVal (fCall [none] d_steps_of (fRVal (fCp (fVar 1)) (fRNil))) (fRSlot 3 (fRVal (fCp (fVar 0)) (fRNil))))))) (fNx)) <|
    fRet (fTup (fACons (fC (.str "alike")) (fACons (fCp (fVar 2)) (fACons (fCp (fVar 3)) (fANil)))))
def d_alike_paper : FF := fDef 2 4 [2, 3] b_alike_paper
theorem k_alike_paper {P : Program} {w : World} {K : PySem.W.Frag} {mg : Str → Option Value} {base : Heap} (B : Blt mg) (G_look_at_fit : FnD P w K mg base "look_at_fit" 2 1 [] d_look_at_fit) (G_ways_for : FnD P w K mg base "ways_for" 2 5 [] d_ways_for) (G_steps_of : FnD P w K mg base "steps_of" 1 1 [] d_steps_of) (G_parting_paper : FnD P w K mg base "parting_paper" 4 5 [] d_parting_paper) {fa : Addr} {fd : FuncData} (F : FunD K "alike_paper" "alike_paper" (defArgs s_alike_paper) (defBody s_alike_paper) (defScope s_alike_paper) [] [] fa fd) (hmg : mg "alike_paper" = some (.ref fa)) :
    FnD P w K mg base "alike_paper" 2 6 [] d_alike_paper := by
  have hN : N_alike_paper.Nodup := by decide +kernel
  refine ⟨fa, fd, ["one", "other"], hmg, F.kp, FunD.bindsN F (fun _ _ _ _ _ _ us hl => match us, hl with | [_, _], _ => rfl), fn_den (N := N_alike_paper) (as := [2, 3]) (ws := [2, 3]) F ⟨rfl, rfl, rfl, by decide +kernel, rfl, by decide +kernel, by decide +kernel⟩ (by decide) (by decide) (by decide) fun cdv A outer s H E R => ?_⟩
  have hu := R.hu
  exact DB.weak (
    db_cons (ds_expr (de_call G_look_at_fit R (by decide) (dr_val (de_cp (de_var 0)) (dr_val (de_cp (de_var 1)) (dr_nil))))) <|
    db_cons (ds_set hN (de_call G_ways_for R (by decide) (dr_val (de_cp (de_var 1)) (dr_val (de_call G_steps_of R (by decide) (dr_val (de_cp (de_var 0)) (dr_nil))) (dr_nil))))) <|
    db_cons (ds_if (dt_cmp (op_inG hu) (de_non) (de_var 2)) (db_one (ds_ret (de_call G_parting_paper R (by decide) (dr_val (de_int) (dr_val (de_call G_steps_of R (by decide) (dr_val (de_cp (de_var 0)) (dr_nil))) (dr_slot 2 (dr_val (de_cp (de_var 1)) (dr_nil)))))))) (db_nil)) <|
    db_cons (ds_set hN (de_call G_ways_for R (by decide) (dr_val (de_cp (de_var 0)) (dr_val (de_call G_steps_of R (by decide) (dr_val (de_cp (de_var 1)) (dr_nil))) (dr_nil))))) <|
    db_cons (ds_if (dt_cmp (op_inG hu) (de_non) (de_var 3)) (db_one (ds_ret (de_call G_parting_paper R (by decide) (dr_val (de_int) (dr_val (de_call G_steps_of R (by decide) (dr_val (de_cp (de_var 1)) (dr_nil))) (dr_slot 3 (dr_val (de_cp (de_var 0)) (dr_nil)))))))) (db_nil)) <|
    db_one (ds_ret (de_tup (da_cons (de_str) (da_cons (de_cp (de_var 2)) (da_cons (de_cp (de_var 3)) (da_nil))))))) (by decide) (by decide)

/-! ### are_alike -/
def N_are_alike : List Str := ["one", "other"]
def b_are_alike : FS :=
    fRet (fBin gEq (fIx (fCall [none, none] d_alike_paper (fRVal (fCp (fVar 0)) (fRVal (fCp (fVar 1)) (fRNil)))) (fC (.int 0))) (fC (.str "alike")))
def d_are_alike : FF := fDef 2 2 [] b_are_alike
theorem k_are_alike {P : Program} {w : World} {K : PySem.W.Frag} {mg : Str → Option Value} {base : Heap} (B : Blt mg) (G_alike_paper : FnD P w K mg base "alike_paper" 2 6 [] d_alike_paper) {fa : Addr} {fd : FuncData} (F : FunD K "are_alike" "are_alike" (defArgs s_are_alike) (defBody s_are_alike) (defScope s_are_alike) [] [] fa fd) (hmg : mg "are_alike" = some (.ref fa)) :
    FnD P w K mg base "are_alike" 2 7 [] d_are_alike := by
  have hN : N_are_alike.Nodup := by decide +kernel
  refine ⟨fa, fd, ["one", "other"], hmg, F.kp, FunD.bindsN F (fun _ _ _ _ _ _ us hl => match us, hl with | [_, _], _ => rfl), fn_den (N := N_are_alike) (as := []) (ws := []) F ⟨rfl, rfl, rfl, by decide +kernel, rfl, by decide +kernel, by decide +kernel⟩ (by decide) (by decide) (by decide) fun cdv A outer s H E R => ?_⟩
  have hu := R.hu
  exact DB.weak (
    db_one (ds_ret (de_cmp (op_eqG hu) (de_ix (de_call G_alike_paper R (by decide) (dr_val (de_cp (de_var 0)) (dr_val (de_cp (de_var 1)) (dr_nil)))) (de_int)) (de_str)))) (by decide) (by decide)

/-! ### is_made -/
def N_is_made : List Str := ["steps", "many", "step", "come", "number", "one", "other", "begin", "end"]
def b_is_made : FS :=
    fSeq (fAsg (fVar 2) (fGT 5 (fGcons (fGN 4) (fGcons (fGN 5) (fGcons (fGN 6) (fGcons (fGN 7) (fGcons (fGN 8) (fGnil)))))))) <|
    fSeq (fSet 3 (fCp (fIx (fCall [some 0, none, none, none] d_earliest_by (fRSlot 0 (fRVal (fCp (fVar 1)) (fRVal (fCp (fVar 5)) (fRVal (fCp (fVar 7)) (fRNil)))))) (fVar 6)))) <|
    fRet (fAnd (fBin gIsNot (fVar 3) (fC .none)) (fBin gLe (fVar 3) (fVar 8)))
def d_is_made : FF := fDef 3 9 [3, 4, 5, 6, 7, 8] b_is_made
theorem k_is_made {P : Program} {w : World} {K : PySem.W.Frag} {mg : Str → Option Value} {base : Heap} (B : Blt mg) (G_earliest_by : FnD P w K mg base "earliest_by" 4 3 [] d_earliest_by) {fa : Addr} {fd : FuncData} (F : FunD K "is_made" "is_made" (defArgs s_is_made) (defBody s_is_made) (defScope s_is_made) [] [] fa fd) (hmg : mg "is_made" = some (.ref fa)) :
    FnD P w K mg base "is_made" 3 4 [] d_is_made := by
  have hN : N_is_made.Nodup := by decide +kernel
  refine ⟨fa, fd, ["steps", "many", "step"], hmg, F.kp, FunD.bindsN F (fun _ _ _ _ _ _ us hl => match us, hl with | [_, _, _], _ => rfl), fn_den (N := N_is_made) (as := [3, 4, 5, 6, 7, 8]) (ws := [3, 4, 5, 6, 7, 8]) F ⟨rfl, rfl, rfl, by decide +kernel, rfl, by decide +kernel, by decide +kernel⟩ (by decide) (by decide) (by decide) fun cdv A outer s H E R => ?_⟩
  have hu := R.hu
  exact DB.weak (
    db_cons (ds_asg (de_var 2) (dg_tup rfl (dgs_cons (dg_name hN) (dgs_cons (dg_name hN) (dgs_cons (dg_name hN) (dgs_cons (dg_name hN) (dgs_cons (dg_name hN) (dgs_nil)))))))) <|
    db_cons (ds_set hN (de_cp (de_ix (de_call G_earliest_by R (by decide) (dr_slot 0 (dr_val (de_cp (de_var 1)) (dr_val (de_cp (de_var 5)) (dr_val (de_cp (de_var 7)) (dr_nil)))))) (de_var 6)))) <|
    db_one (ds_ret (de_and (de_cmp op_isNotG (de_var 3) (de_non)) (de_one (de_cmp op_leG (de_var 3) (de_var 8)))))) (by decide) (by decide)

/-! ### plain -/
def N_plain : List Str := ["net", "steps", "found", "step", "meeting", "number", "one", "other", "begin", "end", "beside"]
def C_plain_1 : FE := fLc [10] (fIS (fVar 1)) (fGN 10) (fTst (fBin gNe (fCut (fVar 10) (fSo (fC (.int 1))) (fNo)) (fCut (fVar 3) (fSo (fC (.int 1))) (fNo)))) (fCp (fVar 10))
def B_plain_1 : FS := fSeq (fAsg (fVar 3) (fGT 5 (fGcons (fGN 5) (fGcons (fGN 6) (fGcons (fGN 7) (fGcons (fGN 8) (fGcons (fGN 9) (fGnil)))))))) <|
    fSeq (fSet 4 (fTup (fACons (fC (.str "to")) (fACons (fCp (fVar 6)) (fACons (fCp (fVar 7)) (fACons (fCp (fVar 8)) (fACons (fBin gSub (fVar 9) (fVar 8)) (fANil)))))))) <|
    fIfS (fTAnd (fTst (fBin gNotIn (fVar 4) (fVar 2))) (fTNot (fTst (fCall [none, none, none] d_is_made (fRVal (C_plain_1) (fRVal (fCp (fIx (fVar 0) (fC (.int 0)))) (fRVal (fCp (fVar 3)) (fRNil)))))))) (fDrop (fApp 2 (fCp (fVar 4)))) (fNx)
def L_plain_1 : FS := fFor (fIS (fVar 1)) (fGN 3) (B_plain_1)
def b_plain : FS :=
    fSeq (fSet 1 (fCall [none] d_steps_of (fRVal (fCp (fVar 0)) (fRNil)))) <|
    fSeq (fSet 2 (fLst (fANil))) <|
    fSeq (L_plain_1) <|
    fRet (fTup (fACons (fCp (fIx (fVar 0) (fC (.int 0)))) (fACons (fUn gTuple (fUn gSorted (fVar 2))) (fANil))))
def d_plain : FF := fDef 1 11 [1, 2, 3, 4, 5, 6, 7, 8, 9] b_plain
theorem k_plain {P : Program} {w : World} {K : PySem.W.Frag} {mg : Str → Option Value} {base : Heap} (B : Blt mg) (G_steps_of : FnD P w K mg base "steps_of" 1 1 [] d_steps_of) (G_is_made : FnD P w K mg base "is_made" 3 4 [] d_is_made) {fa : Addr} {fd : FuncData} (F : FunD K "plain" "plain" (defArgs s_plain) (defBody s_plain) (defScope s_plain) [] [] fa fd) (hmg : mg "plain" = some (.ref fa)) :
    FnD P w K mg base "plain" 1 5 [] d_plain := by
  have hN : N_plain.Nodup := by decide +kernel
  refine ⟨fa, fd, ["net"], hmg, F.kp, FunD.bindsN F (fun _ _ _ _ _ _ us hl => match us, hl with | [_], _ => rfl), fn_den (N := N_plain) (as := [1, 2, 3, 4, 5, 6, 7, 8, 9]) (ws := [1, 2, 3, 4, 5, 6, 7, 8, 9, 10]) F ⟨rfl, rfl, rfl, by decide +kernel, rfl, by decide +kernel, by decide +kernel⟩ (by decide) (by decide) (by decide) fun cdv A outer s H E R => ?_⟩
  have hu := R.hu
  exact DB.weak (
    db_cons (ds_set hN (de_call G_steps_of R (by decide) (dr_val (de_cp (de_var 0)) (dr_nil)))) <|
    db_cons (ds_set hN (de_lst (da_nil))) <|
    db_cons (ds_for PassesOwn.never rfl (di_seq (de_var 1)) (dg_name hN) (db_cons (ds_asg (de_var 3) (dg_tup rfl (dgs_cons (dg_name hN) (dgs_cons (dg_name hN) (dgs_cons (dg_name hN) (dgs_cons (dg_name hN) (dgs_cons (dg_name hN) (dgs_nil)))))))) <|
    db_cons (ds_set hN (de_tup (da_cons (de_str) (da_cons (de_cp (de_var 6)) (da_cons (de_cp (de_var 7)) (da_cons (de_cp (de_var 8)) (da_cons (de_op op_subG (de_var 9) (de_var 8)) (da_nil)))))))) <|
    db_one (ds_if (dw_dt (dw_and (dt_cmp (op_notInG hu) (de_var 4) (de_var 2)) (dw_and1 (dt_not (dt_val (de_call G_is_made R (by decide) (dr_val (de_lc [("beside", 10)] rfl hN (blkOk_by (N := N_plain) (sc := defScope s_plain) (by decide +kernel)) (di_seq (de_var 1)) (fun _ _ _ _ _ => dg_name hN) (fun _ _ _ _ _ => dc_one (dt_cmp (op_neG hu) (de_cut (de_var 10) (do_some (de_int)) (do_none)) (de_cut (de_var 3) (do_some (de_int)) (do_none)))) (fun _ _ _ _ _ => de_cp (de_var 10))) (dr_val (de_cp (de_ix (de_var 0) (de_int))) (dr_val (de_cp (de_var 3)) (dr_nil)))))))))) (db_one (ds_expr (de_app 2 (de_cp (de_var 4))))) (db_nil)))) <|
    db_one (ds_ret (de_tup (da_cons (de_cp (de_ix (de_var 0) (de_int))) (da_cons (de_callT cr_tupleG B.tuple (de_callB (cr_sortedG hu) B.sorted (de_var 2))) (da_nil)))))) (by decide) (by decide)

/-! ### _law_deck -/
def N__law_deck : List Str := ["_law_script", "_law_k", "_law_cell"]
def b__law_deck : FS :=
    fSeq (fSet 2 (fC (.int 0))) <|
    fSeq (fIfS (fTst (fBin gLt (fVar 1) (fUn gLen (fVar 0)))) (fSet 2 (fBin gMax2 (fC (.int 0)) (fIx (fVar 0) (fVar 1)))) (fNx)) <|
    fRet (fLst (fACons (fBin gMul (fVar 2) (fUn gInt (fBin gGe (fVar 2) (fBin gPow (fC (.int 10)) (fC (.int 18)))))) (fACons (fBin gAdd (fBin gMod (fVar 2) (fC (.int 2147483629))) (fBin gMul (fC (.int 7919)) (fVar 1))) (fACons (fC (.int 0)) (fANil)))))
def d__law_deck : FF := fDef 2 3 [2] b__law_deck
theorem k__law_deck {P : Program} {w : World} {K : PySem.W.Frag} {mg : Str → Option Value} {base : Heap} (B : Blt mg) {fa : Addr} {fd : FuncData} (F : FunD K "_law_deck" "_law_deck" (defArgs s__law_deck) (defBody s__law_deck) (defScope s__law_deck) [] [] fa fd) (hmg : mg "_law_deck" = some (.ref fa)) :
    FnD P w K mg base "_law_deck" 2 1 [] d__law_deck := by
  have hN : N__law_deck.Nodup := by decide +kernel
  refine ⟨fa, fd, ["_law_script", "_law_k"], hmg, F.kp, FunD.bindsN F (fun _ _ _ _ _ _ us hl => match us, hl with | [_, _], _ => rfl), fn_den (N := N__law_deck) (as := [2]) (ws := [2]) F ⟨rfl, rfl, rfl, by decide +kernel, rfl, by decide +kernel, by decide +kernel⟩ (by decide) (by decide) (by decide) fun cdv A outer s H E R => ?_⟩
  have hu := R.hu
  exact DB.weak (
    db_cons (ds_set hN (de_int)) <|
    db_cons (ds_if (dt_cmp op_ltG (de_var 1) (de_callB cr_lenG B.len (de_var 0))) (db_one (ds_set hN (de_callB2 (cr_maxG rfl) B.max (de_int) (de_ix (de_var 0) (de_var 1))))) (db_nil)) <|
    db_one (ds_ret (de_lst (da_cons (de_op op_mulG (de_var 2) (de_callT cr_intG B.int (de_cmp op_geG (de_var 2) (de_op op_powG (de_int) (de_int))))) (da_cons (de_op op_addG (de_op op_modG (de_var 2) (de_int)) (de_op op_mulG (de_int) (de_var 1))) (da_cons (de_int) (da_nil))))))) (by decide) (by decide)

/-! ### _law_draw -/
def N__law_draw : List Str := ["_law_deck_here", "_law_most", "_law_number", "_law_digit"]
def b__law_draw : FS :=
    fSeq (fIfS (fTst (fBin gGt (fIx (fVar 0) (fC (.int 0))) (fC (.int 0)))) (fSeq (fSet 3 (fBin gMod (fIx (fVar 0) (fC (.int 0))) (fVar 1))) <|
    fSeq (fPut 0 (fBin gDiv (fIx (fVar 0) (fC (.int 0))) (fVar 1)) (fC (.int 0))) <|
    fRet (fCp (fVar 3))) (fNx)) <|
    fSeq (fPut 0 (fBin gAdd (fIx (fVar 0) (fC (.int 2))) (fC (.int 1))) (fC (.int 2))) <|
    fSeq (fSet 2 (fBin gMod (fBin gMul (fBin gAdd (fBin gAdd (fIx (fVar 0) (fC (.int 1))) (fBin gMul (fC (.int 65537)) (fIx (fVar 0) (fC (.int 2))))) (fC (.int 101))) (fC (.int 48271))) (fC (.int 2147483647)))) <|
    fSeq (fSet 2 (fBin gMod (fBin gAdd (fBin gAdd (fBin gMul (fVar 2) (fVar 2)) (fBin gMul (fC (.int 69621)) (fIx (fVar 0) (fC (.int 2))))) (fC (.int 11))) (fC (.int 2147483629)))) <|
    fRet (fBin gMod (fBin gDiv (fBin gMod (fBin gAdd (fBin gMul (fVar 2) (fVar 2)) (fC (.int 32749))) (fC (.int 2147483587))) (fC (.int 64))) (fVar 1))
def d__law_draw : FF := fDef 2 4 [2, 3] b__law_draw
theorem k__law_draw {P : Program} {w : World} {K : PySem.W.Frag} {mg : Str → Option Value} {base : Heap} (B : Blt mg) {fa : Addr} {fd : FuncData} (F : FunD K "_law_draw" "_law_draw" (defArgs s__law_draw) (defBody s__law_draw) (defScope s__law_draw) [] [] fa fd) (hmg : mg "_law_draw" = some (.ref fa)) :
    FnD P w K mg base "_law_draw" 2 1 [0] d__law_draw := by
  have hN : N__law_draw.Nodup := by decide +kernel
  refine ⟨fa, fd, ["_law_deck_here", "_law_most"], hmg, F.kp, FunD.bindsN F (fun _ _ _ _ _ _ us hl => match us, hl with | [_, _], _ => rfl), fn_den (N := N__law_draw) (as := [2, 3]) (ws := [0, 2, 3]) F ⟨rfl, rfl, rfl, by decide +kernel, rfl, by decide +kernel, by decide +kernel⟩ (by decide) (by decide) (by decide) fun cdv A outer s H E R => ?_⟩
  have hu := R.hu
  exact DB.weak (
    db_cons (ds_if (dt_cmp op_gtG (de_ix (de_var 0) (de_int)) (de_int)) (db_cons (ds_set hN (de_op op_modG (de_ix (de_var 0) (de_int)) (de_var 1))) <|
    db_cons (ds_put 0 (de_op op_divG (de_ix (de_var 0) (de_int)) (de_var 1)) (de_int)) <|
    db_one (ds_ret (de_cp (de_var 3)))) (db_nil)) <|
    db_cons (ds_put 0 (de_op op_addG (de_ix (de_var 0) (de_int)) (de_int)) (de_int)) <|
    db_cons (ds_set hN (de_op op_modG (de_op op_mulG (de_op op_addG (de_op op_addG (de_ix (de_var 0) (de_int)) (de_op op_mulG (de_int) (de_ix (de_var 0) (de_int)))) (de_int)) (de_int)) (de_int))) <|
    db_cons (ds_set hN (de_op op_modG (de_op op_addG (de_op op_addG (de_op op_mulG (de_var 2) (de_var 2)) (de_op op_mulG (de_int) (de_ix (de_var 0) (de_int)))) (de_int)) (de_int))) <|
    db_one (ds_ret (de_op op_modG (de_op op_divG (de_op op_modG (de_op op_addG (de_op op_mulG (de_var 2) (de_var 2)) (de_int)) (de_int)) (de_int)) (de_var 1)))) (by decide) (by decide)

/-! ### _law_far -/
def N__law_far : List Str := ["_law_deck_here", "_law_most", "_law_number", "_law_k"]
def B__law_far_1 : FS := fSet 2 (fBin gAdd (fBin gMul (fVar 2) (fBin gPow (fC (.int 10)) (fC (.int 6)))) (fCall [some 0, none] d__law_draw (fRSlot 0 (fRVal (fBin gPow (fC (.int 10)) (fC (.int 6))) (fRNil)))))
def L__law_far_1 : FS := fFor (fR1 (fC (.int 3))) (fGN 3) (B__law_far_1)
def b__law_far : FS :=
    fSeq (fSet 2 (fC (.int 0))) <|
    fSeq (L__law_far_1) <|
    fRet (fBin gMod (fVar 2) (fBin gAdd (fVar 1) (fC (.int 1))))
def d__law_far : FF := fDef 2 4 [2, 3] b__law_far
theorem k__law_far {P : Program} {w : World} {K : PySem.W.Frag} {mg : Str → Option Value} {base : Heap} (B : Blt mg) (G__law_draw : FnD P w K mg base "_law_draw" 2 1 [0] d__law_draw) {fa : Addr} {fd : FuncData} (F : FunD K "_law_far" "_law_far" (defArgs s__law_far) (defBody s__law_far) (defScope s__law_far) [] [] fa fd) (hmg : mg "_law_far" = some (.ref fa)) :
    FnD P w K mg base "_law_far" 2 2 [0] d__law_far := by
  have hN : N__law_far.Nodup := by decide +kernel
  refine ⟨fa, fd, ["_law_deck_here", "_law_most"], hmg, F.kp, FunD.bindsN F (fun _ _ _ _ _ _ us hl => match us, hl with | [_, _], _ => rfl), fn_den (N := N__law_far) (as := [2, 3]) (ws := [0, 2, 3]) F ⟨rfl, rfl, rfl, by decide +kernel, rfl, by decide +kernel, by decide +kernel⟩ (by decide) (by decide) (by decide) fun cdv A outer s H E R => ?_⟩
  have hu := R.hu
  exact DB.weak (
    db_cons (ds_set hN (de_int)) <|
    db_cons (ds_for PassesOwn.never rfl (di_range1 B.range (de_int)) (dg_name hN) (db_one (ds_set hN (de_op op_addG (de_op op_mulG (de_var 2) (de_op op_powG (de_int) (de_int))) (de_call G__law_draw R (by decide) (dr_slot 0 (dr_val (de_op op_powG (de_int) (de_int)) (dr_nil)))))))) <|
    db_one (ds_ret (de_op op_modG (de_var 2) (de_op op_addG (de_var 1) (de_int))))) (by decide) (by decide)

/-! ### _law_begin -/
def N__law_begin : List Str := ["_law_deck_here", "_law_way", "_law_rows", "_law_near", "_law_last"]
def b__law_begin : FS :=
    fSeq (fSet 3 (fCall [some 0, none] d__law_draw (fRSlot 0 (fRVal (fC (.int 31)) (fRNil))))) <|
    fSeq (fIfS (fTst (fBin gEq (fVar 1) (fC (.int 3)))) (fRet (fBin gMul (fC (.int 5)) (fCall [some 0, none] d__law_draw (fRSlot 0 (fRVal (fC (.int 2)) (fRNil)))))) (fNx)) <|
    fSeq (fIfS (fTAnd (fTst (fBin gNe (fVar 2) (fLst (fANil)))) (fTOr (fTst (fBin gEq (fVar 1) (fC (.int 2)))) (fTAnd (fTst (fBin gEq (fVar 1) (fC (.int 1)))) (fTst (fBin gGt (fBin gMod (fVar 3) (fC (.int 3))) (fC (.int 0))))))) (fSeq (fSet 4 (fCp (fIx (fVar 2) (fIx (fLst (fACons (fBin gSub (fUn gLen (fVar 2)) (fC (.int 1))) (fACons (fCall [some 0, none] d__law_draw (fRSlot 0 (fRVal (fUn gLen (fVar 2)) (fRNil)))) (fANil)))) (fUn gInt (fBin gEq (fVar 1) (fC (.int 1)))))))) <|
    fRet (fBin gMax2 (fC (.int 0)) (fBin gAdd (fBin gSub (fBin gAdd (fIx (fVar 4) (fC (.int 3))) (fIx (fVar 4) (fC (.int 4)))) (fUn gInt (fBin gEq (fVar 1) (fC (.int 1))))) (fCall [some 0, none] d__law_draw (fRSlot 0 (fRVal (fC (.int 3)) (fRNil))))))) (fNx)) <|
    fRet (fCp (fVar 3))
def d__law_begin : FF := fDef 3 5 [3, 4] b__law_begin
theorem k__law_begin {P : Program} {w : World} {K : PySem.W.Frag} {mg : Str → Option Value} {base : Heap} (B : Blt mg) (G__law_draw : FnD P w K mg base "_law_draw" 2 1 [0] d__law_draw) {fa : Addr} {fd : FuncData} (F : FunD K "_law_begin" "_law_begin" (defArgs s__law_begin) (defBody s__law_begin) (defScope s__law_begin) [] [] fa fd) (hmg : mg "_law_begin" = some (.ref fa)) :
    FnD P w K mg base "_law_begin" 3 2 [0] d__law_begin := by
  have hN : N__law_begin.Nodup := by decide +kernel
  refine ⟨fa, fd, ["_law_deck_here", "_law_way", "_law_rows"], hmg, F.kp, FunD.bindsN F (fun _ _ _ _ _ _ us hl => match us, hl with | [_, _, _], _ => rfl), fn_den (N := N__law_begin) (as := [3, 4]) (ws := [0, 3, 4]) F ⟨rfl, rfl, rfl, by decide +kernel, rfl, by decide +kernel, by decide +kernel⟩ (by decide) (by decide) (by decide) fun cdv A outer s H E R => ?_⟩
  have hu := R.hu
  exact DB.weak (
    db_cons (ds_set hN (de_call G__law_draw R (by decide) (dr_slot 0 (dr_val (de_int) (dr_nil))))) <|
    db_cons (ds_if (dt_cmp (op_eqG hu) (de_var 1) (de_int)) (db_one (ds_ret (de_op op_mulG (de_int) (de_call G__law_draw R (by decide) (dr_slot 0 (dr_val (de_int) (dr_nil))))))) (db_nil)) <|
    db_cons (ds_if (dw_dt (dw_and (dt_cmp (op_neG hu) (de_var 2) (de_lst (da_nil))) (dw_and1 (dw_dt (dw_or (dt_cmp (op_eqG hu) (de_var 1) (de_int)) (dw_or1 (dw_dt (dw_and (dt_cmp (op_eqG hu) (de_var 1) (de_int)) (dw_and1 (dt_cmp op_gtG (de_op op_modG (de_var 3) (de_int)) (de_int))))))))))) (db_cons (ds_set hN (de_cp (de_ix (de_var 2) (de_ix (de_lst (da_cons (de_op op_subG (de_callB cr_lenG B.len (de_var 2)) (de_int)) (da_cons (de_call G__law_draw R (by decide) (dr_slot 0 (dr_val (de_callB cr_lenG B.len (de_var 2)) (dr_nil)))) (da_nil)))) (de_callT cr_intG B.int (de_cmp (op_eqG hu) (de_var 1) (de_int))))))) <|
    db_one (ds_ret (de_callB2 (cr_maxG rfl) B.max (de_int) (de_op op_addG (de_op op_subG (de_op op_addG (de_ix (de_var 4) (de_int)) (de_ix (de_var 4) (de_int))) (de_callT cr_intG B.int (de_cmp (op_eqG hu) (de_var 1) (de_int)))) (de_call G__law_draw R (by decide) (dr_slot 0 (dr_val (de_int) (dr_nil)))))))) (db_nil)) <|
    db_one (ds_ret (de_cp (de_var 3)))) (by decide) (by decide)

/-! ### _law_meeting -/
def N__law_meeting : List Str := ["_law_deck_here", "_law_way", "_law_many", "_law_rows", "_law_one", "_law_other_here", "_law_word", "_law_begin_here", "_law_long", "_law_far_here"]
def b__law_meeting : FS :=
    fSeq (fIfS (fTAnd (fTst (fBin gEq (fVar 1) (fC (.int 5)))) (fTAnd (fTst (fBin gNe (fVar 3) (fLst (fANil)))) (fTst (fBin gEq (fCall [some 0, none] d__law_draw (fRSlot 0 (fRVal (fC (.int 3)) (fRNil)))) (fC (.int 0)))))) (fRet (fCp (fIx (fVar 3) (fCall [some 0, none] d__law_draw (fRSlot 0 (fRVal (fUn gLen (fVar 3)) (fRNil))))))) (fNx)) <|
    fSeq (fSet 4 (fCall [some 0, none] d__law_draw (fRSlot 0 (fRVal (fCp (fVar 2)) (fRNil))))) <|
    fSeq (fIfS (fTAnd (fTst (fBin gEq (fVar 1) (fC (.int 2)))) (fTst (fBin gNe (fVar 3) (fLst (fANil))))) (fSet 4 (fCp (fIx (fIx (fVar 3) (fUn gNeg (fC (.int 1)))) (fC (.int 2))))) (fNx)) <|
    fSeq (fSet 5 (fBin gMod (fBin gAdd (fBin gAdd (fVar 4) (fC (.int 1))) (fCall [some 0, none] d__law_draw (fRSlot 0 (fRVal (fBin gSub (fVar 2) (fC (.int 1))) (fRNil))))) (fVar 2))) <|
    fSeq (fSet 6 (fCp (fIx (fLst (fACons (fC (.str "to")) (fACons (fC (.str "both")) (fANil)))) (fCall [some 0, none] d__law_draw (fRSlot 0 (fRVal (fC (.int 2)) (fRNil))))))) <|
    fSeq (fSet 7 (fCall [some 0, none, some 3] d__law_begin (fRSlot 0 (fRVal (fCp (fVar 1)) (fRSlot 3 (fRNil)))))) <|
    fSeq (fSet 8 (fBin gAdd (fC (.int 1)) (fCall [some 0, none] d__law_draw (fRSlot 0 (fRVal (fCp (fIx (fLst (fACons (fC (.int 8)) (fACons (fC (.int 2)) (fANil)))) (fUn gInt (fBin gEq (fVar 1) (fC (.int 3)))))) (fRNil)))))) <|
    fSeq (fIfS (fTst (fBin gEq (fVar 1) (fC (.int 4)))) (fSeq (fSet 9 (fCall [some 0, none] d__law_draw (fRSlot 0 (fRVal (fC (.int 3)) (fRNil))))) <|
    fSeq (fSet 7 (fCp (fIx (fLst (fACons (fCall [some 0, none] d__law_far (fRSlot 0 (fRVal (fBin gSub (fBin gPow (fC (.int 10)) (fC (.int 13))) (fC (.int 60))) (fRNil)))) (fACons (fCp (fVar 7)) (fACons (fCall [some 0, none] d__law_far (fRSlot 0 (fRVal (fBin gMul (fC (.int 5)) (fBin gPow (fC (.int 10)) (fC (.int 12)))) (fRNil)))) (fANil))))) (fVar 9)))) <|
    fSet 8 (fCp (fIx (fLst (fACons (fCp (fVar 8)) (fACons (fBin gAdd (fC (.int 1)) (fCall [some 0, none] d__law_far (fRSlot 0 (fRVal (fBin gSub (fBin gPow (fC (.int 10)) (fC (.int 13))) (fC (.int 100))) (fRNil))))) (fACons (fBin gAdd (fC (.int 1)) (fCall [some 0, none] d__law_far (fRSlot 0 (fRVal (fBin gSub (fBin gMul (fC (.int 5)) (fBin gPow (fC (.int 10)) (fC (.int 12)))) (fC (.int 100))) (fRNil))))) (fANil))))) (fVar 9)))) (fNx)) <|
    fRet (fTup (fACons (fCp (fVar 6)) (fACons (fCp (fVar 4)) (fACons (fCp (fVar 5)) (fACons (fCp (fVar 7)) (fACons (fCp (fVar 8)) (fANil)))))))
def d__law_meeting : FF := fDef 4 10 [4, 5, 6, 7, 8, 9] b__law_meeting
theorem k__law_meeting {P : Program} {w : World} {K : PySem.W.Frag} {mg : Str → Option Value} {base : Heap} (B : Blt mg) (G__law_draw : FnD P w K mg base "_law_draw" 2 1 [0] d__law_draw) (G__law_begin : FnD P w K mg base "_law_begin" 3 2 [0] d__law_begin) (G__law_far : FnD P w K mg base "_law_far" 2 2 [0] d__law_far) {fa : Addr} {fd : FuncData} (F : FunD K "_law_meeting" "_law_meeting" (defArgs s__law_meeting) (defBody s__law_meeting) (defScope s__law_meeting) [] [] fa fd) (hmg : mg "_law_meeting" = some (.ref fa)) :
    FnD P w K mg base "_law_meeting" 4 3 [0] d__law_meeting := by
  have hN : N__law_meeting.Nodup := by decide +kernel
  refine ⟨fa, fd, ["_law_deck_here", "_law_way", "_law_many", "_law_rows"], hmg, F.kp, FunD.bindsN F (fun _ _ _ _ _ _ us hl => match us, hl with | [_, _, _, _], _ => rfl), fn_den (N := N__law_meeting) (as := [4, 5, 6, 7, 8, 9]) (ws := [0, 4, 5, 6, 7, 8, 9]) F ⟨rfl, rfl, rfl, by decide +kernel, rfl, by decide +kernel, by decide +kernel⟩ (by decide) (by decide) (by decide) fun cdv A outer s H E R => ?_⟩
  have hu := R.hu
  exact DB.weak (
    db_cons (ds_if (dw_dt (dw_and (dt_cmp (op_eqG hu) (de_var 1) (de_int)) (dw_and (dt_cmp (op_neG hu) (de_var 3) (de_lst (da_nil))) (dw_and1 (dt_cmp (op_eqG hu) (de_call G__law_draw R (by decide) (dr_slot 0 (dr_val (de_int) (dr_nil)))) (de_int)))))) (db_one (ds_ret (de_cp (de_ix (de_var 3) (de_call G__law_draw R (by decide) (dr_slot 0 (dr_val (de_callB cr_lenG B.len (de_var 3)) (dr_nil)))))))) (db_nil)) <|
    db_cons (ds_set hN (de_call G__law_draw R (by decide) (dr_slot 0 (dr_val (de_cp (de_var 2)) (dr_nil))))) <|
    db_cons (ds_if (dw_dt (dw_and (dt_cmp (op_eqG hu) (de_var 1) (de_int)) (dw_and1 (dt_cmp (op_neG hu) (de_var 3) (de_lst (da_nil)))))) (db_one (ds_set hN (de_cp (de_ix (de_ix (de_var 3) (de_un un_negG (de_int))) (de_int))))) (db_nil)) <|
    db_cons (ds_set hN (de_op op_modG (de_op op_addG (de_op op_addG (de_var 4) (de_int)) (de_call G__law_draw R (by decide) (dr_slot 0 (dr_val (de_op op_subG (de_var 2) (de_int)) (dr_nil))))) (de_var 2))) <|
    db_cons (ds_set hN (de_cp (de_ix (de_lst (da_cons (de_str) (da_cons (de_str) (da_nil)))) (de_call G__law_draw R (by decide) (dr_slot 0 (dr_val (de_int) (dr_nil))))))) <|
    db_cons (ds_set hN (de_call G__law_begin R (by decide) (dr_slot 0 (dr_val (de_cp (de_var 1)) (dr_slot 3 (dr_nil)))))) <|
    db_cons (ds_set hN (de_op op_addG (de_int) (de_call G__law_draw R (by decide) (dr_slot 0 (dr_val (de_cp (de_ix (de_lst (da_cons (de_int) (da_cons (de_int) (da_nil)))) (de_callT cr_intG B.int (de_cmp (op_eqG hu) (de_var 1) (de_int))))) (dr_nil)))))) <|
    db_cons (ds_if (dt_cmp (op_eqG hu) (de_var 1) (de_int)) (db_cons (ds_set hN (de_call G__law_draw R (by decide) (dr_slot 0 (dr_val (de_int) (dr_nil))))) <|
    db_cons (ds_set hN (de_cp (de_ix (de_lst (da_cons (de_call G__law_far R (by decide) (dr_slot 0 (dr_val (de_op op_subG (de_op op_powG (de_int) (de_int)) (de_int)) (dr_nil)))) (da_cons (de_cp (de_var 7)) (da_cons (de_call G__law_far R (by decide) (dr_slot 0 (dr_val (de_op op_mulG (de_int) (de_op op_powG (de_int) (de_int))) (dr_nil)))) (da_nil))))) (de_var 9)))) <|
    db_one (ds_set hN (de_cp (de_ix (de_lst (da_cons (de_cp (de_var 8)) (da_cons (de_op op_addG (de_int) (de_call G__law_far R (by decide) (dr_slot 0 (dr_val (de_op op_subG (de_op op_powG (de_int) (de_int)) (de_int)) (dr_nil))))) (da_cons (de_op op_addG (de_int) (de_call G__law_far R (by decide) (dr_slot 0 (dr_val (de_op op_subG (de_op op_mulG (de_int) (de_op op_powG (de_int) (de_int))) (de_int)) (dr_nil))))) (da_nil))))) (de_var 9))))) (db_nil)) <|
    db_one (ds_ret (de_tup (da_cons (de_cp (de_var 6)) (da_cons (de_cp (de_var 4)) (da_cons (de_cp (de_var 5)) (da_cons (de_cp (de_var 7)) (da_cons (de_cp (de_var 8)) (da_nil))))))))) (by decide) (by decide)

/-! ### _law_net -/
def N__law_net : List Str := ["_law_deck_here", "_law_least", "_law_way", "_law_great", "_law_many", "_law_count", "_law_rows", "_law_k"]
def B__law_net_1 : FS := fDrop (fApp 6 (fCall [some 0, none, none, some 6] d__law_meeting (fRSlot 0 (fRVal (fCp (fVar 2)) (fRVal (fCp (fVar 4)) (fRSlot 6 (fRNil)))))))
def L__law_net_1 : FS := fFor (fR1 (fBin gMul (fVar 5) (fUn gInt (fBin gGt (fVar 4) (fC (.int 1)))))) (fGN 7) (B__law_net_1)
def b__law_net : FS :=
    fSeq (fSet 2 (fCp (fIx (fLst (fACons (fC (.int 0)) (fACons (fC (.int 1)) (fACons (fC (.int 2)) (fACons (fC (.int 3)) (fACons (fC (.int 4)) (fACons (fC (.int 5)) (fACons (fC (.int 1)) (fACons (fC (.int 2)) (fANil)))))))))) (fCall [some 0, none] d__law_draw (fRSlot 0 (fRVal (fC (.int 8)) (fRNil))))))) <|
    fSeq (fSet 3 (fUn gInt (fBin gEq (fCall [some 0, none] d__law_draw (fRSlot 0 (fRVal (fC (.int 8)) (fRNil)))) (fC (.int 5))))) <|
    fSeq (fSet 4 (fCp (fIx (fLst (fACons (fBin gAdd (fVar 1) (fCall [some 0, none] d__law_draw (fRSlot 0 (fRVal (fBin gSub (fC (.int 7)) (fVar 1)) (fRNil))))) (fACons (fC (.int 10)) (fANil)))) (fVar 3)))) <|
    fSeq (fSet 5 (fCp (fIx (fLst (fACons (fCall [some 0, none] d__law_draw (fRSlot 0 (fRVal (fC (.int 13)) (fRNil)))) (fACons (fBin gSub (fC (.int 40)) (fCall [some 0, none] d__law_draw (fRSlot 0 (fRVal (fC (.int 9)) (fRNil))))) (fANil)))) (fVar 3)))) <|
    fSeq (fSet 6 (fLst (fANil))) <|
    fSeq (L__law_net_1) <|
    fRet (fTup (fACons (fCp (fVar 4)) (fACons (fUn gTuple (fVar 6)) (fANil))))
def d__law_net : FF := fDef 2 8 [2, 3, 4, 5, 6, 7] b__law_net
theorem k__law_net {P : Program} {w : World} {K : PySem.W.Frag} {mg : Str → Option Value} {base : Heap} (B : Blt mg) (G__law_draw : FnD P w K mg base "_law_draw" 2 1 [0] d__law_draw) (G__law_meeting : FnD P w K mg base "_law_meeting" 4 3 [0] d__law_meeting) {fa : Addr} {fd : FuncData} (F : FunD K "_law_net" "_law_net" (defArgs s__law_net) (defBody s__law_net) (defScope s__law_net) [] [] fa fd) (hmg : mg "_law_net" = some (.ref fa)) :
    FnD P w K mg base "_law_net" 2 4 [0] d__law_net := by
  have hN : N__law_net.Nodup := by decide +kernel
  refine ⟨fa, fd, ["_law_deck_here", "_law_least"], hmg, F.kp, FunD.bindsN F (fun _ _ _ _ _ _ us hl => match us, hl with | [_, _], _ => rfl), fn_den (N := N__law_net) (as := [2, 3, 4, 5, 6, 7]) (ws := [0, 2, 3, 4, 5, 6, 7]) F ⟨rfl, rfl, rfl, by decide +kernel, rfl, by decide +kernel, by decide +kernel⟩ (by decide) (by decide) (by decide) fun cdv A outer s H E R => ?_⟩
  have hu := R.hu
  exact DB.weak (
    db_cons (ds_set hN (de_cp (de_ix (de_lst (da_cons (de_int) (da_cons (de_int) (da_cons (de_int) (da_cons (de_int) (da_cons (de_int) (da_cons (de_int) (da_cons (de_int) (da_cons (de_int) (da_nil)))))))))) (de_call G__law_draw R (by decide) (dr_slot 0 (dr_val (de_int) (dr_nil))))))) <|
    db_cons (ds_set hN (de_callT cr_intG B.int (de_cmp (op_eqG hu) (de_call G__law_draw R (by decide) (dr_slot 0 (dr_val (de_int) (dr_nil)))) (de_int)))) <|
    db_cons (ds_set hN (de_cp (de_ix (de_lst (da_cons (de_op op_addG (de_var 1) (de_call G__law_draw R (by decide) (dr_slot 0 (dr_val (de_op op_subG (de_int) (de_var 1)) (dr_nil))))) (da_cons (de_int) (da_nil)))) (de_var 3)))) <|
    db_cons (ds_set hN (de_cp (de_ix (de_lst (da_cons (de_call G__law_draw R (by decide) (dr_slot 0 (dr_val (de_int) (dr_nil)))) (da_cons (de_op op_subG (de_int) (de_call G__law_draw R (by decide) (dr_slot 0 (dr_val (de_int) (dr_nil))))) (da_nil)))) (de_var 3)))) <|
    db_cons (ds_set hN (de_lst (da_nil))) <|
    db_cons (ds_for PassesOwn.never rfl (di_range1 B.range (de_op op_mulG (de_var 5) (de_callT cr_intG B.int (de_cmp op_gtG (de_var 4) (de_int))))) (dg_name hN) (db_one (ds_expr (de_app 6 (de_call G__law_meeting R (by decide) (dr_slot 0 (dr_val (de_cp (de_var 2)) (dr_val (de_cp (de_var 4)) (dr_slot 6 (dr_nil)))))))))) <|
    db_one (ds_ret (de_tup (da_cons (de_cp (de_var 4)) (da_cons (de_callT cr_tupleG B.tuple (de_var 6)) (da_nil)))))) (by decide) (by decide)

/-! ### _law_step -/
def N__law_step : List Str := ["_law_net_here", "_law_number", "_law_place", "_law_word", "_law_one", "_law_other_here", "_law_begin_here", "_law_long"]
def b__law_step : FS :=
    fSeq (fAsg (fIx (fIx (fVar 0) (fC (.int 1))) (fVar 1)) (fGT 5 (fGcons (fGN 3) (fGcons (fGN 4) (fGcons (fGN 5) (fGcons (fGN 6) (fGcons (fGN 7) (fGnil)))))))) <|
    fSeq (fIfS (fTst (fBin gEq (fVar 2) (fVar 4))) (fRet (fTup (fACons (fCp (fVar 5)) (fACons (fCp (fVar 6)) (fACons (fBin gAdd (fVar 6) (fVar 7)) (fANil)))))) (fNx)) <|
    fSeq (fIfS (fTAnd (fTst (fBin gEq (fVar 3) (fC (.str "both")))) (fTst (fBin gEq (fVar 2) (fVar 5)))) (fRet (fTup (fACons (fCp (fVar 4)) (fACons (fCp (fVar 6)) (fACons (fBin gAdd (fVar 6) (fVar 7)) (fANil)))))) (fNx)) <|
    fRet (fC .none)
def d__law_step : FF := fDef 3 8 [3, 4, 5, 6, 7] b__law_step
theorem k__law_step {P : Program} {w : World} {K : PySem.W.Frag} {mg : Str → Option Value} {base : Heap} (B : Blt mg) {fa : Addr} {fd : FuncData} (F : FunD K "_law_step" "_law_step" (defArgs s__law_step) (defBody s__law_step) (defScope s__law_step) [] [] fa fd) (hmg : mg "_law_step" = some (.ref fa)) :
    FnD P w K mg base "_law_step" 3 1 [] d__law_step := by
  have hN : N__law_step.Nodup := by decide +kernel
  refine ⟨fa, fd, ["_law_net_here", "_law_number", "_law_place"], hmg, F.kp, FunD.bindsN F (fun _ _ _ _ _ _ us hl => match us, hl with | [_, _, _], _ => rfl), fn_den (N := N__law_step) (as := [3, 4, 5, 6, 7]) (ws := [3, 4, 5, 6, 7]) F ⟨rfl, rfl, rfl, by decide +kernel, rfl, by decide +kernel, by decide +kernel⟩ (by decide) (by decide) (by decide) fun cdv A outer s H E R => ?_⟩
  have hu := R.hu
  exact DB.weak (
    db_cons (ds_asg (de_ix (de_ix (de_var 0) (de_int)) (de_var 1)) (dg_tup rfl (dgs_cons (dg_name hN) (dgs_cons (dg_name hN) (dgs_cons (dg_name hN) (dgs_cons (dg_name hN) (dgs_cons (dg_name hN) (dgs_nil)))))))) <|
    db_cons (ds_if (dt_cmp (op_eqG hu) (de_var 2) (de_var 4)) (db_one (ds_ret (de_tup (da_cons (de_cp (de_var 5)) (da_cons (de_cp (de_var 6)) (da_cons (de_op op_addG (de_var 6) (de_var 7)) (da_nil))))))) (db_nil)) <|
    db_cons (ds_if (dw_dt (dw_and (dt_cmp (op_eqG hu) (de_var 3) (de_str)) (dw_and1 (dt_cmp (op_eqG hu) (de_var 2) (de_var 5))))) (db_one (ds_ret (de_tup (da_cons (de_cp (de_var 4)) (da_cons (de_cp (de_var 6)) (da_cons (de_op op_addG (de_var 6) (de_var 7)) (da_nil))))))) (db_nil)) <|
    db_one (ds_ret (de_non))) (by decide) (by decide)

/-! ### _law_small -/
def N__law_small : List Str := ["_law_net_here", "_law_many", "_law_most", "_law_found", "_law_word", "_law_one", "_law_other_here", "_law_begin_here", "_law_long"]
def B__law_small_1 : FS := fSeq (fSet 5 (fBin gMod (fVar 5) (fVar 1))) <|
    fSeq (fSet 6 (fBin gMod (fVar 6) (fVar 1))) <|
    fSeq (fIfS (fTst (fBin gEq (fVar 5) (fVar 6))) (fSet 6 (fBin gMod (fBin gAdd (fVar 5) (fC (.int 1))) (fVar 1))) (fNx)) <|
    fDrop (fApp 3 (fTup (fACons (fCp (fVar 4)) (fACons (fCp (fVar 5)) (fACons (fCp (fVar 6)) (fACons (fCp (fVar 7)) (fACons (fCp (fVar 8)) (fANil))))))))
def L__law_small_1 : FS := fFor (fIS (fCut (fIx (fVar 0) (fC (.int 1))) (fNo) (fSo (fVar 2)))) (fGT 5 (fGcons (fGN 4) (fGcons (fGN 5) (fGcons (fGN 6) (fGcons (fGN 7) (fGcons (fGN 8) (fGnil))))))) (B__law_small_1)
def b__law_small : FS :=
    fSeq (fSet 3 (fLst (fANil))) <|
    fSeq (L__law_small_1) <|
    fRet (fTup (fACons (fCp (fVar 1)) (fACons (fUn gTuple (fVar 3)) (fANil))))
def d__law_small : FF := fDef 3 9 [3, 4, 5, 6, 7, 8] b__law_small
theorem k__law_small {P : Program} {w : World} {K : PySem.W.Frag} {mg : Str → Option Value} {base : Heap} (B : Blt mg) {fa : Addr} {fd : FuncData} (F : FunD K "_law_small" "_law_small" (defArgs s__law_small) (defBody s__law_small) (defScope s__law_small) [] [] fa fd) (hmg : mg "_law_small" = some (.ref fa)) :
    FnD P w K mg base "_law_small" 3 1 [] d__law_small := by
  have hN : N__law_small.Nodup := by decide +kernel
  refine ⟨fa, fd, ["_law_net_here", "_law_many", "_law_most"], hmg, F.kp, FunD.bindsN F (fun _ _ _ _ _ _ us hl => match us, hl with | [_, _, _], _ => rfl), fn_den (N := N__law_small) (as := [3, 4, 5, 6, 7, 8]) (ws := [3, 4, 5, 6, 7, 8]) F ⟨rfl, rfl, rfl, by decide +kernel, rfl, by decide +kernel, by decide +kernel⟩ (by decide) (by decide) (by decide) fun cdv A outer s H E R => ?_⟩
  have hu := R.hu
  exact DB.weak (
    db_cons (ds_set hN (de_lst (da_nil))) <|
    db_cons (ds_for PassesOwn.never rfl (di_seq (de_cut (de_ix (de_var 0) (de_int)) (do_none) (do_some (de_var 2)))) (dg_tup rfl (dgs_cons (dg_name hN) (dgs_cons (dg_name hN) (dgs_cons (dg_name hN) (dgs_cons (dg_name hN) (dgs_cons (dg_name hN) (dgs_nil))))))) (db_cons (ds_set hN (de_op op_modG (de_var 5) (de_var 1))) <|
    db_cons (ds_set hN (de_op op_modG (de_var 6) (de_var 1))) <|
    db_cons (ds_if (dt_cmp (op_eqG hu) (de_var 5) (de_var 6)) (db_one (ds_set hN (de_op op_modG (de_op op_addG (de_var 5) (de_int)) (de_var 1)))) (db_nil)) <|
    db_one (ds_expr (de_app 3 (de_tup (da_cons (de_cp (de_var 4)) (da_cons (de_cp (de_var 5)) (da_cons (de_cp (de_var 6)) (da_cons (de_cp (de_var 7)) (da_cons (de_cp (de_var 8)) (da_nil))))))))))) <|
    db_one (ds_ret (de_tup (da_cons (de_cp (de_var 1)) (da_cons (de_callT cr_tupleG B.tuple (de_var 3)) (da_nil)))))) (by decide) (by decide)

/-! ### _law_other -/
def N__law_other : List Str := ["_law_deck_here", "_law_net_here", "_law_kind", "_law_rows", "_law_by", "_law_some", "_law_word", "_law_one", "_law_other_here", "_law_begin_here", "_law_long"]
def b__law_other : FS :=
    fSeq (fSet 2 (fCall [some 0, none] d__law_draw (fRSlot 0 (fRVal (fC (.int 7)) (fRNil))))) <|
    fSeq (fSet 3 (fUn gList (fIx (fVar 1) (fC (.int 1))))) <|
    fSeq (fIfS (fTOr (fTst (fBin gEq (fVar 2) (fC (.int 0)))) (fTst (fBin gEq (fVar 3) (fLst (fANil))))) (fRet (fCall [none, none, none] d__law_small (fRVal (fCall [some 0, none] d__law_net (fRSlot 0 (fRVal (fC (.int 2)) (fRNil)))) (fRVal (fCp (fIx (fVar 1) (fC (.int 0)))) (fRVal (fC (.int 4)) (fRNil)))))) (fNx)) <|
    fSeq (fAsg (fPop 3 (fCall [some 0, none] d__law_draw (fRSlot 0 (fRVal (fUn gLen (fVar 3)) (fRNil))))) (fGT 5 (fGcons (fGN 6) (fGcons (fGN 7) (fGcons (fGN 8) (fGcons (fGN 9) (fGcons (fGN 10) (fGnil)))))))) <|
    fSeq (fSet 4 (fCall [some 0, none] d__law_draw (fRSlot 0 (fRVal (fC (.int 2)) (fRNil))))) <|
    fSeq (fIfS (fTst (fBin gEq (fVar 2) (fC (.int 1)))) (fRet (fTup (fACons (fCp (fIx (fVar 1) (fC (.int 0)))) (fACons (fUn gTuple (fVar 3)) (fANil))))) (fNx)) <|
    fSeq (fSet 5 (fLst (fACons (fTup (fACons (fC (.str "to")) (fACons (fCp (fVar 7)) (fACons (fCp (fVar 8)) (fACons (fCp (fVar 9)) (fACons (fCp (fVar 10)) (fANil))))))) (fACons (fTup (fACons (fCp (fVar 6)) (fACons (fCp (fVar 7)) (fACons (fCp (fVar 8)) (fACons (fBin gAdd (fVar 9) (fVar 4)) (fACons (fBin gSub (fBin gAdd (fVar 10) (fC (.int 1))) (fVar 4)) (fANil))))))) (fANil))))) <|
    fSeq (fSet 5 (fBin gAdd (fVar 5) (fLst (fACons (fTup (fACons (fC (.str "both")) (fACons (fCp (fVar 7)) (fACons (fCp (fVar 8)) (fACons (fCp (fVar 9)) (fACons (fCp (fVar 10)) (fANil))))))) (fACons (fTup (fACons (fCp (fVar 6)) (fACons (fCp (fVar 8)) (fACons (fCp (fVar 7)) (fACons (fCp (fVar 9)) (fACons (fCp (fVar 10)) (fANil))))))) (fANil)))))) <|
    fSeq (fDrop (fApp 3 (fCp (fIx (fBin gAdd (fVar 5) (fLst (fACons (fTup (fACons (fCp (fVar 6)) (fACons (fCp (fVar 7)) (fACons (fCp (fVar 8)) (fACons (fBin gMax2 (fC (.int 0)) (fBin gSub (fVar 9) (fVar 4))) (fACons (fBin gAdd (fBin gAdd (fVar 10) (fC (.int 1))) (fVar 4)) (fANil))))))) (fANil)))) (fBin gSub (fVar 2) (fC (.int 2))))))) <|
    fRet (fTup (fACons (fCp (fIx (fVar 1) (fC (.int 0)))) (fACons (fUn gTuple (fVar 3)) (fANil))))
def d__law_other : FF := fDef 2 11 [2, 3, 4, 5, 6, 7, 8, 9, 10] b__law_other
theorem k__law_other {P : Program} {w : World} {K : PySem.W.Frag} {mg : Str → Option Value} {base : Heap} (B : Blt mg) (G__law_draw : FnD P w K mg base "_law_draw" 2 1 [0] d__law_draw) (G__law_small : FnD P w K mg base "_law_small" 3 1 [] d__law_small) (G__law_net : FnD P w K mg base "_law_net" 2 4 [0] d__law_net) {fa : Addr} {fd : FuncData} (F : FunD K "_law_other" "_law_other" (defArgs s__law_other) (defBody s__law_other) (defScope s__law_other) [] [] fa fd) (hmg : mg "_law_other" = some (.ref fa)) :
    FnD P w K mg base "_law_other" 2 5 [0] d__law_other := by
  have hN : N__law_other.Nodup := by decide +kernel
  refine ⟨fa, fd, ["_law_deck_here", "_law_net_here"], hmg, F.kp, FunD.bindsN F (fun _ _ _ _ _ _ us hl => match us, hl with | [_, _], _ => rfl), fn_den (N := N__law_other) (as := [2, 3, 4, 5, 6, 7, 8, 9, 10]) (ws := [0, 2, 3, 4, 5, 6, 7, 8, 9, 10]) F ⟨rfl, rfl, rfl, by decide +kernel, rfl, by decide +kernel, by decide +kernel⟩ (by decide) (by decide) (by decide) fun cdv A outer s H E R => ?_⟩
  have hu := R.hu
  exact DB.weak (
    db_cons (ds_set hN (de_call G__law_draw R (by decide) (dr_slot 0 (dr_val (de_int) (dr_nil))))) <|
    db_cons (ds_set hN (de_callT cr_listG B.list (de_ix (de_var 1) (de_int)))) <|
    db_cons (ds_if (dw_dt (dw_or (dt_cmp (op_eqG hu) (de_var 2) (de_int)) (dw_or1 (dt_cmp (op_eqG hu) (de_var 3) (de_lst (da_nil)))))) (db_one (ds_ret (de_call G__law_small R (by decide) (dr_val (de_call G__law_net R (by decide) (dr_slot 0 (dr_val (de_int) (dr_nil)))) (dr_val (de_cp (de_ix (de_var 1) (de_int))) (dr_val (de_int) (dr_nil))))))) (db_nil)) <|
    db_cons (ds_asg (de_pop 3 (de_call G__law_draw R (by decide) (dr_slot 0 (dr_val (de_callB cr_lenG B.len (de_var 3)) (dr_nil))))) (dg_tup rfl (dgs_cons (dg_name hN) (dgs_cons (dg_name hN) (dgs_cons (dg_name hN) (dgs_cons (dg_name hN) (dgs_cons (dg_name hN) (dgs_nil)))))))) <|
    db_cons (ds_set hN (de_call G__law_draw R (by decide) (dr_slot 0 (dr_val (de_int) (dr_nil))))) <|
    db_cons (ds_if (dt_cmp (op_eqG hu) (de_var 2) (de_int)) (db_one (ds_ret (de_tup (da_cons (de_cp (de_ix (de_var 1) (de_int))) (da_cons (de_callT cr_tupleG B.tuple (de_var 3)) (da_nil)))))) (db_nil)) <|
    db_cons (ds_set hN (de_lst (da_cons (de_tup (da_cons (de_str) (da_cons (de_cp (de_var 7)) (da_cons (de_cp (de_var 8)) (da_cons (de_cp (de_var 9)) (da_cons (de_cp (de_var 10)) (da_nil))))))) (da_cons (de_tup (da_cons (de_cp (de_var 6)) (da_cons (de_cp (de_var 7)) (da_cons (de_cp (de_var 8)) (da_cons (de_op op_addG (de_var 9) (de_var 4)) (da_cons (de_op op_subG (de_op op_addG (de_var 10) (de_int)) (de_var 4)) (da_nil))))))) (da_nil))))) <|
    db_cons (ds_set hN (de_op op_addG (de_var 5) (de_lst (da_cons (de_tup (da_cons (de_str) (da_cons (de_cp (de_var 7)) (da_cons (de_cp (de_var 8)) (da_cons (de_cp (de_var 9)) (da_cons (de_cp (de_var 10)) (da_nil))))))) (da_cons (de_tup (da_cons (de_cp (de_var 6)) (da_cons (de_cp (de_var 8)) (da_cons (de_cp (de_var 7)) (da_cons (de_cp (de_var 9)) (da_cons (de_cp (de_var 10)) (da_nil))))))) (da_nil)))))) <|
    db_cons (ds_expr (de_app 3 (de_cp (de_ix (de_op op_addG (de_var 5) (de_lst (da_cons (de_tup (da_cons (de_cp (de_var 6)) (da_cons (de_cp (de_var 7)) (da_cons (de_cp (de_var 8)) (da_cons (de_callB2 (cr_maxG rfl) B.max (de_int) (de_op op_subG (de_var 9) (de_var 4))) (da_cons (de_op op_addG (de_op op_addG (de_var 10) (de_int)) (de_var 4)) (da_nil))))))) (da_nil)))) (de_op op_subG (de_var 2) (de_int)))))) <|
    db_one (ds_ret (de_tup (da_cons (de_cp (de_ix (de_var 1) (de_int))) (da_cons (de_callT cr_tupleG B.tuple (de_var 3)) (da_nil)))))) (by decide) (by decide)

/-! ### _law_ways -/
def N__law_ways : List Str := ["_law_net_here", "_law_place", "_law_moment_here", "_law_found", "_law_k", "_law_number", "_law_here", "_law_now", "_law_step_here"]
def B__law_ways_1 : FS := fSeq (fSet 8 (fCall [none, none, none] d__law_step (fRVal (fCp (fVar 0)) (fRVal (fCp (fVar 5)) (fRVal (fCp (fVar 6)) (fRNil)))))) <|
    fIfS (fTAnd (fTst (fBin gIsNot (fVar 8) (fC .none))) (fTst (fBin gGe (fIx (fVar 8) (fC (.int 1))) (fVar 7)))) (fDrop (fApp 3 (fTup (fACons (fCp (fIx (fVar 8) (fC (.int 0)))) (fACons (fCp (fIx (fVar 8) (fC (.int 2)))) (fANil)))))) (fNx)
def L__law_ways_1 : FS := fFor (fR1 (fUn gLen (fIx (fVar 0) (fC (.int 1))))) (fGN 5) (B__law_ways_1)
def T__law_ways_1 : FT := fTst (fBin gLt (fVar 4) (fUn gLen (fVar 3)))
def B__law_ways_2 : FS := fSeq (fAsg (fIx (fVar 3) (fVar 4)) (fGT 2 (fGcons (fGN 6) (fGcons (fGN 7) (fGnil))))) <|
    fSeq (L__law_ways_1) <|
    fSet 4 (fBin gAdd (fVar 4) (fC (.int 1)))
def W__law_ways_1 : FS := fWhile 4000 (T__law_ways_1) (B__law_ways_2)
def b__law_ways : FS :=
    fSeq (fSet 3 (fLst (fACons (fTup (fACons (fCp (fVar 1)) (fACons (fCp (fVar 2)) (fANil)))) (fANil)))) <|
    fSeq (fSet 4 (fC (.int 0))) <|
    fSeq (W__law_ways_1) <|
    fRet (fMv 3)
def d__law_ways : FF := fDef 3 9 [3, 4, 5, 6, 7, 8] b__law_ways
theorem k__law_ways {P : Program} {w : World} {K : PySem.W.Frag} {mg : Str → Option Value} {base : Heap} (B : Blt mg) (G__law_step : FnD P w K mg base "_law_step" 3 1 [] d__law_step) {fa : Addr} {fd : FuncData} (F : FunD K "_law_ways" "_law_ways" (defArgs s__law_ways) (defBody s__law_ways) (defScope s__law_ways) [] [] fa fd) (hmg : mg "_law_ways" = some (.ref fa)) :
    FnD P w K mg base "_law_ways" 3 2 [] d__law_ways := by
  have hN : N__law_ways.Nodup := by decide +kernel
  refine ⟨fa, fd, ["_law_net_here", "_law_place", "_law_moment_here"], hmg, F.kp, FunD.bindsN F (fun _ _ _ _ _ _ us hl => match us, hl with | [_, _, _], _ => rfl), fn_den (N := N__law_ways) (as := [3, 4, 5, 6, 7, 8]) (ws := [3, 4, 5, 6, 7, 8]) F ⟨rfl, rfl, rfl, by decide +kernel, rfl, by decide +kernel, by decide +kernel⟩ (by decide) (by decide) (by decide) fun cdv A outer s H E R => ?_⟩
  have hu := R.hu
  exact DB.weak (
    db_cons (ds_set hN (de_lst (da_cons (de_tup (da_cons (de_cp (de_var 1)) (da_cons (de_cp (de_var 2)) (da_nil)))) (da_nil)))) <|
    db_cons (ds_set hN (de_int)) <|
    db_cons (ds_while 4000 PassesOwn.never (dt_cmp op_ltG (de_var 4) (de_callB cr_lenG B.len (de_var 3))) (db_cons (ds_asg (de_ix (de_var 3) (de_var 4)) (dg_tup rfl (dgs_cons (dg_name hN) (dgs_cons (dg_name hN) (dgs_nil))))) <|
    db_cons (ds_for PassesOwn.never rfl (di_range1 B.range (de_callB cr_lenG B.len (de_ix (de_var 0) (de_int)))) (dg_name hN) (db_cons (ds_set hN (de_call G__law_step R (by decide) (dr_val (de_cp (de_var 0)) (dr_val (de_cp (de_var 5)) (dr_val (de_cp (de_var 6)) (dr_nil)))))) <|
    db_one (ds_if (dw_dt (dw_and (dt_cmp op_isNotG (de_var 8) (de_non)) (dw_and1 (dt_cmp op_geG (de_ix (de_var 8) (de_int)) (de_var 7))))) (db_one (ds_expr (de_app 3 (de_tup (da_cons (de_cp (de_ix (de_var 8) (de_int))) (da_cons (de_cp (de_ix (de_var 8) (de_int))) (da_nil))))))) (db_nil)))) <|
    db_one (ds_set hN (de_op op_addG (de_var 4) (de_int))))) <|
    db_one (ds_ret (de_mv 3))) (by decide) (by decide)

/-! ### _law_answers -/
def N__law_answers : List Str := ["_law_net_here", "_law_ask", "_law_place", "_law_moment_here", "_law_other_here", "_law_by", "_law_come", "_law_there"]
def C__law_answers_1 : FE := fLc [7, 6] (fIS (fCall [none, none, none] d__law_ways (fRVal (fCp (fVar 0)) (fRVal (fCp (fVar 2)) (fRVal (fCp (fVar 3)) (fRNil)))))) (fGT 2 (fGcons (fGN 7) (fGcons (fGN 6) (fGnil)))) (fTAnd (fTst (fBin gEq (fVar 7) (fVar 4))) (fTst (fBin gLe (fVar 6) (fVar 5)))) (fCp (fVar 6))
def b__law_answers : FS :=
    fSeq (fAsg (fVar 1) (fGT 4 (fGcons (fGN 2) (fGcons (fGN 3) (fGcons (fGN 4) (fGcons (fGN 5) (fGnil))))))) <|
    fRet (fBin gNe (C__law_answers_1) (fLst (fANil)))
def d__law_answers : FF := fDef 2 8 [2, 3, 4, 5] b__law_answers
theorem k__law_answers {P : Program} {w : World} {K : PySem.W.Frag} {mg : Str → Option Value} {base : Heap} (B : Blt mg) (G__law_ways : FnD P w K mg base "_law_ways" 3 2 [] d__law_ways) {fa : Addr} {fd : FuncData} (F : FunD K "_law_answers" "_law_answers" (defArgs s__law_answers) (defBody s__law_answers) (defScope s__law_answers) [] [] fa fd) (hmg : mg "_law_answers" = some (.ref fa)) :
    FnD P w K mg base "_law_answers" 2 3 [] d__law_answers := by
  have hN : N__law_answers.Nodup := by decide +kernel
  refine ⟨fa, fd, ["_law_net_here", "_law_ask"], hmg, F.kp, FunD.bindsN F (fun _ _ _ _ _ _ us hl => match us, hl with | [_, _], _ => rfl), fn_den (N := N__law_answers) (as := [2, 3, 4, 5]) (ws := [2, 3, 4, 5, 6, 7]) F ⟨rfl, rfl, rfl, by decide +kernel, rfl, by decide +kernel, by decide +kernel⟩ (by decide) (by decide) (by decide) fun cdv A outer s H E R => ?_⟩
  have hu := R.hu
  exact DB.weak (
    db_cons (ds_asg (de_var 1) (dg_tup rfl (dgs_cons (dg_name hN) (dgs_cons (dg_name hN) (dgs_cons (dg_name hN) (dgs_cons (dg_name hN) (dgs_nil))))))) <|
    db_one (ds_ret (de_cmp (op_neG hu) (de_lc [("_law_there", 7), ("_law_come", 6)] rfl hN (blkOk_by (N := N__law_answers) (sc := defScope s__law_answers) (by decide +kernel)) (di_seq (de_call G__law_ways R (by decide) (dr_val (de_cp (de_var 0)) (dr_val (de_cp (de_var 2)) (dr_val (de_cp (de_var 3)) (dr_nil)))))) (fun _ _ _ _ _ => dg_tup rfl (dgs_cons (dg_name hN) (dgs_cons (dg_name hN) (dgs_nil)))) (fun _ _ _ _ _ => dc_one (dw_dt (dw_and (dt_cmp (op_eqG hu) (de_var 7) (de_var 4)) (dw_and1 (dt_cmp op_leG (de_var 6) (de_var 5)))))) (fun _ _ _ _ _ => de_cp (de_var 6))) (de_lst (da_nil))))) (by decide) (by decide)

/-! ### _law_same_answers -/
def N__law_same_answers : List Str := ["_law_one", "_law_other_here", "_law_begins", "_law_place", "_law_moment_here", "_law_near", "_law_far_here", "_law_there", "_law_least", "_law_at", "_law_begin_here", "_law_come", "_law_row"]
def C__law_same_answers_1 : FE := fLc [12] (fIS (fBin gAdd (fIx (fVar 0) (fC (.int 1))) (fIx (fVar 1) (fC (.int 1))))) (fGN 12) (fYes) (fCp (fIx (fVar 12) (fC (.int 3))))
def C__law_same_answers_2 : FE := fLc [10] (fIS (fVar 2)) (fGN 10) (fYes) (fBin gAdd (fVar 10) (fC (.int 1)))
def C__law_same_answers_3 : FE := fLc [9, 11] (fIS (fVar 5)) (fGT 2 (fGcons (fGN 9) (fGcons (fGN 11) (fGnil)))) (fTst (fBin gEq (fVar 9) (fVar 7))) (fCp (fVar 11))
def C__law_same_answers_4 : FE := fLc [9, 11] (fIS (fVar 6)) (fGT 2 (fGcons (fGN 9) (fGcons (fGN 11) (fGnil)))) (fTst (fBin gEq (fVar 9) (fVar 7))) (fCp (fVar 11))
def B__law_same_answers_1 : FS := fSeq (fSet 8 (fMinD (C__law_same_answers_3) (fUn gNeg (fC (.int 1))))) <|
    fIfS (fTst (fBin gNe (fVar 8) (fMinD (C__law_same_answers_4) (fUn gNeg (fC (.int 1)))))) (fRet (fC (.bool false))) (fNx)
def L__law_same_answers_1 : FS := fFor (fR1 (fIx (fVar 0) (fC (.int 0)))) (fGN 7) (B__law_same_answers_1)
def B__law_same_answers_2 : FS := fSeq (fSet 5 (fCall [none, none, none] d__law_ways (fRVal (fCp (fVar 0)) (fRVal (fCp (fVar 3)) (fRVal (fCp (fVar 4)) (fRNil)))))) <|
    fSeq (fSet 6 (fCall [none, none, none] d__law_ways (fRVal (fCp (fVar 1)) (fRVal (fCp (fVar 3)) (fRVal (fCp (fVar 4)) (fRNil)))))) <|
    L__law_same_answers_1
def L__law_same_answers_2 : FS := fFor (fIS (fUn gSortSet (fBin gAdd (fBin gAdd (fLst (fACons (fC (.int 0)) (fANil))) (fVar 2)) (C__law_same_answers_2)))) (fGN 4) (B__law_same_answers_2)
def B__law_same_answers_3 : FS := L__law_same_answers_2
def L__law_same_answers_3 : FS := fFor (fR1 (fIx (fVar 0) (fC (.int 0)))) (fGN 3) (B__law_same_answers_3)
def b__law_same_answers : FS :=
    fSeq (fSet 2 (C__law_same_answers_1)) <|
    fSeq (L__law_same_answers_3) <|
    fRet (fC (.bool true))
def d__law_same_answers : FF := fDef 2 13 [2, 3, 4, 5, 6, 7, 8] b__law_same_answers
theorem k__law_same_answers {P : Program} {w : World} {K : PySem.W.Frag} {mg : Str → Option Value} {base : Heap} (B : Blt mg) (G__law_ways : FnD P w K mg base "_law_ways" 3 2 [] d__law_ways) {fa : Addr} {fd : FuncData} (F : FunD K "_law_same_answers" "_law_same_answers" (defArgs s__law_same_answers) (defBody s__law_same_answers) (defScope s__law_same_answers) [] [] fa fd) (hmg : mg "_law_same_answers" = some (.ref fa)) :
    FnD P w K mg base "_law_same_answers" 2 3 [] d__law_same_answers := by
  have hN : N__law_same_answers.Nodup := by decide +kernel
  refine ⟨fa, fd, ["_law_one", "_law_other_here"], hmg, F.kp, FunD.bindsN F (fun _ _ _ _ _ _ us hl => match us, hl with | [_, _], _ => rfl), fn_den (N := N__law_same_answers) (as := [2, 3, 4, 5, 6, 7, 8]) (ws := [2, 3, 4, 5, 6, 7, 8, 9, 10, 11, 12]) F ⟨rfl, rfl, rfl, by decide +kernel, rfl, by decide +kernel, by decide +kernel⟩ (by decide) (by decide) (by decide) fun cdv A outer s H E R => ?_⟩
  have hu := R.hu
  exact DB.weak (
    db_cons (ds_setLc [("_law_row", 12)] rfl hN (blkOk_by (N := N__law_same_answers) (sc := defScope s__law_same_answers) (by decide +kernel)) (di_seq (de_op op_addG (de_ix (de_var 0) (de_int)) (de_ix (de_var 1) (de_int)))) (fun _ _ _ _ _ => dg_name hN) (fun _ _ _ _ _ => dc_nil) (fun _ _ _ _ _ => de_cp (de_ix (de_var 12) (de_int))) (sw_true rfl rfl rfl (by decide +kernel))) <|
    db_cons (ds_for PassesOwn.never rfl (di_range1 B.range (de_ix (de_var 0) (de_int))) (dg_name hN) (db_one (ds_for PassesOwn.never rfl (di_seq (de_sortSet rfl hu B.sorted B.set (de_op op_addG (de_op op_addG (de_lst (da_cons (de_int) (da_nil))) (de_var 2)) (de_lc [("_law_begin_here", 10)] rfl hN (blkOk_by (N := N__law_same_answers) (sc := defScope s__law_same_answers) (by decide +kernel)) (di_seq (de_var 2)) (fun _ _ _ _ _ => dg_name hN) (fun _ _ _ _ _ => dc_nil) (fun _ _ _ _ _ => de_op op_addG (de_var 10) (de_int)))))) (dg_name hN) (db_cons (ds_set hN (de_call G__law_ways R (by decide) (dr_val (de_cp (de_var 0)) (dr_val (de_cp (de_var 3)) (dr_val (de_cp (de_var 4)) (dr_nil)))))) <|
    db_cons (ds_set hN (de_call G__law_ways R (by decide) (dr_val (de_cp (de_var 1)) (dr_val (de_cp (de_var 3)) (dr_val (de_cp (de_var 4)) (dr_nil)))))) <|
    db_one (ds_for PassesOwn.never rfl (di_range1 B.range (de_ix (de_var 0) (de_int))) (dg_name hN) (db_cons (ds_set hN (de_minD rfl hu B.min (de_lc [("_law_at", 9), ("_law_come", 11)] rfl hN (blkOk_by (N := N__law_same_answers) (sc := defScope s__law_same_answers) (by decide +kernel)) (di_seq (de_var 5)) (fun _ _ _ _ _ => dg_tup rfl (dgs_cons (dg_name hN) (dgs_cons (dg_name hN) (dgs_nil)))) (fun _ _ _ _ _ => dc_one (dt_cmp (op_eqG hu) (de_var 9) (de_var 7))) (fun _ _ _ _ _ => de_cp (de_var 11))) (de_un un_negG (de_int)))) <|
    db_one (ds_if (dt_cmp (op_neG hu) (de_var 8) (de_minD rfl hu B.min (de_lc [("_law_at", 9), ("_law_come", 11)] rfl hN (blkOk_by (N := N__law_same_answers) (sc := defScope s__law_same_answers) (by decide +kernel)) (di_seq (de_var 6)) (fun _ _ _ _ _ => dg_tup rfl (dgs_cons (dg_name hN) (dgs_cons (dg_name hN) (dgs_nil)))) (fun _ _ _ _ _ => dc_one (dt_cmp (op_eqG hu) (de_var 9) (de_var 7))) (fun _ _ _ _ _ => de_cp (de_var 11))) (de_un un_negG (de_int)))) (db_one (ds_ret (de_bl))) (db_nil)))))))) <|
    db_one (ds_ret (de_bl))) (by decide) (by decide)

/-! ### law -/
def N_law : List Str := ["_law_script", "_law_k", "_law_deck_here", "_law_many", "_law_net_here", "_law_other_here", "_law_due", "_law_found", "_law_paper", "_law_nets"]
def B_law_1 : FS := fSeq (fSet 2 (fCall [none, none] d__law_deck (fRVal (fCp (fVar 0)) (fRVal (fCp (fVar 1)) (fRNil))))) <|
    fSeq (fSet 3 (fBin gAdd (fC (.int 2)) (fCall [some 2, none] d__law_draw (fRSlot 2 (fRVal (fC (.int 2)) (fRNil)))))) <|
    fSeq (fSet 4 (fCall [none, none, none] d__law_small (fRVal (fCall [some 2, none] d__law_net (fRSlot 2 (fRVal (fC (.int 2)) (fRNil)))) (fRVal (fCp (fVar 3)) (fRVal (fC (.int 4)) (fRNil)))))) <|
    fSeq (fSet 5 (fCall [some 2, none] d__law_other (fRSlot 2 (fRVal (fCp (fVar 4)) (fRNil))))) <|
    fSeq (fSet 6 (fCall [none, none] d__law_same_answers (fRVal (fCp (fVar 4)) (fRVal (fCp (fVar 5)) (fRNil))))) <|
    fSeq (fSet 7 (fCall [none, none] d_are_alike (fRVal (fCp (fVar 4)) (fRVal (fCp (fVar 5)) (fRNil))))) <|
    fSeq (fIfS (fTOr (fTNot (fTst (fUn (gIsA "bool") (fVar 7)))) (fTOr (fTst (fBin gNe (fVar 7) (fVar 6))) (fTst (fBin gNe (fBin gEq (fCall [none] d_plain (fRVal (fCp (fVar 4)) (fRNil))) (fCall [none] d_plain (fRVal (fCp (fVar 5)) (fRNil)))) (fVar 6))))) (fRet (fC (.bool false))) (fNx)) <|
    fSeq (fSet 8 (fCall [none, none] d_alike_paper (fRVal (fCp (fVar 4)) (fRVal (fCp (fVar 5)) (fRNil))))) <|
    fSeq (fIfS (fTst (fBin gNe (fIx (fVar 8) (fC (.int 0))) (fIx (fLst (fACons (fC (.str "parts")) (fACons (fC (.str "alike")) (fANil)))) (fUn gInt (fVar 6))))) (fRet (fC (.bool false))) (fNx)) <|
    fIfS (fTNot (fTst (fVar 6))) (fSeq (fSet 9 (fLst (fACons (fCp (fVar 4)) (fACons (fCp (fVar 5)) (fANil))))) <|
    fIfS (fTOr (fTNot (fTst (fCall [none, none] d__law_answers (fRVal (fCp (fIx (fVar 9) (fIx (fVar 8) (fC (.int 1))))) (fRVal (fCp (fIx (fVar 8) (fC (.int 2)))) (fRNil)))))) (fTst (fCall [none, none] d__law_answers (fRVal (fCp (fIx (fVar 9) (fBin gSub (fC (.int 1)) (fIx (fVar 8) (fC (.int 1)))))) (fRVal (fCp (fIx (fVar 8) (fC (.int 2)))) (fRNil)))))) (fRet (fC (.bool false))) (fNx)) (fNx)
def L_law_1 : FS := fFor (fR1 (fBin gMax2 (fC (.int 2)) (fBin gMin2 (fUn gLen (fVar 0)) (fC (.int 3))))) (fGN 1) (B_law_1)
def b_law : FS :=
    fSeq (L_law_1) <|
    fRet (fC (.bool true))
def d_law : FF := fDef 1 10 [1, 2, 3, 4, 5, 6, 7, 8, 9] b_law
theorem k_law {P : Program} {w : World} {K : PySem.W.Frag} {mg : Str → Option Value} {base : Heap} (B : Blt mg) (G__law_deck : FnD P w K mg base "_law_deck" 2 1 [] d__law_deck) (G__law_draw : FnD P w K mg base "_law_draw" 2 1 [0] d__law_draw) (G__law_small : FnD P w K mg base "_law_small" 3 1 [] d__law_small) (G__law_net : FnD P w K mg base "_law_net" 2 4 [0] d__law_net) (G__law_other : FnD P w K mg base "_law_other" 2 5 [0] d__law_other) (G__law_same_answers : FnD P w K mg base "_law_same_answers" 2 3 [] d__law_same_answers) (G_are_alike : FnD P w K mg base "are_alike" 2 7 [] d_are_alike) (G_plain : FnD P w K mg base "plain" 1 5 [] d_plain) (G_alike_paper : FnD P w K mg base "alike_paper" 2 6 [] d_alike_paper) (G__law_answers : FnD P w K mg base "_law_answers" 2 3 [] d__law_answers) {fa : Addr} {fd : FuncData} (F : FunD K "law" "law" (defArgs s_law) (defBody s_law) (defScope s_law) [] [] fa fd) (hmg : mg "law" = some (.ref fa)) :
    FnD P w K mg base "law" 1 8 [] d_law := by
  have hN : N_law.Nodup := by decide +kernel
  refine ⟨fa, fd, ["_law_script"], hmg, F.kp, FunD.bindsN F (fun _ _ _ _ _ _ us hl => match us, hl with | [_], _ => rfl), fn_den (N := N_law) (as := [1, 2, 3, 4, 5, 6, 7, 8, 9]) (ws := [1, 2, 3, 4, 5, 6, 7, 8, 9]) F ⟨rfl, rfl, rfl, by decide +kernel, rfl, by decide +kernel, by decide +kernel⟩ (by decide) (by decide) (by decide) fun cdv A outer s H E R => ?_⟩
  have hu := R.hu
  exact DB.weak (
    db_cons (ds_for PassesOwn.never rfl (di_range1 B.range (de_callB2 (cr_maxG rfl) B.max (de_int) (de_callB2 (cr_minG rfl) B.min (de_callB cr_lenG B.len (de_var 0)) (de_int)))) (dg_name hN) (db_cons (ds_set hN (de_call G__law_deck R (by decide) (dr_val (de_cp (de_var 0)) (dr_val (de_cp (de_var 1)) (dr_nil))))) <|
    db_cons (ds_set hN (de_op op_addG (de_int) (de_call G__law_draw R (by decide) (dr_slot 2 (dr_val (de_int) (dr_nil)))))) <|
    db_cons (ds_set hN (de_call G__law_small R (by decide) (dr_val (de_call G__law_net R (by decide) (dr_slot 2 (dr_val (de_int) (dr_nil)))) (dr_val (de_cp (de_var 3)) (dr_val (de_int) (dr_nil)))))) <|
    db_cons (ds_set hN (de_call G__law_other R (by decide) (dr_slot 2 (dr_val (de_cp (de_var 4)) (dr_nil))))) <|
    db_cons (ds_set hN (de_call G__law_same_answers R (by decide) (dr_val (de_cp (de_var 4)) (dr_val (de_cp (de_var 5)) (dr_nil))))) <|
    db_cons (ds_set hN (de_call G_are_alike R (by decide) (dr_val (de_cp (de_var 4)) (dr_val (de_cp (de_var 5)) (dr_nil))))) <|
    db_cons (ds_if (dw_dt (dw_or (dt_not (dt_val (de_isa "bool" B.isinstance B.bool (de_var 7)))) (dw_or (dt_cmp (op_neG hu) (de_var 7) (de_var 6)) (dw_or1 (dt_cmp (op_neG hu) (de_cmp (op_eqG hu) (de_call G_plain R (by decide) (dr_val (de_cp (de_var 4)) (dr_nil))) (de_call G_plain R (by decide) (dr_val (de_cp (de_var 5)) (dr_nil)))) (de_var 6)))))) (db_one (ds_ret (de_bl))) (db_nil)) <|
    db_cons (ds_set hN (de_call G_alike_paper R (by decide) (dr_val (de_cp (de_var 4)) (dr_val (de_cp (de_var 5)) (dr_nil))))) <|
    db_cons (ds_if (dt_cmp (op_neG hu) (de_ix (de_var 8) (de_int)) (de_ix (de_lst (da_cons (de_str) (da_cons (de_str) (da_nil)))) (de_callT cr_intG B.int (de_var 6)))) (db_one (ds_ret (de_bl))) (db_nil)) <|
    db_one (ds_if (dt_not (dt_val (de_var 6))) (db_cons (ds_set hN (de_lst (da_cons (de_cp (de_var 4)) (da_cons (de_cp (de_var 5)) (da_nil))))) <|
    db_one (ds_if (dw_dt (dw_or (dt_not (dt_val (de_call G__law_answers R (by decide) (dr_val (de_cp (de_ix (de_var 9) (de_ix (de_var 8) (de_int)))) (dr_val (de_cp (de_ix (de_var 8) (de_int))) (dr_nil)))))) (dw_or1 (dt_val (de_call G__law_answers R (by decide) (dr_val (de_cp (de_ix (de_var 9) (de_op op_subG (de_int) (de_ix (de_var 8) (de_int))))) (dr_val (de_cp (de_ix (de_var 8) (de_int))) (dr_nil)))))))) (db_one (ds_ret (de_bl))) (db_nil))) (db_nil)))) <|
    db_one (ds_ret (de_bl))) (by decide) (by decide)
end DL
namespace DL
open L2 PySem.Spec PySem PyProof.Rows

/-! ### reading at a written place -/
theorem ixN_nat {n k : Nat} (h : k < n) : ixN n (k : Int) = some k := by
  unfold ixN
  rw [if_pos (by omega), if_pos (by omega)]
  simp
theorem atI_nat {α : Type} {xs : List α} {k : Nat} : atI xs (k : Int) = xs[k]? := by
  unfold atI
  by_cases h : k < xs.length
  · rw [ixN_nat h]
    rfl
  · rw [List.getElem?_eq_none (by omega)]
    unfold ixN
    rw [if_pos (by omega), if_neg (by omega)]
    rfl
theorem ixd0 {a : PyData} {r : List PyData} : gIx (.d (.tuple (a :: r))) 0 = some (.d a) := by
  show (atI (a :: r) ((0 : Nat) : Int)).bind _ = _
  rw [atI_nat]
  rfl
theorem ixd1 {a b : PyData} {r : List PyData} : gIx (.d (.tuple (a :: b :: r))) 1 = some (.d b) := by
  show (atI (a :: b :: r) ((1 : Nat) : Int)).bind _ = _
  rw [atI_nat]
  rfl
theorem ixd2 {a b c : PyData} {r : List PyData} : gIx (.d (.tuple (a :: b :: c :: r))) 2 = some (.d c) := by
  show (atI (a :: b :: c :: r) ((2 : Nat) : Int)).bind _ = _
  rw [atI_nat]
  rfl
theorem ixd3 {a b c d : PyData} {r : List PyData} : gIx (.d (.tuple (a :: b :: c :: d :: r))) 3 = some (.d d) := by
  show (atI (a :: b :: c :: d :: r) ((3 : Nat) : Int)).bind _ = _
  rw [atI_nat]
  rfl
theorem ixd4 {a b c d e : PyData} {r : List PyData} : gIx (.d (.tuple (a :: b :: c :: d :: e :: r))) 4 = some (.d e) := by
  show (atI (a :: b :: c :: d :: e :: r) ((4 : Nat) : Int)).bind _ = _
  rw [atI_nat]
  rfl
theorem ixl0 {a : M} {r : List M} : gIx (.lst (a :: r)) 0 = some a := by
  show atI (a :: r) ((0 : Nat) : Int) = _
  rw [atI_nat]
  rfl
theorem ixl1 {a b : M} {r : List M} : gIx (.lst (a :: b :: r)) 1 = some b := by
  show atI (a :: b :: r) ((1 : Nat) : Int) = _
  rw [atI_nat]
  rfl
theorem ixl2 {a b c : M} {r : List M} : gIx (.lst (a :: b :: c :: r)) 2 = some c := by
  show atI (a :: b :: c :: r) ((2 : Nat) : Int) = _
  rw [atI_nat]
  rfl
theorem ixl3 {a b c d : M} {r : List M} : gIx (.lst (a :: b :: c :: d :: r)) 3 = some d := by
  show atI (a :: b :: c :: d :: r) ((3 : Nat) : Int) = _
  rw [atI_nat]
  rfl
theorem ixl4 {a b c d e : M} {r : List M} : gIx (.lst (a :: b :: c :: d :: e :: r)) 4 = some e := by
  show atI (a :: b :: c :: d :: e :: r) ((4 : Nat) : Int) = _
  rw [atI_nat]
  rfl
theorem ixl5 {a b c d e f : M} {r : List M} : gIx (.lst (a :: b :: c :: d :: e :: f :: r)) 5 = some f := by
  show atI (a :: b :: c :: d :: e :: f :: r) ((5 : Nat) : Int) = _
  rw [atI_nat]
  rfl
theorem ixl6 {a b c d e f g : M} {r : List M} : gIx (.lst (a :: b :: c :: d :: e :: f :: g :: r)) 6 = some g := by
  show atI (a :: b :: c :: d :: e :: f :: g :: r) ((6 : Nat) : Int) = _
  rw [atI_nat]
  rfl
theorem ixl7 {a b c d e f g h : M} {r : List M} : gIx (.lst (a :: b :: c :: d :: e :: f :: g :: h :: r)) 7 = some h := by
  show atI (a :: b :: c :: d :: e :: f :: g :: h :: r) ((7 : Nat) : Int) = _
  rw [atI_nat]
  rfl
theorem ixn0 {n : Nat} : ixN (n + 1) 0 = some 0 := ixN_nat (k := 0) (by omega)
theorem ixn1 {n : Nat} : ixN (n + 2) 1 = some 1 := ixN_nat (k := 1) (by omega)
theorem ixn2 {n : Nat} : ixN (n + 3) 2 = some 2 := ixN_nat (k := 2) (by omega)
/-! ### data without truths -/
mutual
def nb : PyData → Bool
  | .none => true
  | .bool _ => false
  | .int _ => true
  | .str _ => true
  | .list xs => nbAll xs
  | .tuple xs => nbAll xs
  | .dict _ => false
def nbAll : List PyData → Bool
  | [] => true
  | x :: xs => nb x && nbAll xs
end
mutual
theorem eqv_nb : ∀ x y : PyData, nb x = true → nb y = true → (PyData.eqv x y = true ↔ x = y)
  | .none, y, _, h => by cases y <;> simp [PyData.eqv, nb] at *
  | .bool _, _, h, _ => by simp [nb] at h
  | .int i, y, _, h => by cases y <;> simp [PyData.eqv, nb] at *
  | .str i, y, _, h => by cases y <;> simp [PyData.eqv, nb] at *
  | .dict _, _, h, _ => by simp [nb] at h
  | .list xs, y, h1, h => by
    cases y with
    | list ys =>
      simp only [nb] at h1 h
      simp only [PyData.eqv, PyData.list.injEq]
      exact eqvAll_nb xs ys h1 h
    | _ => simp [PyData.eqv, nb] at *
  | .tuple xs, y, h1, h => by
    cases y with
    | tuple ys =>
      simp only [nb] at h1 h
      simp only [PyData.eqv, PyData.tuple.injEq]
      exact eqvAll_nb xs ys h1 h
    | _ => simp [PyData.eqv, nb] at *
theorem eqvAll_nb : ∀ xs ys : List PyData, nbAll xs = true → nbAll ys = true → (PyData.eqvAll xs ys = true ↔ xs = ys)
  | [], [], _, _ => by simp [PyData.eqvAll]
  | [], _ :: _, _, _ => by simp [PyData.eqvAll]
  | _ :: _, [], _, _ => by simp [PyData.eqvAll]
  | x :: xs, y :: ys, h1, h2 => by
    simp only [nbAll, Bool.and_eq_true] at h1 h2
    simp only [PyData.eqvAll, Bool.and_eq_true, List.cons.injEq]
    rw [eqv_nb x y h1.1 h2.1, eqvAll_nb xs ys h1.2 h2.2]
end
/-- data that can be compared -/
def okE (d : PyData) : Prop := nb d = true ∧ SeqAt.shaped d = true
theorem gEq_ok {m n : M} {d e : PyData} [Decidable (d = e)] (hm : m.py = some d) (hn : n.py = some e) (hd : okE d) (he : okE e) : gEq m n = some (.d (.bool (decide (d = e)))) := by
  unfold gEq gEqB
  rw [hm, hn]
  have : PyData.eqv d e = decide (d = e) := by
    rw [Bool.eq_iff_iff, eqv_nb d e hd.1 he.1, decide_eq_true_iff]
  simp [hd.2, he.2, this]
theorem gNe_ok {m n : M} {d e : PyData} [Decidable (d = e)] (hm : m.py = some d) (hn : n.py = some e) (hd : okE d) (he : okE e) : gNe m n = some (.d (.bool (!decide (d = e)))) := by
  unfold gNe gEqB
  rw [hm, hn]
  have : PyData.eqv d e = decide (d = e) := by
    rw [Bool.eq_iff_iff, eqv_nb d e hd.1 he.1, decide_eq_true_iff]
  simp [hd.2, he.2, this]
theorem gIn_ok {m n : M} {d : PyData} {es : List PyData} [Decidable (d ∈ es)] (hm : m.py = some d) (hn : n.py = some (.list es) ∨ n.py = some (.tuple es)) (hd : okE d) (he : okE (.list es)) : gIn m n = some (.d (.bool (decide (d ∈ es)))) ∧ gNotIn m n = some (.d (.bool (!decide (d ∈ es)))) := by
  have hs : SeqAt.shaped (.tuple es) = true := he.2
  have hnb : ∀ z ∈ es, nb z = true := by
    have : nbAll es = true := he.1
    clear hn hs he
    induction es with
    | nil => simp
    | cons z zs ih =>
      simp only [nbAll, Bool.and_eq_true] at this
      intro y hy
      rcases List.mem_cons.mp hy with rfl | hy
      · exact this.1
      · exact ih this.2 y hy
  have ea : (es.any fun z => PyData.eqv z d) = decide (d ∈ es) := by
    rw [Bool.eq_iff_iff, List.any_eq_true, decide_eq_true_iff]
    constructor
    · rintro ⟨z, hz, e⟩
      rw [(eqv_nb z d (hnb z hz) hd.1).mp e] at hz
      exact hz
    · intro hz
      exact ⟨d, hz, (eqv_nb d d hd.1 hd.1).mpr rfl⟩
  unfold gIn gNotIn gInB
  rw [hm]
  rcases hn with hn | hn <;> rw [hn] <;> simp [hd.2, he.2, hs, ea]
theorem okE_int (i : Int) : okE (.int i) := ⟨rfl, rfl⟩
theorem okE_str {x : Str} (h : PyData.canLay0 (.str x) = true) : okE (.str x) := ⟨rfl, by unfold SeqAt.shaped; rw [h]; rfl⟩
theorem gEq_int (i j : Int) : gEq (.d (.int i)) (.d (.int j)) = some (.d (.bool (decide (i = j)))) := by
  letI : Decidable (PyData.int i = .int j) := if h : i = j then isTrue (by rw [h]) else isFalse (by simpa using h)
  rw [gEq_ok rfl rfl (okE_int i) (okE_int j)]
  simp
theorem gNe_int (i j : Int) : gNe (.d (.int i)) (.d (.int j)) = some (.d (.bool (!decide (i = j)))) := by
  letI : Decidable (PyData.int i = .int j) := if h : i = j then isTrue (by rw [h]) else isFalse (by simpa using h)
  rw [gNe_ok rfl rfl (okE_int i) (okE_int j)]
  simp
theorem gEq_str {x y : Str} (hx : PyData.canLay0 (.str x) = true) (hy : PyData.canLay0 (.str y) = true) : gEq (.d (.str x)) (.d (.str y)) = some (.d (.bool (decide (x = y)))) := by
  letI : Decidable (PyData.str x = .str y) := if h : x = y then isTrue (by rw [h]) else isFalse (by simpa using h)
  rw [gEq_ok rfl rfl (okE_str hx) (okE_str hy)]
  simp

/-! ### loops -/
section
variable {α : Type} {enc : α → PyData} {g : FG} {f : FS}
theorem for_inv (I : List α → MS → Prop) : ∀ (ys pre : List α), (∀ pre' y suf, pre ++ ys = pre' ++ y :: suf → ∀ ρ, I pre' ρ → ∃ ρ1 ρ', g (enc y) ρ = some ρ1 ∧ (f ρ1 = some (.nx ρ') ∨ f ρ1 = some (.ct ρ')) ∧ I (pre' ++ [y]) ρ') →
    ∀ ρ, I pre ρ → ∃ ρ', forL g f (ys.map enc) ρ = some (.nx ρ') ∧ I (pre ++ ys) ρ'
  | [], pre, _, ρ, h => ⟨ρ, rfl, by simpa using h⟩
  | y :: ys, pre, step, ρ, h => by
    obtain ⟨ρ1, ρ2, e1, e2, h2⟩ := step pre y ys rfl ρ h
    obtain ⟨ρ3, e3, h3⟩ := for_inv I ys (pre ++ [y]) (fun p z s e => step p z s (by rw [← e]; simp)) ρ2 h2
    refine ⟨ρ3, ?_, by simpa using h3⟩
    simp only [List.map_cons, forL, e1, Option.bind_some]
    rcases e2 with e2 | e2 <;> simp only [e2, Option.bind_some, e3]
/-- a loop that may return -/
theorem for_ret (I : List α → MS → Prop) (T : M → MS → Prop) : ∀ (ys pre : List α), (∀ pre' y suf, pre ++ ys = pre' ++ y :: suf → ∀ ρ, I pre' ρ → ∃ ρ1, g (enc y) ρ = some ρ1 ∧
    ((∃ ρ', (f ρ1 = some (.nx ρ') ∨ f ρ1 = some (.ct ρ')) ∧ I (pre' ++ [y]) ρ') ∨ ∃ m ρ', f ρ1 = some (.rt m ρ') ∧ T m ρ')) →
    ∀ ρ, I pre ρ → (∃ ρ', forL g f (ys.map enc) ρ = some (.nx ρ') ∧ I (pre ++ ys) ρ') ∨ ∃ m ρ', forL g f (ys.map enc) ρ = some (.rt m ρ') ∧ T m ρ'
  | [], pre, _, ρ, h => .inl ⟨ρ, rfl, by simpa using h⟩
  | y :: ys, pre, step, ρ, h => by
    obtain ⟨ρ1, e1, s⟩ := step pre y ys rfl ρ h
    simp only [List.map_cons, forL, e1, Option.bind_some]
    rcases s with ⟨ρ2, e2, h2⟩ | ⟨m, ρ2, e2, h2⟩
    · have ih := for_ret I T ys (pre ++ [y]) (fun p z s e => step p z s (by rw [← e]; simp)) ρ2 h2
      have : (pre ++ [y]) ++ ys = pre ++ y :: ys := by simp
      rw [this] at ih
      rcases e2 with e2 | e2 <;> simp only [e2, Option.bind_some] <;> exact ih
    · exact .inr ⟨m, ρ2, by simp only [e2, Option.bind_some], h2⟩
/-- a comprehension, all of whose turns come back to one state -/
theorem lc_all {own : List Nat} {c : FT} {h : FE} {b : α → Bool} {r : α → M} {ρ : MS} : ∀ (ys : List α) (acc : List M), (∀ y ∈ ys, ∃ ρ1 ρ2, g (enc y) ρ = some ρ1 ∧ c ρ1 = some (b y, ρ2) ∧ (b y = false → wipeM ρ2 own = ρ) ∧ (b y = true → ∃ ρ3, h ρ2 = some (r y, ρ3) ∧ wipeM ρ3 own = ρ)) →
    acc.length + ys.length ≤ sizeLine → lcL own g c h (ys.map enc) ρ acc = some (acc ++ (ys.filter b).map r, ρ)
  | [], acc, _, _ => by simp [lcL]
  | y :: ys, acc, step, hl => by
    simp only [List.length_cons] at hl
    obtain ⟨ρ1, ρ2, e1, e2, e3, e4⟩ := step y (by simp)
    have st := fun z hz => step z (List.mem_cons_of_mem y hz)
    simp only [List.map_cons, lcL, e1, e2, Option.bind_some]
    cases hb : b y with
    | false =>
      rw [if_neg (by simp), e3 hb, lc_all ys acc st (by omega)]
      simp [hb]
    | true =>
      obtain ⟨ρ3, e5, e6⟩ := e4 hb
      rw [if_pos rfl, e5]
      simp only [Option.bind_some]
      rw [if_pos (by omega), e6, lc_all ys (acc ++ [r y]) st (by simp only [List.length_append, List.length_cons, List.length_nil]; omega)]
      simp [hb]
end
/-- a while loop by a measure -/
theorem whl_inv {t : FT} {f : FS} (I : Nat → MS → Prop) (D : MS → Prop) (step : ∀ m ρ, I m ρ → ∃ c ρ1, t ρ = some (c, ρ1) ∧ (c = false → D ρ1) ∧ (c = true → ∃ ρ2 k, f ρ1 = some (.nx ρ2) ∧ k < m ∧ I k ρ2)) :
    ∀ (n m : Nat) (ρ : MS), m < n → I m ρ → ∃ ρ', whl t f n ρ = some (.nx ρ') ∧ D ρ'
  | 0, _, _, h, _ => absurd h (Nat.not_lt_zero _)
  | n + 1, m, ρ, hm, h => by
    obtain ⟨c, ρ1, e1, e2, e3⟩ := step m ρ h
    simp only [whl, e1, Option.bind_some]
    cases c with
    | false => exact ⟨ρ1, rfl, e2 rfl⟩
    | true =>
      obtain ⟨ρ2, k, e4, hk, h2⟩ := e3 rfl
      obtain ⟨ρ3, e5, h3⟩ := whl_inv I D step n k ρ2 (by omega) h2
      exact ⟨ρ3, by simp only [e4, Option.bind_some, if_true, e5], h3⟩

/-! ### sorted -/
theorem dataLe_tot : (∀ a b c : PyData, PySem.W.dataLe false id a b = true → PySem.W.dataLe false id b c = true → PySem.W.dataLe false id a c = true) ∧ ∀ a b : PyData, (PySem.W.dataLe false id a b || PySem.W.dataLe false id b a) = true := by
  have := PySem.W.sortLe_total (listOrd itemOrd) false (fun b : PyData => PySem.W.keyToks (id b))
  refine ⟨this.trans, fun a b => ?_⟩
  have t := this.total a b
  unfold PySem.W.dataLe
  simpa using t
end DL
namespace DL
open L2 PySem.Spec PySem PyProof.Rows

theorem szl : sizeLine = 16777216 := (Nat.add_zero sizeLine).symm.trans (by decide +kernel)
theorem gMulL {i j : Int} (h1 : -18446744073709551616 < i) (h2 : i < 18446744073709551616) : gMul (.d (.int i)) (.d (.int j)) = some (.d (.int (i * j))) := by
  unfold gMul
  simp only
  rw [if_pos (.inl ⟨by simpa using h1, by simpa using h2⟩)]
theorem gMulR {i j : Int} (h1 : -18446744073709551616 < j) (h2 : j < 18446744073709551616) : gMul (.d (.int i)) (.d (.int j)) = some (.d (.int (i * j))) := by
  unfold gMul
  simp only
  rw [if_pos (.inr ⟨by simpa using h1, by simpa using h2⟩)]
theorem gp6 : gPow (.d (.int 10)) (.d (.int 6)) = some (.d (.int 1000000)) := by simp [gPow]
theorem gp12 : gPow (.d (.int 10)) (.d (.int 12)) = some (.d (.int 1000000000000)) := by simp [gPow]
theorem gp13 : gPow (.d (.int 10)) (.d (.int 13)) = some (.d (.int 10000000000000)) := by simp [gPow]
theorem gp18 : gPow (.d (.int 10)) (.d (.int 18)) = some (.d (.int 1000000000000000000)) := by simp [gPow]
/-! ### the program's things -/
structure Me where
  b : Bool
  p : Int
  q : Int
  s : Int
  l : Int
structure Tp where
  n : Int
  p : Int
  q : Int
  s : Int
  e : Int
def wordD (b : Bool) : Str := if b = true then "both" else "to"
def Me.data (m : Me) : PyData := .tuple [.str (wordD m.b), .int m.p, .int m.q, .int m.s, .int m.l]
def Tp.data (t : Tp) : PyData := .tuple [.int t.n, .int t.p, .int t.q, .int t.s, .int t.e]
def Tp.byB (t : Tp) : PyData := .tuple [.int t.s, .int t.e, .int t.p, .int t.q, .int t.n]
def netD (many : Int) (ms : List Me) : PyData := .tuple [.int many, .tuple (ms.map Me.data)]
def enumL {α : Type} : List α → Nat → List (Nat × α)
  | [], _ => []
  | x :: xs, k => (k, x) :: enumL xs (k + 1)
def stp (y : Nat × Me) : List Tp := ⟨(y.1 : Int), y.2.p, y.2.q, y.2.s, y.2.s + y.2.l⟩ :: if y.2.b = true then [⟨(y.1 : Int), y.2.q, y.2.p, y.2.s, y.2.s + y.2.l⟩] else []
def stepsL (ms : List Me) : List Tp := (enumL ms 0).flatMap stp
theorem enumL_len {α : Type} : ∀ (xs : List α) (k : Nat), (enumL xs k).length = xs.length
  | [], _ => rfl
  | _ :: xs, k => by simp [enumL, enumL_len xs]
theorem enumD_map {α : Type} {enc : α → PyData} : ∀ (xs : List α) (k : Nat), enumD (xs.map enc) k = (enumL xs k).map fun y => .tuple [.int (y.1 : Int), enc y.2]
  | [], _ => rfl
  | x :: xs, k => by simp [enumL, enumD, enumD_map xs]
theorem stp_len (y : Nat × Me) : (stp y).length ≤ 2 := by
  unfold stp
  split <;> simp
theorem flat_len : ∀ ys : List (Nat × Me), (ys.flatMap stp).length ≤ 2 * ys.length
  | [] => by simp
  | y :: ys => by
    have := stp_len y
    have := flat_len ys
    simp only [List.flatMap_cons, List.length_append, List.length_cons]
    omega
theorem stepsL_len (ms : List Me) : (stepsL ms).length ≤ 2 * ms.length := by
  have := flat_len (enumL ms 0)
  rw [enumL_len] at this
  exact this
abbrev lstD (ds : List PyData) : M := .lst (ds.map M.d)
theorem app_d (ds : List PyData) (x : PyData) : ds.map M.d ++ [M.d x] = (ds ++ [x]).map M.d := by simp
theorem for_of {src : FI} {g : FG} {f : FS} {ρ ρ1 : MS} {ds : List PyData} {o : Option O} (h1 : src ρ = some (ds, ρ1)) (h2 : forL g f ds ρ1 = o) : fFor src g f ρ = o := by
  unfold fFor
  rw [h1]
  exact h2
theorem lc_of {own : List Nat} {src : FI} {g : FG} {c : FT} {f : FE} {ρ ρ1 ρ2 ρ3 : MS} {ds : List PyData} {ms : List M} (h1 : src ρ = some (ds, ρ1)) (h2 : lcL own g c f ds (wipeM ρ1 own) [] = some (ms, ρ2)) (h3 : backM ρ1 ρ2 own = ρ3) : fLc own src g c f ρ = some (.lst ms, ρ3) := by
  unfold fLc
  rw [h1]
  simp only [Option.bind_some]
  rw [h2]
  simp only [Option.bind_some]
  rw [h3]
theorem lc_spec {α : Type} {enc : α → PyData} {own : List Nat} {src : FI} {g : FG} {c : FT} {f : FE} {ρ ρ1 : MS} (b : α → Bool) (r : α → M) {ys : List α} (h1 : src ρ = some (ys.map enc, ρ1))
    (step : ∀ y ∈ ys, ∃ ρa ρb, g (enc y) (wipeM ρ1 own) = some ρa ∧ c ρa = some (b y, ρb) ∧ (b y = false → wipeM ρb own = wipeM ρ1 own) ∧ (b y = true → ∃ ρc, f ρb = some (r y, ρc) ∧ wipeM ρc own = wipeM ρ1 own))
    (hl : ys.length ≤ sizeLine) (hb : backM ρ1 (wipeM ρ1 own) own = ρ1) : fLc own src g c f ρ = some (.lst ((ys.filter b).map r), ρ1) := by
  have := lc_all (own := own) (b := b) (r := r) ys [] step (by simpa using hl)
  exact lc_of h1 this hb
theorem filter_yes {α : Type} (ys : List α) : ys.filter (fun _ => true) = ys := List.filter_eq_self.mpr fun _ _ => rfl
theorem wd_ok (b : Bool) : PyData.canLay0 (.str (wordD b)) = true := by cases b <;> decide +kernel
theorem wd_both (b : Bool) : gEq (.d (.str (wordD b))) (.d (.str "both")) = some (.d (.bool b)) := by
  show gEq (.d (.str (wordD b))) (.d (.str (wordD true))) = _
  rw [gEq_str (wd_ok b) (wd_ok true)]
  cases b <;> simp [show wordD false ≠ wordD true from by decide +kernel]

theorem at1 {a b c : Option M} {r : MS} (h : b = c) : a :: b :: r = a :: c :: r := by rw [h]
/-! ### steps_of -/
theorem L_steps (net : PyData) (many : Int) (ms : List Me) (hn : net = netD many ms) (hl : ms.length ≤ 1000) (j2 j3 j4 j5 j6 j7 j8 : Option M) :
    ∃ k2 k3 k4 k5 k6 k7 k8, L_steps_of_1 [some (.d net), some (lstD []), j2, j3, j4, j5, j6, j7, j8] = some (.nx [some (.d net), some (lstD ((stepsL ms).map Tp.data)), k2, k3, k4, k5, k6, k7, k8]) := by
  subst hn
  have := for_inv (enc := fun y : Nat × Me => .tuple [.int (y.1 : Int), y.2.data]) (g := fGT 2 (fGcons (fGN 2) (fGcons (fGN 3) (fGnil)))) (f := B_steps_of_1)
    (fun pre ρ => ∃ k2 k3 k4 k5 k6 k7 k8, ρ = [some (.d (netD many ms)), some (lstD ((pre.flatMap stp).map Tp.data)), k2, k3, k4, k5, k6, k7, k8]) (enumL ms 0) [] ?_ _ ⟨j2, j3, j4, j5, j6, j7, j8, rfl⟩
  · obtain ⟨ρ', e, k2, k3, k4, k5, k6, k7, k8, rfl⟩ := this
    refine ⟨k2, k3, k4, k5, k6, k7, k8, for_of (ds := (enumL ms 0).map fun y => .tuple [.int (y.1 : Int), y.2.data]) ?_ e⟩
    simp only [fDef, List.length_cons, List.length_nil, Nat.reduceAdd, Nat.reduceSub, List.replicate, List.cons_append, List.nil_append, fSeq, fIfS, fTst, fTAnd, fTOr, fTNot, fBin, fUn, fIx, fVar, fC, sl, ixd0, ixd1, ixd2, ixd3, ixd4, ixl0, ixl1, ixl2, ixl3, ixl4, ixl5, ixl6, ixl7, ixn0, ixn1, ixn2, gLt, gLe, gGt, gGe, gCmp, gIs, gIsNot, gIsB, M.isNone, M.int, M.bool, fSet, fRet, fRetN, fNx, fNot, fAnd, fOr, fIf, fCp, fMv, M.dat, wipeM, backM, Option.getD_some, Option.getD_none, gAdd, gSub, gMulL, gMulR, gMod, gDiv, gp6, gp12, gp13, gp18, gNeg, fPut, fApp, fPop, fDrop, M.lst?, fAsg, fGT, fGcons, fGN, fGnil, fTup, fLst, fACons, fANil, allD, fCall, fRVal, fRSlot, fRNil, amsOf, putBack, gLen, gTuple, gInt, gMax2, gMin2, Option.bind_some, Option.bind_none, Option.bind_eq_bind, List.getElem?_cons_zero, List.getElem?_cons_succ, List.set_cons_zero, List.set_cons_succ, outM, List.map_cons, List.map_nil, szl, Int.cast_ofNat_Int, if_true, if_false, ite_true, ite_false, Bool.false_eq_true, decide_true, decide_false, Bool.not_true, Bool.not_false, Int.reduceNeg, List.length_map, reduceIte, Nat.reduceLeDiff, Nat.reduceLT, Nat.reduceMul, Int.reduceLE, Int.reduceLT, Int.reduceToNat, Int.toNat_one, Int.toNat_zero, Int.reduceAdd, Int.reduceSub, Int.reduceMul, Int.reducePow, Nat.reducePow, Int.zero_add, Nat.zero_add, Nat.lt_add_one, Int.zero_le_ofNat, Option.some.injEq, reduceCtorEq, Prod.mk.injEq, O.nx.injEq, List.cons.injEq, M.d.injEq, PyData.int.injEq, and_self, true_and, and_true, List.append_assoc, List.mem_cons, List.not_mem_nil, Nat.reduceEqDiff, Int.reduceEq, Int.reduceMod, Int.reduceDiv, Int.reduceGT, or_self, or_false, fEn, netD, M.its, ← enumD_map]
    rfl
  · rintro pre y suf e ρ ⟨k2, k3, k4, k5, k6, k7, k8, rfl⟩
    have hlen : pre.length < ms.length := by
      have := congrArg List.length e
      simp only [List.nil_append, enumL_len, List.length_append, List.length_cons] at this
      omega
    have hf := flat_len pre
    have hz : (List.flatMap stp pre).length + 1 < 16777216 := by omega
    have hz2 : (List.flatMap stp pre).length < 16777216 := by omega
    obtain ⟨k, m⟩ := y
    obtain ⟨b, p, q, s, l⟩ := m
    cases b with
    | false =>
      refine ⟨_, _, rfl, .inl (by
        simp only [B_steps_of_1, fDef, List.length_cons, List.length_nil, Nat.reduceAdd, Nat.reduceSub, List.replicate, List.cons_append, List.nil_append, fSeq, fIfS, fTst, fTAnd, fTOr, fTNot, fBin, fUn, fIx, fVar, fC, sl, ixd0, ixd1, ixd2, ixd3, ixd4, ixl0, ixl1, ixl2, ixl3, ixl4, ixl5, ixl6, ixl7, ixn0, ixn1, ixn2, gLt, gLe, gGt, gGe, gCmp, gIs, gIsNot, gIsB, M.isNone, M.int, M.bool, fSet, fRet, fRetN, fNx, fNot, fAnd, fOr, fIf, fCp, fMv, M.dat, wipeM, backM, Option.getD_some, Option.getD_none, gAdd, gSub, gMulL, gMulR, gMod, gDiv, gp6, gp12, gp13, gp18, gNeg, fPut, fApp, fPop, fDrop, M.lst?, fAsg, fGT, fGcons, fGN, fGnil, fTup, fLst, fACons, fANil, allD, fCall, fRVal, fRSlot, fRNil, amsOf, putBack, gLen, gTuple, gInt, gMax2, gMin2, Option.bind_some, Option.bind_none, Option.bind_eq_bind, List.getElem?_cons_zero, List.getElem?_cons_succ, List.set_cons_zero, List.set_cons_succ, outM, List.map_cons, List.map_nil, szl, Int.cast_ofNat_Int, if_true, if_false, ite_true, ite_false, Bool.false_eq_true, decide_true, decide_false, Bool.not_true, Bool.not_false, Int.reduceNeg, List.length_map, reduceIte, Nat.reduceLeDiff, Nat.reduceLT, Nat.reduceMul, Int.reduceLE, Int.reduceLT, Int.reduceToNat, Int.toNat_one, Int.toNat_zero, Int.reduceAdd, Int.reduceSub, Int.reduceMul, Int.reducePow, Nat.reducePow, Int.zero_add, Nat.zero_add, Nat.lt_add_one, Int.zero_le_ofNat, Option.some.injEq, reduceCtorEq, Prod.mk.injEq, O.nx.injEq, List.cons.injEq, M.d.injEq, PyData.int.injEq, and_self, true_and, and_true, List.append_assoc, List.mem_cons, List.not_mem_nil, Nat.reduceEqDiff, Int.reduceEq, Int.reduceMod, Int.reduceDiv, Int.reduceGT, or_self, or_false, Me.data, wd_both, hz2]
        rfl), ?_⟩
      exact ⟨_, _, _, _, _, _, _, at1 (by simp [stp, Tp.data])⟩
    | true =>
      refine ⟨_, _, rfl, .inl (by
        simp only [B_steps_of_1, fDef, List.length_cons, List.length_nil, Nat.reduceAdd, Nat.reduceSub, List.replicate, List.cons_append, List.nil_append, fSeq, fIfS, fTst, fTAnd, fTOr, fTNot, fBin, fUn, fIx, fVar, fC, sl, ixd0, ixd1, ixd2, ixd3, ixd4, ixl0, ixl1, ixl2, ixl3, ixl4, ixl5, ixl6, ixl7, ixn0, ixn1, ixn2, gLt, gLe, gGt, gGe, gCmp, gIs, gIsNot, gIsB, M.isNone, M.int, M.bool, fSet, fRet, fRetN, fNx, fNot, fAnd, fOr, fIf, fCp, fMv, M.dat, wipeM, backM, Option.getD_some, Option.getD_none, gAdd, gSub, gMulL, gMulR, gMod, gDiv, gp6, gp12, gp13, gp18, gNeg, fPut, fApp, fPop, fDrop, M.lst?, fAsg, fGT, fGcons, fGN, fGnil, fTup, fLst, fACons, fANil, allD, fCall, fRVal, fRSlot, fRNil, amsOf, putBack, gLen, gTuple, gInt, gMax2, gMin2, Option.bind_some, Option.bind_none, Option.bind_eq_bind, List.getElem?_cons_zero, List.getElem?_cons_succ, List.set_cons_zero, List.set_cons_succ, outM, List.map_cons, List.map_nil, szl, Int.cast_ofNat_Int, if_true, if_false, ite_true, ite_false, Bool.false_eq_true, decide_true, decide_false, Bool.not_true, Bool.not_false, Int.reduceNeg, List.length_map, reduceIte, Nat.reduceLeDiff, Nat.reduceLT, Nat.reduceMul, Int.reduceLE, Int.reduceLT, Int.reduceToNat, Int.toNat_one, Int.toNat_zero, Int.reduceAdd, Int.reduceSub, Int.reduceMul, Int.reducePow, Nat.reducePow, Int.zero_add, Nat.zero_add, Nat.lt_add_one, Int.zero_le_ofNat, Option.some.injEq, reduceCtorEq, Prod.mk.injEq, O.nx.injEq, List.cons.injEq, M.d.injEq, PyData.int.injEq, and_self, true_and, and_true, List.append_assoc, List.mem_cons, List.not_mem_nil, Nat.reduceEqDiff, Int.reduceEq, Int.reduceMod, Int.reduceDiv, Int.reduceGT, or_self, or_false, Me.data, wd_both, hz2, hz, List.length_append]
        rfl), ?_⟩
      exact ⟨_, _, _, _, _, _, _, at1 (by simp [stp, Tp.data])⟩
theorem sp_steps (many : Int) (ms : List Me) (hl : ms.length ≤ 1000) : d_steps_of [some (.d (netD many ms))] = some (.d (.tuple ((stepsL ms).map Tp.data)), [some (.d (netD many ms))]) := by
  obtain ⟨k2, k3, k4, k5, k6, k7, k8, e⟩ := L_steps _ many ms rfl hl none none none none none none none
  simp only [d_steps_of, b_steps_of, fDef, List.length_cons, List.length_nil, Nat.reduceAdd, Nat.reduceSub, List.replicate, List.cons_append, List.nil_append, fSeq, fIfS, fTst, fTAnd, fTOr, fTNot, fBin, fUn, fIx, fVar, fC, sl, ixd0, ixd1, ixd2, ixd3, ixd4, ixl0, ixl1, ixl2, ixl3, ixl4, ixl5, ixl6, ixl7, ixn0, ixn1, ixn2, gLt, gLe, gGt, gGe, gCmp, gIs, gIsNot, gIsB, M.isNone, M.int, M.bool, fSet, fRet, fRetN, fNx, fNot, fAnd, fOr, fIf, fCp, fMv, M.dat, wipeM, backM, Option.getD_some, Option.getD_none, gAdd, gSub, gMulL, gMulR, gMod, gDiv, gp6, gp12, gp13, gp18, gNeg, fPut, fApp, fPop, fDrop, M.lst?, fAsg, fGT, fGcons, fGN, fGnil, fTup, fLst, fACons, fANil, allD, fCall, fRVal, fRSlot, fRNil, amsOf, putBack, gLen, gTuple, gInt, gMax2, gMin2, Option.bind_some, Option.bind_none, Option.bind_eq_bind, List.getElem?_cons_zero, List.getElem?_cons_succ, List.set_cons_zero, List.set_cons_succ, outM, List.map_cons, List.map_nil, szl, Int.cast_ofNat_Int, if_true, if_false, ite_true, ite_false, Bool.false_eq_true, decide_true, decide_false, Bool.not_true, Bool.not_false, Int.reduceNeg, List.length_map, reduceIte, Nat.reduceLeDiff, Nat.reduceLT, Nat.reduceMul, Int.reduceLE, Int.reduceLT, Int.reduceToNat, Int.toNat_one, Int.toNat_zero, Int.reduceAdd, Int.reduceSub, Int.reduceMul, Int.reducePow, Nat.reducePow, Int.zero_add, Nat.zero_add, Nat.lt_add_one, Int.zero_le_ofNat, Option.some.injEq, reduceCtorEq, Prod.mk.injEq, O.nx.injEq, List.cons.injEq, M.d.injEq, PyData.int.injEq, and_self, true_and, and_true, List.append_assoc, List.mem_cons, List.not_mem_nil, Nat.reduceEqDiff, Int.reduceEq, Int.reduceMod, Int.reduceDiv, Int.reduceGT, or_self, or_false]
  rw [show lstD [] = M.lst [] from rfl] at e
  simp only [e, fDef, List.length_cons, List.length_nil, Nat.reduceAdd, Nat.reduceSub, List.replicate, List.cons_append, List.nil_append, fSeq, fIfS, fTst, fTAnd, fTOr, fTNot, fBin, fUn, fIx, fVar, fC, sl, ixd0, ixd1, ixd2, ixd3, ixd4, ixl0, ixl1, ixl2, ixl3, ixl4, ixl5, ixl6, ixl7, ixn0, ixn1, ixn2, gLt, gLe, gGt, gGe, gCmp, gIs, gIsNot, gIsB, M.isNone, M.int, M.bool, fSet, fRet, fRetN, fNx, fNot, fAnd, fOr, fIf, fCp, fMv, M.dat, wipeM, backM, Option.getD_some, Option.getD_none, gAdd, gSub, gMulL, gMulR, gMod, gDiv, gp6, gp12, gp13, gp18, gNeg, fPut, fApp, fPop, fDrop, M.lst?, fAsg, fGT, fGcons, fGN, fGnil, fTup, fLst, fACons, fANil, allD, fCall, fRVal, fRSlot, fRNil, amsOf, putBack, gLen, gTuple, gInt, gMax2, gMin2, Option.bind_some, Option.bind_none, Option.bind_eq_bind, List.getElem?_cons_zero, List.getElem?_cons_succ, List.set_cons_zero, List.set_cons_succ, outM, List.map_cons, List.map_nil, szl, Int.cast_ofNat_Int, if_true, if_false, ite_true, ite_false, Bool.false_eq_true, decide_true, decide_false, Bool.not_true, Bool.not_false, Int.reduceNeg, List.length_map, reduceIte, Nat.reduceLeDiff, Nat.reduceLT, Nat.reduceMul, Int.reduceLE, Int.reduceLT, Int.reduceToNat, Int.toNat_one, Int.toNat_zero, Int.reduceAdd, Int.reduceSub, Int.reduceMul, Int.reducePow, Nat.reducePow, Int.zero_add, Nat.zero_add, Nat.lt_add_one, Int.zero_le_ofNat, Option.some.injEq, reduceCtorEq, Prod.mk.injEq, O.nx.injEq, List.cons.injEq, M.d.injEq, PyData.int.injEq, and_self, true_and, and_true, List.append_assoc, List.mem_cons, List.not_mem_nil, Nat.reduceEqDiff, Int.reduceEq, Int.reduceMod, Int.reduceDiv, Int.reduceGT, or_self, or_false, allD_map]
end DL
namespace DL
open L2 PySem.Spec PySem PyProof.Rows

/-! ### by_begins -/
def sortT (ts : List Tp) : List Tp := ts.mergeSort fun a b => PySem.W.dataLe false id a.byB b.byB
theorem sortT_map (ts : List Tp) : (sortT ts).map Tp.byB = (ts.map Tp.byB).mergeSort (PySem.W.dataLe false id) := List.map_mergeSort fun _ _ _ _ => rfl
theorem sortT_perm (ts : List Tp) : (sortT ts).Perm ts := List.mergeSort_perm _ _
theorem byB_ok (ts : List Tp) : sortOk (ts.map Tp.byB) = true := by
  unfold sortOk
  simp only [Bool.and_eq_true, List.all_eq_true, List.mem_map, Bool.or_eq_true, decide_eq_true_eq]
  refine ⟨⟨?_, .inl ?_⟩, ?_⟩
  · rintro _ ⟨t, _, rfl⟩ _ ⟨u, _, rfl⟩
    simp [Tp.byB, PySem.W.alike, PySem.W.alikeAll]
  · rintro _ ⟨t, _, rfl⟩
    rfl
  · rintro _ ⟨t, _, rfl⟩
    simp [Tp.byB, PyData.depth, PyData.depthAll]
theorem out_keep {m : M} {ms ρ : MS} {j : Nat} {as : List Nat} (h : j ∉ as) : outM as j (some m :: ms) (some m :: ρ) = some m :: outM as (j + 1) ms ρ := by
  cases m <;> simp [outM, h]
theorem C_by (m : M) (ts : List Tp) (hm : m.its = some (ts.map Tp.data)) (hl : ts.length ≤ 3000) : C_by_begins_1 [some m, none, none, none, none, none] = some (lstD (ts.map Tp.byB), [some m, none, none, none, none, none]) := by
  refine (lc_spec (enc := Tp.data) (ys := ts) (ρ1 := [some m, none, none, none, none, none]) (fun _ => true) (fun t => .d t.byB) ?_ ?_ (by simp only [szl]; omega) rfl).trans ?_
  · simp only [fIS, fDef, List.length_cons, List.length_nil, Nat.reduceAdd, Nat.reduceSub, List.replicate, List.cons_append, List.nil_append, fSeq, fIfS, fTst, fTAnd, fTOr, fTNot, fBin, fUn, fIx, fVar, fC, sl, ixd0, ixd1, ixd2, ixd3, ixd4, ixl0, ixl1, ixl2, ixl3, ixl4, ixl5, ixl6, ixl7, ixn0, ixn1, ixn2, gLt, gLe, gGt, gGe, gCmp, gIs, gIsNot, gIsB, M.isNone, M.int, M.bool, fSet, fRet, fRetN, fNx, fNot, fAnd, fOr, fIf, fCp, fMv, M.dat, wipeM, backM, Option.getD_some, Option.getD_none, gAdd, gSub, gMulL, gMulR, gMod, gDiv, gp6, gp12, gp13, gp18, gNeg, fPut, fApp, fPop, fDrop, M.lst?, fAsg, fGT, fGcons, fGN, fGnil, fTup, fLst, fACons, fANil, allD, fCall, fRVal, fRSlot, fRNil, amsOf, putBack, gLen, gTuple, gInt, gMax2, gMin2, Option.bind_some, Option.bind_none, Option.bind_eq_bind, List.getElem?_cons_zero, List.getElem?_cons_succ, List.set_cons_zero, List.set_cons_succ, outM, List.map_cons, List.map_nil, szl, Int.cast_ofNat_Int, if_true, if_false, ite_true, ite_false, Bool.false_eq_true, decide_true, decide_false, Bool.not_true, Bool.not_false, Int.reduceNeg, List.length_map, reduceIte, Nat.reduceLeDiff, Nat.reduceLT, Nat.reduceMul, Int.reduceLE, Int.reduceLT, Int.reduceToNat, Int.toNat_one, Int.toNat_zero, Int.reduceAdd, Int.reduceSub, Int.reduceMul, Int.reducePow, Nat.reducePow, Int.zero_add, Nat.zero_add, Nat.lt_add_one, Int.zero_le_ofNat, Option.some.injEq, reduceCtorEq, Prod.mk.injEq, O.nx.injEq, List.cons.injEq, M.d.injEq, PyData.int.injEq, and_self, true_and, and_true, List.append_assoc, List.mem_cons, List.not_mem_nil, Nat.reduceEqDiff, or_self, or_false, hm]
  · intro t _
    refine ⟨_, _, rfl, rfl, fun z => (by cases z), fun _ => ⟨[some m, some (.d (.int t.s)), some (.d (.int t.e)), some (.d (.int t.n)), some (.d (.int t.p)), some (.d (.int t.q))], ?_, rfl⟩⟩
    simp only [fDef, List.length_cons, List.length_nil, Nat.reduceAdd, Nat.reduceSub, List.replicate, List.cons_append, List.nil_append, fSeq, fIfS, fTst, fTAnd, fTOr, fTNot, fBin, fUn, fIx, fVar, fC, sl, ixd0, ixd1, ixd2, ixd3, ixd4, ixl0, ixl1, ixl2, ixl3, ixl4, ixl5, ixl6, ixl7, ixn0, ixn1, ixn2, gLt, gLe, gGt, gGe, gCmp, gIs, gIsNot, gIsB, M.isNone, M.int, M.bool, fSet, fRet, fRetN, fNx, fNot, fAnd, fOr, fIf, fCp, fMv, M.dat, wipeM, backM, Option.getD_some, Option.getD_none, gAdd, gSub, gMulL, gMulR, gMod, gDiv, gp6, gp12, gp13, gp18, gNeg, fPut, fApp, fPop, fDrop, M.lst?, fAsg, fGT, fGcons, fGN, fGnil, fTup, fLst, fACons, fANil, allD, fCall, fRVal, fRSlot, fRNil, amsOf, putBack, gLen, gTuple, gInt, gMax2, gMin2, Option.bind_some, Option.bind_none, Option.bind_eq_bind, List.getElem?_cons_zero, List.getElem?_cons_succ, List.set_cons_zero, List.set_cons_succ, outM, List.map_cons, List.map_nil, szl, Int.cast_ofNat_Int, if_true, if_false, ite_true, ite_false, Bool.false_eq_true, decide_true, decide_false, Bool.not_true, Bool.not_false, Int.reduceNeg, List.length_map, reduceIte, Nat.reduceLeDiff, Nat.reduceLT, Nat.reduceMul, Int.reduceLE, Int.reduceLT, Int.reduceToNat, Int.toNat_one, Int.toNat_zero, Int.reduceAdd, Int.reduceSub, Int.reduceMul, Int.reducePow, Nat.reducePow, Int.zero_add, Nat.zero_add, Nat.lt_add_one, Int.zero_le_ofNat, Option.some.injEq, reduceCtorEq, Prod.mk.injEq, O.nx.injEq, List.cons.injEq, M.d.injEq, PyData.int.injEq, and_self, true_and, and_true, List.append_assoc, List.mem_cons, List.not_mem_nil, Nat.reduceEqDiff, or_self, or_false, Tp.byB]
  · rw [filter_yes]
    simp only [lstD, List.map_map]
    rfl
theorem sp_by (m : M) (ts : List Tp) (hm : m.its = some (ts.map Tp.data)) (hl : ts.length ≤ 3000) : d_by_begins [some m] = some (lstD ((sortT ts).map Tp.byB), [some m]) := by
  have e := C_by m ts hm hl
  simp only [d_by_begins, b_by_begins, fDef, List.length_cons, List.length_nil, Nat.reduceAdd, Nat.reduceSub, List.replicate, List.cons_append, List.nil_append, fSeq, fIfS, fTst, fTAnd, fTOr, fTNot, fBin, fUn, fIx, fVar, fC, sl, ixd0, ixd1, ixd2, ixd3, ixd4, ixl0, ixl1, ixl2, ixl3, ixl4, ixl5, ixl6, ixl7, ixn0, ixn1, ixn2, gLt, gLe, gGt, gGe, gCmp, gIs, gIsNot, gIsB, M.isNone, M.int, M.bool, fSet, fRet, fRetN, fNx, fNot, fAnd, fOr, fIf, fCp, fMv, M.dat, wipeM, backM, Option.getD_some, Option.getD_none, gAdd, gSub, gMulL, gMulR, gMod, gDiv, gp6, gp12, gp13, gp18, gNeg, fPut, fApp, fPop, fDrop, M.lst?, fAsg, fGT, fGcons, fGN, fGnil, fTup, fLst, fACons, fANil, allD, fCall, fRVal, fRSlot, fRNil, amsOf, putBack, gLen, gTuple, gInt, gMax2, gMin2, Option.bind_some, Option.bind_none, Option.bind_eq_bind, List.getElem?_cons_zero, List.getElem?_cons_succ, List.set_cons_zero, List.set_cons_succ, outM, List.map_cons, List.map_nil, szl, Int.cast_ofNat_Int, if_true, if_false, ite_true, ite_false, Bool.false_eq_true, decide_true, decide_false, Bool.not_true, Bool.not_false, Int.reduceNeg, List.length_map, reduceIte, Nat.reduceLeDiff, Nat.reduceLT, Nat.reduceMul, Int.reduceLE, Int.reduceLT, Int.reduceToNat, Int.toNat_one, Int.toNat_zero, Int.reduceAdd, Int.reduceSub, Int.reduceMul, Int.reducePow, Nat.reducePow, Int.zero_add, Nat.zero_add, Nat.lt_add_one, Int.zero_le_ofNat, Option.some.injEq, reduceCtorEq, Prod.mk.injEq, O.nx.injEq, List.cons.injEq, M.d.injEq, PyData.int.injEq, and_self, true_and, and_true, List.append_assoc, List.mem_cons, List.not_mem_nil, Nat.reduceEqDiff, or_self, or_false, e, gSorted, allD_map, byB_ok, sortT_map, out_keep (List.not_mem_nil)]

/-! ### comings -/
abbrev Cm := Option (Int × Option (Int × Int))
def cmD : Cm → PyData
  | none => .none
  | some (m, none) => .tuple [.int m, .none, .none]
  | some (m, some (n, p)) => .tuple [.int m, .int n, .int p]
def getC (L : List Cm) (i : Int) : Cm := (L[i.toNat]?).getD none
theorem gIx_C {L : List Cm} {i : Int} (h0 : 0 ≤ i) (h1 : i < (L.length : Int)) : gIx (lstD (L.map cmD)) i = some (.d (cmD (getC L i))) := by
  have hi : i.toNat < L.length := by omega
  simp only [gIx, atI, ixN, List.length_map, if_pos h0, if_pos h1, Option.bind_some, getC, List.getElem?_map, List.getElem?_eq_getElem hi, Option.map_some, Option.getD_some]
def upd1 (L : List Cm) (t : Tp) : List Cm := match getC L t.p with
  | none => L
  | some (m, _) => if m ≤ t.s then (match getC L t.q with
    | none => L.set t.q.toNat (some (t.e, some (t.n, t.p)))
    | some (m2, _) => if t.e < m2 then L.set t.q.toNat (some (t.e, some (t.n, t.p))) else L) else L
theorem upd1_len (L : List Cm) (t : Tp) : (upd1 L t).length = L.length := by
  unfold upd1
  split
  · rfl
  · split
    · split
      · simp
      · split <;> simp
    · rfl
def com0 (many place moment : Int) : List Cm := (List.replicate many.toNat none).set place.toNat (some (moment, none))
def comF (ts : List Tp) (many place moment : Int) : List Cm := (sortT ts).foldl upd1 (com0 many place moment)
theorem fold_len : ∀ (ts : List Tp) (L : List Cm), (ts.foldl upd1 L).length = L.length
  | [], _ => rfl
  | t :: ts, L => by rw [List.foldl_cons, fold_len ts, upd1_len]
theorem comF_len (ts : List Tp) (many place moment : Int) : (comF ts many place moment).length = many.toNat := by
  unfold comF com0
  rw [fold_len]
  simp
def okT (many : Int) (t : Tp) : Prop := 0 ≤ t.p ∧ t.p < many ∧ 0 ≤ t.q ∧ t.q < many
theorem ix_put {i : Int} {n : Nat} (h0 : 0 ≤ i) (h1 : i < (n : Int)) : ixN n i = some i.toNat := by
  unfold ixN
  rw [if_pos h0, if_pos h1]
theorem cm_some (mp : Int) (xp : Option (Int × Int)) : ∃ y z, cmD (some (mp, xp)) = .tuple [.int mp, y, z] := by
  rcases xp with _ | ⟨n, p⟩ <;> exact ⟨_, _, rfl⟩
theorem B_com {L : List Cm} {t : Tp} (ok : okT L.length t) (m : M) (a b c j5 j6 j7 j8 j9 : Option M) : ∃ ρ1, fGT 5 (fGcons (fGN 5) (fGcons (fGN 6) (fGcons (fGN 7) (fGcons (fGN 8) (fGcons (fGN 9) (fGnil)))))) t.byB [some m, a, b, c, some (lstD (L.map cmD)), j5, j6, j7, j8, j9] = some ρ1 ∧
    B_comings_1 ρ1 = some (.nx [some m, a, b, c, some (lstD ((upd1 L t).map cmD)), some (.d (.int t.s)), some (.d (.int t.e)), some (.d (.int t.p)), some (.d (.int t.q)), some (.d (.int t.n))]) := by
  obtain ⟨h1, h2, h3, h4⟩ := ok
  refine ⟨[some m, a, b, c, some (lstD (L.map cmD)), some (.d (.int t.s)), some (.d (.int t.e)), some (.d (.int t.p)), some (.d (.int t.q)), some (.d (.int t.n))], rfl, ?_⟩
  have e1 := gIx_C h1 h2
  have e2 := gIx_C h3 h4
  have e3 := ix_put (n := L.length) h3 h4
  have st : ∀ x : Cm, ((L.map cmD).map M.d).set t.q.toNat (.d (cmD x)) = ((L.set t.q.toNat x).map cmD).map M.d := fun x => by
    rw [List.map_set, List.map_set]
  have st' := st (some (t.e, some (t.n, t.p)))
  unfold upd1
  rcases hp : getC L t.p with _ | ⟨mp, xp⟩
  · rw [hp] at e1
    simp only [B_comings_1, fDef, List.length_cons, List.length_nil, Nat.reduceAdd, Nat.reduceSub, List.replicate, List.cons_append, List.nil_append, fSeq, fIfS, fTst, fTAnd, fTOr, fTNot, fBin, fUn, fIx, fVar, fC, sl, ixd0, ixd1, ixd2, ixd3, ixd4, ixl0, ixl1, ixl2, ixl3, ixl4, ixl5, ixl6, ixl7, ixn0, ixn1, ixn2, gLt, gLe, gGt, gGe, gCmp, gIs, gIsNot, gIsB, M.isNone, M.int, M.bool, fSet, fRet, fRetN, fNx, fNot, fAnd, fOr, fIf, fCp, fMv, M.dat, wipeM, backM, Option.getD_some, Option.getD_none, gAdd, gSub, gMulL, gMulR, gMod, gDiv, gp6, gp12, gp13, gp18, gNeg, fPut, fApp, fPop, fDrop, M.lst?, fAsg, fGT, fGcons, fGN, fGnil, fTup, fLst, fACons, fANil, allD, fCall, fRVal, fRSlot, fRNil, amsOf, putBack, gLen, gTuple, gInt, gMax2, gMin2, Option.bind_some, Option.bind_none, Option.bind_eq_bind, List.getElem?_cons_zero, List.getElem?_cons_succ, List.set_cons_zero, List.set_cons_succ, outM, List.map_cons, List.map_nil, szl, Int.cast_ofNat_Int, if_true, if_false, ite_true, ite_false, Bool.false_eq_true, decide_true, decide_false, Bool.not_true, Bool.not_false, Int.reduceNeg, List.length_map, reduceIte, Nat.reduceLeDiff, Nat.reduceLT, Nat.reduceMul, Int.reduceLE, Int.reduceLT, Int.reduceToNat, Int.toNat_one, Int.toNat_zero, Int.reduceAdd, Int.reduceSub, Int.reduceMul, Int.reducePow, Nat.reducePow, Int.zero_add, Nat.zero_add, Nat.lt_add_one, Int.zero_le_ofNat, Option.some.injEq, reduceCtorEq, Prod.mk.injEq, O.nx.injEq, List.cons.injEq, M.d.injEq, PyData.int.injEq, and_self, true_and, and_true, List.append_assoc, List.mem_cons, List.not_mem_nil, Nat.reduceEqDiff, or_self, or_false, e1, cmD]
  · rw [hp] at e1
    obtain ⟨y, z, i1⟩ := cm_some mp xp
    rw [i1] at e1
    by_cases hle : mp ≤ t.s
    · rcases hq : getC L t.q with _ | ⟨mq, xq⟩
      · rw [hq] at e2
        simp only [cmD] at e2 st'
        simp only [B_comings_1, fDef, List.length_cons, List.length_nil, Nat.reduceAdd, Nat.reduceSub, List.replicate, List.cons_append, List.nil_append, fSeq, fIfS, fTst, fTAnd, fTOr, fTNot, fBin, fUn, fIx, fVar, fC, sl, ixd0, ixd1, ixd2, ixd3, ixd4, ixl0, ixl1, ixl2, ixl3, ixl4, ixl5, ixl6, ixl7, ixn0, ixn1, ixn2, gLt, gLe, gGt, gGe, gCmp, gIs, gIsNot, gIsB, M.isNone, M.int, M.bool, fSet, fRet, fRetN, fNx, fNot, fAnd, fOr, fIf, fCp, fMv, M.dat, wipeM, backM, Option.getD_some, Option.getD_none, gAdd, gSub, gMulL, gMulR, gMod, gDiv, gp6, gp12, gp13, gp18, gNeg, fPut, fApp, fPop, fDrop, M.lst?, fAsg, fGT, fGcons, fGN, fGnil, fTup, fLst, fACons, fANil, allD, fCall, fRVal, fRSlot, fRNil, amsOf, putBack, gLen, gTuple, gInt, gMax2, gMin2, Option.bind_some, Option.bind_none, Option.bind_eq_bind, List.getElem?_cons_zero, List.getElem?_cons_succ, List.set_cons_zero, List.set_cons_succ, outM, List.map_cons, List.map_nil, szl, Int.cast_ofNat_Int, if_true, if_false, ite_true, ite_false, Bool.false_eq_true, decide_true, decide_false, Bool.not_true, Bool.not_false, Int.reduceNeg, List.length_map, reduceIte, Nat.reduceLeDiff, Nat.reduceLT, Nat.reduceMul, Int.reduceLE, Int.reduceLT, Int.reduceToNat, Int.toNat_one, Int.toNat_zero, Int.reduceAdd, Int.reduceSub, Int.reduceMul, Int.reducePow, Nat.reducePow, Int.zero_add, Nat.zero_add, Nat.lt_add_one, Int.zero_le_ofNat, Option.some.injEq, reduceCtorEq, Prod.mk.injEq, O.nx.injEq, List.cons.injEq, M.d.injEq, PyData.int.injEq, and_self, true_and, and_true, List.append_assoc, List.mem_cons, List.not_mem_nil, Nat.reduceEqDiff, or_self, or_false, e1, e2, e3, hle, st']
      · rw [hq] at e2
        obtain ⟨y', z', i2⟩ := cm_some mq xq
        rw [i2] at e2
        by_cases hlt : t.e < mq
        · simp only [cmD] at st'
          simp only [B_comings_1, fDef, List.length_cons, List.length_nil, Nat.reduceAdd, Nat.reduceSub, List.replicate, List.cons_append, List.nil_append, fSeq, fIfS, fTst, fTAnd, fTOr, fTNot, fBin, fUn, fIx, fVar, fC, sl, ixd0, ixd1, ixd2, ixd3, ixd4, ixl0, ixl1, ixl2, ixl3, ixl4, ixl5, ixl6, ixl7, ixn0, ixn1, ixn2, gLt, gLe, gGt, gGe, gCmp, gIs, gIsNot, gIsB, M.isNone, M.int, M.bool, fSet, fRet, fRetN, fNx, fNot, fAnd, fOr, fIf, fCp, fMv, M.dat, wipeM, backM, Option.getD_some, Option.getD_none, gAdd, gSub, gMulL, gMulR, gMod, gDiv, gp6, gp12, gp13, gp18, gNeg, fPut, fApp, fPop, fDrop, M.lst?, fAsg, fGT, fGcons, fGN, fGnil, fTup, fLst, fACons, fANil, allD, fCall, fRVal, fRSlot, fRNil, amsOf, putBack, gLen, gTuple, gInt, gMax2, gMin2, Option.bind_some, Option.bind_none, Option.bind_eq_bind, List.getElem?_cons_zero, List.getElem?_cons_succ, List.set_cons_zero, List.set_cons_succ, outM, List.map_cons, List.map_nil, szl, Int.cast_ofNat_Int, if_true, if_false, ite_true, ite_false, Bool.false_eq_true, decide_true, decide_false, Bool.not_true, Bool.not_false, Int.reduceNeg, List.length_map, reduceIte, Nat.reduceLeDiff, Nat.reduceLT, Nat.reduceMul, Int.reduceLE, Int.reduceLT, Int.reduceToNat, Int.toNat_one, Int.toNat_zero, Int.reduceAdd, Int.reduceSub, Int.reduceMul, Int.reducePow, Nat.reducePow, Int.zero_add, Nat.zero_add, Nat.lt_add_one, Int.zero_le_ofNat, Option.some.injEq, reduceCtorEq, Prod.mk.injEq, O.nx.injEq, List.cons.injEq, M.d.injEq, PyData.int.injEq, and_self, true_and, and_true, List.append_assoc, List.mem_cons, List.not_mem_nil, Nat.reduceEqDiff, or_self, or_false, e1, e2, e3, hle, hlt, st']
        · simp only [B_comings_1, fDef, List.length_cons, List.length_nil, Nat.reduceAdd, Nat.reduceSub, List.replicate, List.cons_append, List.nil_append, fSeq, fIfS, fTst, fTAnd, fTOr, fTNot, fBin, fUn, fIx, fVar, fC, sl, ixd0, ixd1, ixd2, ixd3, ixd4, ixl0, ixl1, ixl2, ixl3, ixl4, ixl5, ixl6, ixl7, ixn0, ixn1, ixn2, gLt, gLe, gGt, gGe, gCmp, gIs, gIsNot, gIsB, M.isNone, M.int, M.bool, fSet, fRet, fRetN, fNx, fNot, fAnd, fOr, fIf, fCp, fMv, M.dat, wipeM, backM, Option.getD_some, Option.getD_none, gAdd, gSub, gMulL, gMulR, gMod, gDiv, gp6, gp12, gp13, gp18, gNeg, fPut, fApp, fPop, fDrop, M.lst?, fAsg, fGT, fGcons, fGN, fGnil, fTup, fLst, fACons, fANil, allD, fCall, fRVal, fRSlot, fRNil, amsOf, putBack, gLen, gTuple, gInt, gMax2, gMin2, Option.bind_some, Option.bind_none, Option.bind_eq_bind, List.getElem?_cons_zero, List.getElem?_cons_succ, List.set_cons_zero, List.set_cons_succ, outM, List.map_cons, List.map_nil, szl, Int.cast_ofNat_Int, if_true, if_false, ite_true, ite_false, Bool.false_eq_true, decide_true, decide_false, Bool.not_true, Bool.not_false, Int.reduceNeg, List.length_map, reduceIte, Nat.reduceLeDiff, Nat.reduceLT, Nat.reduceMul, Int.reduceLE, Int.reduceLT, Int.reduceToNat, Int.toNat_one, Int.toNat_zero, Int.reduceAdd, Int.reduceSub, Int.reduceMul, Int.reducePow, Nat.reducePow, Int.zero_add, Nat.zero_add, Nat.lt_add_one, Int.zero_le_ofNat, Option.some.injEq, reduceCtorEq, Prod.mk.injEq, O.nx.injEq, List.cons.injEq, M.d.injEq, PyData.int.injEq, and_self, true_and, and_true, List.append_assoc, List.mem_cons, List.not_mem_nil, Nat.reduceEqDiff, or_self, or_false, e1, e2, hle, hlt]
    · simp only [B_comings_1, fDef, List.length_cons, List.length_nil, Nat.reduceAdd, Nat.reduceSub, List.replicate, List.cons_append, List.nil_append, fSeq, fIfS, fTst, fTAnd, fTOr, fTNot, fBin, fUn, fIx, fVar, fC, sl, ixd0, ixd1, ixd2, ixd3, ixd4, ixl0, ixl1, ixl2, ixl3, ixl4, ixl5, ixl6, ixl7, ixn0, ixn1, ixn2, gLt, gLe, gGt, gGe, gCmp, gIs, gIsNot, gIsB, M.isNone, M.int, M.bool, fSet, fRet, fRetN, fNx, fNot, fAnd, fOr, fIf, fCp, fMv, M.dat, wipeM, backM, Option.getD_some, Option.getD_none, gAdd, gSub, gMulL, gMulR, gMod, gDiv, gp6, gp12, gp13, gp18, gNeg, fPut, fApp, fPop, fDrop, M.lst?, fAsg, fGT, fGcons, fGN, fGnil, fTup, fLst, fACons, fANil, allD, fCall, fRVal, fRSlot, fRNil, amsOf, putBack, gLen, gTuple, gInt, gMax2, gMin2, Option.bind_some, Option.bind_none, Option.bind_eq_bind, List.getElem?_cons_zero, List.getElem?_cons_succ, List.set_cons_zero, List.set_cons_succ, outM, List.map_cons, List.map_nil, szl, Int.cast_ofNat_Int, if_true, if_false, ite_true, ite_false, Bool.false_eq_true, decide_true, decide_false, Bool.not_true, Bool.not_false, Int.reduceNeg, List.length_map, reduceIte, Nat.reduceLeDiff, Nat.reduceLT, Nat.reduceMul, Int.reduceLE, Int.reduceLT, Int.reduceToNat, Int.toNat_one, Int.toNat_zero, Int.reduceAdd, Int.reduceSub, Int.reduceMul, Int.reducePow, Nat.reducePow, Int.zero_add, Nat.zero_add, Nat.lt_add_one, Int.zero_le_ofNat, Option.some.injEq, reduceCtorEq, Prod.mk.injEq, O.nx.injEq, List.cons.injEq, M.d.injEq, PyData.int.injEq, and_self, true_and, and_true, List.append_assoc, List.mem_cons, List.not_mem_nil, Nat.reduceEqDiff, or_self, or_false, e1, hle]
theorem L_com (m : M) (ts : List Tp) (hm : m.its = some (ts.map Tp.data)) (hl : ts.length ≤ 3000) (many place moment : Int) (b c : Option M) (h0 : 0 ≤ many) (hok : ∀ t ∈ ts, okT many t) :
    ∃ k5 k6 k7 k8 k9, L_comings_1 [some m, some (.d (.int many)), b, c, some (lstD ((com0 many place moment).map cmD)), none, none, none, none, none] = some (.nx [some m, some (.d (.int many)), b, c, some (lstD ((comF ts many place moment).map cmD)), k5, k6, k7, k8, k9]) := by
  have := for_inv (enc := Tp.byB) (g := fGT 5 (fGcons (fGN 5) (fGcons (fGN 6) (fGcons (fGN 7) (fGcons (fGN 8) (fGcons (fGN 9) (fGnil))))))) (f := B_comings_1)
    (fun pre ρ => ∃ k5 k6 k7 k8 k9, ρ = [some m, some (.d (.int many)), b, c, some (lstD ((pre.foldl upd1 (com0 many place moment)).map cmD)), k5, k6, k7, k8, k9]) (sortT ts) [] ?_ _ ⟨none, none, none, none, none, rfl⟩
  · obtain ⟨ρ', e, k5, k6, k7, k8, k9, rfl⟩ := this
    refine ⟨k5, k6, k7, k8, k9, for_of (ds := (sortT ts).map Tp.byB) ?_ e⟩
    simp only [fIS, fDef, List.length_cons, List.length_nil, Nat.reduceAdd, Nat.reduceSub, List.replicate, List.cons_append, List.nil_append, fSeq, fIfS, fTst, fTAnd, fTOr, fTNot, fBin, fUn, fIx, fVar, fC, sl, ixd0, ixd1, ixd2, ixd3, ixd4, ixl0, ixl1, ixl2, ixl3, ixl4, ixl5, ixl6, ixl7, ixn0, ixn1, ixn2, gLt, gLe, gGt, gGe, gCmp, gIs, gIsNot, gIsB, M.isNone, M.int, M.bool, fSet, fRet, fRetN, fNx, fNot, fAnd, fOr, fIf, fCp, fMv, M.dat, wipeM, backM, Option.getD_some, Option.getD_none, gAdd, gSub, gMulL, gMulR, gMod, gDiv, gp6, gp12, gp13, gp18, gNeg, fPut, fApp, fPop, fDrop, M.lst?, fAsg, fGT, fGcons, fGN, fGnil, fTup, fLst, fACons, fANil, allD, fCall, fRVal, fRSlot, fRNil, amsOf, putBack, gLen, gTuple, gInt, gMax2, gMin2, Option.bind_some, Option.bind_none, Option.bind_eq_bind, List.getElem?_cons_zero, List.getElem?_cons_succ, List.set_cons_zero, List.set_cons_succ, outM, List.map_cons, List.map_nil, szl, Int.cast_ofNat_Int, if_true, if_false, ite_true, ite_false, Bool.false_eq_true, decide_true, decide_false, Bool.not_true, Bool.not_false, Int.reduceNeg, List.length_map, reduceIte, Nat.reduceLeDiff, Nat.reduceLT, Nat.reduceMul, Int.reduceLE, Int.reduceLT, Int.reduceToNat, Int.toNat_one, Int.toNat_zero, Int.reduceAdd, Int.reduceSub, Int.reduceMul, Int.reducePow, Nat.reducePow, Int.zero_add, Nat.zero_add, Nat.lt_add_one, Int.zero_le_ofNat, Option.some.injEq, reduceCtorEq, Prod.mk.injEq, O.nx.injEq, List.cons.injEq, M.d.injEq, PyData.int.injEq, and_self, true_and, and_true, List.append_assoc, List.mem_cons, List.not_mem_nil, Nat.reduceEqDiff, or_self, or_false, sp_by m ts hm hl, M.its, allD_map, List.foldl_nil]
  · rintro pre t suf e ρ ⟨k5, k6, k7, k8, k9, rfl⟩
    have hl : ((pre.foldl upd1 (com0 many place moment)).length : Int) = many := by
      rw [fold_len]
      simp [com0]
      omega
    have ht : t ∈ ts := (sortT_perm ts).mem_iff.mp (by rw [show sortT ts = pre ++ t :: suf from e]; simp)
    have ok : okT ((pre.foldl upd1 (com0 many place moment)).length : Int) t := by rw [hl]; exact hok t ht
    obtain ⟨ρ1, e1, e2⟩ := B_com (j5 := k5) (j6 := k6) (j7 := k7) (j8 := k8) (j9 := k9) ok m (some (.d (.int many))) b c
    refine ⟨ρ1, _, e1, .inl e2, ?_⟩
    rw [List.foldl_append, List.foldl_cons, List.foldl_nil]
    exact ⟨_, _, _, _, _, rfl⟩
theorem sp_com (m : M) (ts : List Tp) (hm : m.its = some (ts.map Tp.data)) (hl : ts.length ≤ 3000) (many place moment : Int) (h0 : 0 ≤ place) (h1 : place < many) (h2 : many ≤ 1000) (hok : ∀ t ∈ ts, okT many t) :
    d_comings [some m, some (.d (.int many)), some (.d (.int place)), some (.d (.int moment))] = some (lstD ((comF ts many place moment).map cmD), [some m, some (.d (.int many)), some (.d (.int place)), some (.d (.int moment))]) := by
  obtain ⟨k5, k6, k7, k8, k9, e⟩ := L_com m ts hm hl many place moment (some (.d (.int place))) (some (.d (.int moment))) (by omega) hok
  have r1 : -9223372036854775808 ≤ many := by omega
  have r2 : many < 9223372036854775808 := by omega
  have r3 : 1 * many.toNat ≤ 16777216 := by omega
  have fl : (List.replicate many.toNat [PyData.none]).flatten = List.replicate many.toNat .none := by
    rw [List.flatten_replicate_singleton]
  have i1 : ixN many.toNat place = some place.toNat := ix_put h0 (by omega)
  have st : ((List.replicate many.toNat PyData.none).map M.d).set place.toNat (.d (.tuple [.int moment, .none, .none])) = ((com0 many place moment).map cmD).map M.d := by
    unfold com0
    rw [List.map_set, List.map_set]
    simp [cmD]
  simp only [lstD] at e
  simp only [d_comings, b_comings, fDef, List.length_cons, List.length_nil, Nat.reduceAdd, Nat.reduceSub, List.replicate, List.cons_append, List.nil_append, fSeq, fIfS, fTst, fTAnd, fTOr, fTNot, fBin, fUn, fIx, fVar, fC, sl, ixd0, ixd1, ixd2, ixd3, ixd4, ixl0, ixl1, ixl2, ixl3, ixl4, ixl5, ixl6, ixl7, ixn0, ixn1, ixn2, gLt, gLe, gGt, gGe, gCmp, gIs, gIsNot, gIsB, M.isNone, M.int, M.bool, fSet, fRet, fRetN, fNx, fNot, fAnd, fOr, fIf, fCp, fMv, M.dat, wipeM, backM, Option.getD_some, Option.getD_none, gAdd, gSub, gMulL, gMulR, gMod, gDiv, gp6, gp12, gp13, gp18, gNeg, fPut, fApp, fPop, fDrop, M.lst?, fAsg, fGT, fGcons, fGN, fGnil, fTup, fLst, fACons, fANil, allD, fCall, fRVal, fRSlot, fRNil, amsOf, putBack, gLen, gTuple, gInt, gMax2, gMin2, Option.bind_some, Option.bind_none, Option.bind_eq_bind, List.getElem?_cons_zero, List.getElem?_cons_succ, List.set_cons_zero, List.set_cons_succ, outM, List.map_cons, List.map_nil, szl, Int.cast_ofNat_Int, if_true, if_false, ite_true, ite_false, Bool.false_eq_true, decide_true, decide_false, Bool.not_true, Bool.not_false, Int.reduceNeg, List.length_map, reduceIte, Nat.reduceLeDiff, Nat.reduceLT, Nat.reduceMul, Int.reduceLE, Int.reduceLT, Int.reduceToNat, Int.toNat_one, Int.toNat_zero, Int.reduceAdd, Int.reduceSub, Int.reduceMul, Int.reducePow, Nat.reducePow, Int.zero_add, Nat.zero_add, Nat.lt_add_one, Int.zero_le_ofNat, Option.some.injEq, reduceCtorEq, Prod.mk.injEq, O.nx.injEq, List.cons.injEq, M.d.injEq, PyData.int.injEq, and_self, true_and, and_true, List.append_assoc, List.mem_cons, List.not_mem_nil, Nat.reduceEqDiff, or_self, or_false, gMul, allD, r1, r2, r3, fl, List.length_replicate, i1, st, e]
  cases m <;> simp [outM]
end DL
namespace DL
open L2 PySem.Spec PySem PyProof.Rows

/-! ### earliest_by, earliest -/
def moD : Option Int → PyData
  | none => .none
  | some i => .int i
def earL (ts : List Tp) (many place moment : Int) : List (Option Int) := (comF ts many place moment).map fun c => c.map (·.1)
theorem sp_mom (c : Cm) : d_moment_of [some (.d (cmD c))] = some (.d (moD (c.map (·.1))), [some (.d (cmD c))]) := by
  rcases c with _ | ⟨m, _ | ⟨n, p⟩⟩ <;> simp only [d_moment_of, b_moment_of, fDef, List.length_cons, List.length_nil, Nat.reduceAdd, Nat.reduceSub, List.replicate, List.cons_append, List.nil_append, fSeq, fIfS, fTst, fTAnd, fTOr, fTNot, fBin, fUn, fIx, fVar, fC, sl, ixd0, ixd1, ixd2, ixd3, ixd4, ixl0, ixl1, ixl2, ixl3, ixl4, ixl5, ixl6, ixl7, ixn0, ixn1, ixn2, gLt, gLe, gGt, gGe, gCmp, gIs, gIsNot, gIsB, M.isNone, M.int, M.bool, fSet, fRet, fRetN, fNx, fNot, fAnd, fOr, fIf, fCp, fMv, M.dat, wipeM, backM, Option.getD_some, Option.getD_none, gAdd, gSub, gMulL, gMulR, gMod, gDiv, gp6, gp12, gp13, gp18, gNeg, fPut, fApp, fPop, fDrop, M.lst?, fAsg, fGT, fGcons, fGN, fGnil, fTup, fLst, fACons, fANil, allD, fCall, fRVal, fRSlot, fRNil, amsOf, putBack, gLen, gTuple, gInt, gMax2, gMin2, Option.bind_some, Option.bind_none, Option.bind_eq_bind, List.getElem?_cons_zero, List.getElem?_cons_succ, List.set_cons_zero, List.set_cons_succ, outM, List.map_cons, List.map_nil, szl, Int.cast_ofNat_Int, if_true, if_false, ite_true, ite_false, Bool.false_eq_true, decide_true, decide_false, Bool.not_true, Bool.not_false, Int.reduceNeg, List.length_map, reduceIte, Nat.reduceLeDiff, Nat.reduceLT, Nat.reduceMul, Int.reduceLE, Int.reduceLT, Int.reduceToNat, Int.toNat_one, Int.toNat_zero, Int.reduceAdd, Int.reduceSub, Int.reduceMul, Int.reducePow, Nat.reducePow, Int.zero_add, Nat.zero_add, Nat.lt_add_one, Int.zero_le_ofNat, Option.some.injEq, reduceCtorEq, Prod.mk.injEq, O.nx.injEq, List.cons.injEq, M.d.injEq, PyData.int.injEq, and_self, true_and, and_true, List.append_assoc, List.mem_cons, List.not_mem_nil, Nat.reduceEqDiff, or_self, or_false, cmD, moD, Option.map_none, Option.map_some]
theorem C_ear (m : M) (ts : List Tp) (hm : m.its = some (ts.map Tp.data)) (hl : ts.length ≤ 3000) (many place moment : Int) (h0 : 0 ≤ place) (h1 : place < many) (h2 : many ≤ 1000) (hok : ∀ t ∈ ts, okT many t) :
    C_earliest_by_1 [some m, some (.d (.int many)), some (.d (.int place)), some (.d (.int moment)), none] = some (lstD ((earL ts many place moment).map moD), [some m, some (.d (.int many)), some (.d (.int place)), some (.d (.int moment)), none]) := by
  refine (lc_spec (enc := cmD) (ys := comF ts many place moment) (ρ1 := [some m, some (.d (.int many)), some (.d (.int place)), some (.d (.int moment)), none]) (fun _ => true) (fun c => .d (moD (c.map (·.1)))) ?_ ?_ ?_ rfl).trans ?_
  · simp only [fIS, fDef, List.length_cons, List.length_nil, Nat.reduceAdd, Nat.reduceSub, List.replicate, List.cons_append, List.nil_append, fSeq, fIfS, fTst, fTAnd, fTOr, fTNot, fBin, fUn, fIx, fVar, fC, sl, ixd0, ixd1, ixd2, ixd3, ixd4, ixl0, ixl1, ixl2, ixl3, ixl4, ixl5, ixl6, ixl7, ixn0, ixn1, ixn2, gLt, gLe, gGt, gGe, gCmp, gIs, gIsNot, gIsB, M.isNone, M.int, M.bool, fSet, fRet, fRetN, fNx, fNot, fAnd, fOr, fIf, fCp, fMv, M.dat, wipeM, backM, Option.getD_some, Option.getD_none, gAdd, gSub, gMulL, gMulR, gMod, gDiv, gp6, gp12, gp13, gp18, gNeg, fPut, fApp, fPop, fDrop, M.lst?, fAsg, fGT, fGcons, fGN, fGnil, fTup, fLst, fACons, fANil, allD, fCall, fRVal, fRSlot, fRNil, amsOf, putBack, gLen, gTuple, gInt, gMax2, gMin2, Option.bind_some, Option.bind_none, Option.bind_eq_bind, List.getElem?_cons_zero, List.getElem?_cons_succ, List.set_cons_zero, List.set_cons_succ, outM, List.map_cons, List.map_nil, szl, Int.cast_ofNat_Int, if_true, if_false, ite_true, ite_false, Bool.false_eq_true, decide_true, decide_false, Bool.not_true, Bool.not_false, Int.reduceNeg, List.length_map, reduceIte, Nat.reduceLeDiff, Nat.reduceLT, Nat.reduceMul, Int.reduceLE, Int.reduceLT, Int.reduceToNat, Int.toNat_one, Int.toNat_zero, Int.reduceAdd, Int.reduceSub, Int.reduceMul, Int.reducePow, Nat.reducePow, Int.zero_add, Nat.zero_add, Nat.lt_add_one, Int.zero_le_ofNat, Option.some.injEq, reduceCtorEq, Prod.mk.injEq, O.nx.injEq, List.cons.injEq, M.d.injEq, PyData.int.injEq, and_self, true_and, and_true, List.append_assoc, List.mem_cons, List.not_mem_nil, Nat.reduceEqDiff, or_self, or_false, sp_com m ts hm hl many place moment h0 h1 h2 hok, M.its, allD_map]
  · intro c _
    refine ⟨_, _, rfl, rfl, fun z => (by cases z), fun _ => ⟨[some m, some (.d (.int many)), some (.d (.int place)), some (.d (.int moment)), some (.d (cmD c))], ?_, rfl⟩⟩
    simp only [fDef, List.length_cons, List.length_nil, Nat.reduceAdd, Nat.reduceSub, List.replicate, List.cons_append, List.nil_append, fSeq, fIfS, fTst, fTAnd, fTOr, fTNot, fBin, fUn, fIx, fVar, fC, sl, ixd0, ixd1, ixd2, ixd3, ixd4, ixl0, ixl1, ixl2, ixl3, ixl4, ixl5, ixl6, ixl7, ixn0, ixn1, ixn2, gLt, gLe, gGt, gGe, gCmp, gIs, gIsNot, gIsB, M.isNone, M.int, M.bool, fSet, fRet, fRetN, fNx, fNot, fAnd, fOr, fIf, fCp, fMv, M.dat, wipeM, backM, Option.getD_some, Option.getD_none, gAdd, gSub, gMulL, gMulR, gMod, gDiv, gp6, gp12, gp13, gp18, gNeg, fPut, fApp, fPop, fDrop, M.lst?, fAsg, fGT, fGcons, fGN, fGnil, fTup, fLst, fACons, fANil, allD, fCall, fRVal, fRSlot, fRNil, amsOf, putBack, gLen, gTuple, gInt, gMax2, gMin2, Option.bind_some, Option.bind_none, Option.bind_eq_bind, List.getElem?_cons_zero, List.getElem?_cons_succ, List.set_cons_zero, List.set_cons_succ, outM, List.map_cons, List.map_nil, szl, Int.cast_ofNat_Int, if_true, if_false, ite_true, ite_false, Bool.false_eq_true, decide_true, decide_false, Bool.not_true, Bool.not_false, Int.reduceNeg, List.length_map, reduceIte, Nat.reduceLeDiff, Nat.reduceLT, Nat.reduceMul, Int.reduceLE, Int.reduceLT, Int.reduceToNat, Int.toNat_one, Int.toNat_zero, Int.reduceAdd, Int.reduceSub, Int.reduceMul, Int.reducePow, Nat.reducePow, Int.zero_add, Nat.zero_add, Nat.lt_add_one, Int.zero_le_ofNat, Option.some.injEq, reduceCtorEq, Prod.mk.injEq, O.nx.injEq, List.cons.injEq, M.d.injEq, PyData.int.injEq, and_self, true_and, and_true, List.append_assoc, List.mem_cons, List.not_mem_nil, Nat.reduceEqDiff, or_self, or_false, sp_mom]
  · rw [comF_len, szl]
    omega
  · rw [filter_yes]
    simp only [lstD, List.map_map, earL]
    rfl
theorem sp_ear (m : M) (ts : List Tp) (hm : m.its = some (ts.map Tp.data)) (hl : ts.length ≤ 3000) (many place moment : Int) (h0 : 0 ≤ place) (h1 : place < many) (h2 : many ≤ 1000) (hok : ∀ t ∈ ts, okT many t) :
    d_earliest_by [some m, some (.d (.int many)), some (.d (.int place)), some (.d (.int moment))] = some (lstD ((earL ts many place moment).map moD), [some m, some (.d (.int many)), some (.d (.int place)), some (.d (.int moment))]) := by
  have e := C_ear m ts hm hl many place moment h0 h1 h2 hok
  simp only [lstD] at e
  simp only [d_earliest_by, b_earliest_by, fDef, List.length_cons, List.length_nil, Nat.reduceAdd, Nat.reduceSub, List.replicate, List.cons_append, List.nil_append, fSeq, fIfS, fTst, fTAnd, fTOr, fTNot, fBin, fUn, fIx, fVar, fC, sl, ixd0, ixd1, ixd2, ixd3, ixd4, ixl0, ixl1, ixl2, ixl3, ixl4, ixl5, ixl6, ixl7, ixn0, ixn1, ixn2, gLt, gLe, gGt, gGe, gCmp, gIs, gIsNot, gIsB, M.isNone, M.int, M.bool, fSet, fRet, fRetN, fNx, fNot, fAnd, fOr, fIf, fCp, fMv, M.dat, wipeM, backM, Option.getD_some, Option.getD_none, gAdd, gSub, gMulL, gMulR, gMod, gDiv, gp6, gp12, gp13, gp18, gNeg, fPut, fApp, fPop, fDrop, M.lst?, fAsg, fGT, fGcons, fGN, fGnil, fTup, fLst, fACons, fANil, allD, fCall, fRVal, fRSlot, fRNil, amsOf, putBack, gLen, gTuple, gInt, gMax2, gMin2, Option.bind_some, Option.bind_none, Option.bind_eq_bind, List.getElem?_cons_zero, List.getElem?_cons_succ, List.set_cons_zero, List.set_cons_succ, outM, List.map_cons, List.map_nil, szl, Int.cast_ofNat_Int, if_true, if_false, ite_true, ite_false, Bool.false_eq_true, decide_true, decide_false, Bool.not_true, Bool.not_false, Int.reduceNeg, List.length_map, reduceIte, Nat.reduceLeDiff, Nat.reduceLT, Nat.reduceMul, Int.reduceLE, Int.reduceLT, Int.reduceToNat, Int.toNat_one, Int.toNat_zero, Int.reduceAdd, Int.reduceSub, Int.reduceMul, Int.reducePow, Nat.reducePow, Int.zero_add, Nat.zero_add, Nat.lt_add_one, Int.zero_le_ofNat, Option.some.injEq, reduceCtorEq, Prod.mk.injEq, O.nx.injEq, List.cons.injEq, M.d.injEq, PyData.int.injEq, and_self, true_and, and_true, List.append_assoc, List.mem_cons, List.not_mem_nil, Nat.reduceEqDiff, or_self, or_false, e]
  cases m <;> simp [outM]
/-- a net that is one -/
structure okN (many : Int) (ms : List Me) : Prop where
  pos : 1 ≤ many
  few : many ≤ 1000
  len : ms.length ≤ 1000
  ok : ∀ m ∈ ms, 0 ≤ m.p ∧ m.p < many ∧ 0 ≤ m.q ∧ m.q < many ∧ m.p ≠ m.q ∧ 0 ≤ m.s ∧ 1 ≤ m.l
theorem mem_enumL {α : Type} : ∀ {xs : List α} {k : Nat} {y : Nat × α}, y ∈ enumL xs k → ∃ i, y.1 = k + i ∧ xs[i]? = some y.2
  | [], _, _, h => by simp [enumL] at h
  | x :: xs, k, y, h => by
    rcases List.mem_cons.mp h with rfl | h
    · exact ⟨0, rfl, rfl⟩
    · obtain ⟨i, e1, e2⟩ := mem_enumL h
      exact ⟨i + 1, by omega, e2⟩
theorem enumL_mem {α : Type} : ∀ {xs : List α} {k i : Nat} {x : α}, xs[i]? = some x → (k + i, x) ∈ enumL xs k
  | [], _, _, _, h => by simp at h
  | y :: xs, k, 0, x, h => by
    simp at h
    subst h
    simp [enumL]
  | y :: xs, k, i + 1, x, h => by
    have := enumL_mem (k := k + 1) (xs := xs) (i := i) (x := x) (by simpa using h)
    simp only [enumL]
    rw [show k + (i + 1) = k + 1 + i from by omega]
    exact List.mem_cons_of_mem _ this
/-- what a step is of -/
theorem mem_steps {ms : List Me} {t : Tp} : t ∈ stepsL ms ↔ ∃ (i : Nat) (m : Me), ms[i]? = some m ∧ (t = ⟨(i : Int), m.p, m.q, m.s, m.s + m.l⟩ ∨ (m.b = true ∧ t = ⟨(i : Int), m.q, m.p, m.s, m.s + m.l⟩)) := by
  unfold stepsL
  rw [List.mem_flatMap]
  constructor
  · rintro ⟨⟨k, m⟩, hy, ht⟩
    obtain ⟨i, e1, e2⟩ := mem_enumL hy
    refine ⟨i, m, e2, ?_⟩
    unfold stp at ht
    simp only at ht e1
    rw [e1] at ht
    cases hb : m.b <;> simp [hb] at ht ⊢ <;> exact ht
  · rintro ⟨i, m, e, h⟩
    refine ⟨(i, m), by simpa using enumL_mem (k := 0) e, ?_⟩
    unfold stp
    rcases h with h | ⟨hb, h⟩
    · simp [h]
    · simp [hb, h]
theorem okN.okT {many : Int} {ms : List Me} (N : okN many ms) : ∀ t ∈ stepsL ms, okT many t := fun t ht => by
  obtain ⟨i, m, e, h⟩ := mem_steps.mp ht
  have ok := N.ok m (List.mem_of_getElem? e)
  rcases h with rfl | ⟨_, rfl⟩ <;> refine ⟨?_, ?_, ?_, ?_⟩ <;> simp only <;> omega
theorem okN.slen {many : Int} {ms : List Me} (N : okN many ms) : (stepsL ms).length ≤ 3000 := by
  have := stepsL_len ms
  have := N.len
  omega
theorem sp_earliest (many : Int) (ms : List Me) (N : okN many ms) (place moment : Int) (h0 : 0 ≤ place) (h1 : place < many) :
    d_earliest [some (.d (netD many ms)), some (.d (.int place)), some (.d (.int moment))] = some (.d (.tuple ((earL (stepsL ms) many place moment).map moD)), [some (.d (netD many ms)), some (.d (.int place)), some (.d (.int moment))]) := by
  have e := sp_ear (.d (.tuple ((stepsL ms).map Tp.data))) (stepsL ms) rfl N.slen many place moment h0 h1 N.few N.okT
  have e2 := sp_steps many ms N.len
  simp only [netD, lstD] at e e2
  simp only [d_earliest, b_earliest, fDef, List.length_cons, List.length_nil, Nat.reduceAdd, Nat.reduceSub, List.replicate, List.cons_append, List.nil_append, fSeq, fIfS, fTst, fTAnd, fTOr, fTNot, fBin, fUn, fIx, fVar, fC, sl, ixd0, ixd1, ixd2, ixd3, ixd4, ixl0, ixl1, ixl2, ixl3, ixl4, ixl5, ixl6, ixl7, ixn0, ixn1, ixn2, gLt, gLe, gGt, gGe, gCmp, gIs, gIsNot, gIsB, M.isNone, M.int, M.bool, fSet, fRet, fRetN, fNx, fNot, fAnd, fOr, fIf, fCp, fMv, M.dat, wipeM, backM, Option.getD_some, Option.getD_none, gAdd, gSub, gMulL, gMulR, gMod, gDiv, gp6, gp12, gp13, gp18, gNeg, fPut, fApp, fPop, fDrop, M.lst?, fAsg, fGT, fGcons, fGN, fGnil, fTup, fLst, fACons, fANil, allD, fCall, fRVal, fRSlot, fRNil, amsOf, putBack, gLen, gTuple, gInt, gMax2, gMin2, Option.bind_some, Option.bind_none, Option.bind_eq_bind, List.getElem?_cons_zero, List.getElem?_cons_succ, List.set_cons_zero, List.set_cons_succ, outM, List.map_cons, List.map_nil, szl, Int.cast_ofNat_Int, if_true, if_false, ite_true, ite_false, Bool.false_eq_true, decide_true, decide_false, Bool.not_true, Bool.not_false, Int.reduceNeg, List.length_map, reduceIte, Nat.reduceLeDiff, Nat.reduceLT, Nat.reduceMul, Int.reduceLE, Int.reduceLT, Int.reduceToNat, Int.toNat_one, Int.toNat_zero, Int.reduceAdd, Int.reduceSub, Int.reduceMul, Int.reducePow, Nat.reducePow, Int.zero_add, Nat.zero_add, Nat.lt_add_one, Int.zero_le_ofNat, Option.some.injEq, reduceCtorEq, Prod.mk.injEq, O.nx.injEq, List.cons.injEq, M.d.injEq, PyData.int.injEq, and_self, true_and, and_true, List.append_assoc, List.mem_cons, List.not_mem_nil, Nat.reduceEqDiff, or_self, or_false, e, e2, netD, allD_map]
end DL
namespace DL
open L2 PySem.Spec PySem PyProof.Rows

/-! ### early_way -/
/-- each coming is of a step, from a place that is come to by then -/
def ChainOk (ts : List Tp) (F : List Cm) (place : Int) : Prop :=
  ∀ (q : Int) (mm : Int) (x : Option (Int × Int)), 0 ≤ q → q < (F.length : Int) → getC F q = some (mm, x) → (q = place) ∨
    ∃ t ∈ ts, x = some (t.n, t.p) ∧ t.q = q ∧ t.e = mm ∧ 0 ≤ t.p ∧ t.p < (F.length : Int) ∧ t.s < t.e ∧ ∃ m' x', getC F t.p = some (m', x') ∧ m' ≤ t.s
def cntE (ts : List Tp) (m : Int) : Nat := (ts.filter fun t => decide (t.e ≤ m)).length
theorem cntE_mono {m m' : Int} (h : m ≤ m') : ∀ ts : List Tp, cntE ts m ≤ cntE ts m'
  | [] => by simp [cntE]
  | u :: ts => by
    have ih := cntE_mono h ts
    unfold cntE at ih ⊢
    simp only [List.filter_cons]
    by_cases a : u.e ≤ m
    · have b : u.e ≤ m' := by omega
      simp only [a, b, decide_true, if_true, List.length_cons]; omega
    · by_cases b : u.e ≤ m'
      · simp only [a, b, decide_true, decide_false, if_true, List.length_cons]; simp; omega
      · simp only [a, b, decide_false]; simpa using ih
theorem cntE_lt : ∀ {ts : List Tp} {t : Tp} {m' m : Int}, t ∈ ts → t.e = m → m' < m → cntE ts m' < cntE ts m
  | [], _, _, _, h, _, _ => by cases h
  | u :: ts, t, m', m, h, e, hlt => by
    have mono := cntE_mono (Int.le_of_lt hlt) ts
    have ihf : t ∈ ts → cntE ts m' < cntE ts m := fun h => cntE_lt h e hlt
    unfold cntE at mono ihf ⊢
    simp only [List.filter_cons]
    rcases List.mem_cons.mp h with rfl | h
    · have a : ¬ t.e ≤ m' := by omega
      have b : t.e ≤ m := by omega
      simp only [a, b, decide_true, decide_false, if_true, List.length_cons]
      simp
      omega
    · have := ihf h
      by_cases a : u.e ≤ m'
      · have b : u.e ≤ m := by omega
        simp only [a, b, decide_true, if_true, List.length_cons]; omega
      · by_cases b : u.e ≤ m
        · simp only [a, b, decide_true, decide_false, if_true, List.length_cons]; simp; omega
        · simp only [a, b, decide_false]; simpa using this
theorem cntE_len (ts : List Tp) (m : Int) : cntE ts m ≤ ts.length := List.length_filter_le _ _
theorem range_pick {α : Type} : ∀ l : List α, (List.range l.length).filterMap (l[·]?) = l
  | [] => rfl
  | x :: l => by
    rw [List.length_cons, List.range_succ_eq_map, List.filterMap_cons]
    simp only [List.getElem?_cons_zero, List.filterMap_map]
    have := range_pick l
    congr 1
theorem fm_congr {α β : Type} {f g : α → Option β} : ∀ l : List α, (∀ k ∈ l, f k = g k) → l.filterMap f = l.filterMap g
  | [], _ => rfl
  | x :: l, h => by
    rw [List.filterMap_cons, List.filterMap_cons, h x (by simp), fm_congr l fun k hk => h k (by simp [hk])]
theorem pick_rev {α : Type} (xs : List α) : pick xs none none (some (-1)) = xs.reverse := by
  unfold pick
  have e : sliceBounds none none (some (-1)) xs.length = ((xs.length : Int) - 1, -1, -1) := by simp [sliceBounds]
  rw [e]
  simp only
  rw [PySem.W.krv_sliceRange, List.filterMap_map]
  have h := range_pick xs.reverse
  rw [List.length_reverse] at h
  rw [← h]
  have hh : ∀ k ∈ List.range xs.length, ((xs[·]?) ∘ fun k => xs.length - 1 - k) k = xs.reverse[k]? := fun k hk => by
    rw [List.getElem?_reverse (by simpa using hk)]
    rfl
  exact fm_congr _ hh
theorem W_ew {ts : List Tp} {F : List Cm} {place other : Int} (CO : ChainOk ts F place) (hl : ts.length ≤ 3000) (h0 : 0 ≤ other) (h1 : other < (F.length : Int)) (hne : other ≠ place) {mm : Int} {x : Option (Int × Int)} (hx : getC F other = some (mm, x)) (net : M) (c d : Option M) :
    ∃ (nums : List Int) (h : Option M) (n p : Int), x = some (n, p) ∧ nums.head? = some n ∧ nums.length ≤ 3000 ∧ W_early_way_1 [some net, some (.d (.int place)), c, d, some (lstD (F.map cmD)), some (lstD []), some (.d (.int other))] = some (.nx [some net, some (.d (.int place)), c, d, some (lstD (F.map cmD)), some (lstD (nums.map .int)), h]) := by
  have := whl_inv (t := T_early_way_1) (f := B_early_way_1)
    (fun k ρ => ∃ (here : Int) (nums : List Int) (mh : Int) (xh : Option (Int × Int)), 0 ≤ here ∧ here < (F.length : Int) ∧ getC F here = some (mh, xh) ∧ cntE ts mh = k ∧ nums.length + k ≤ 3000 ∧ ((nums = [] ∧ here = other) ∨ ∃ n p, x = some (n, p) ∧ nums.head? = some n) ∧
      ρ = [some net, some (.d (.int place)), c, d, some (lstD (F.map cmD)), some (lstD (nums.map .int)), some (.d (.int here))])
    (fun ρ => ∃ (nums : List Int) (h : Option M) (n p : Int), x = some (n, p) ∧ nums.head? = some n ∧ nums.length ≤ 3000 ∧ ρ = [some net, some (.d (.int place)), c, d, some (lstD (F.map cmD)), some (lstD (nums.map .int)), h]) ?_ 4000 (cntE ts mm)
    [some net, some (.d (.int place)), c, d, some (lstD (F.map cmD)), some (lstD []), some (.d (.int other))] (by have := cntE_len ts mm; omega) ⟨other, [], mm, x, h0, h1, hx, rfl, by have := cntE_len ts mm; simp only [List.length_nil]; omega, .inl ⟨rfl, rfl⟩, rfl⟩
  · obtain ⟨ρ', e, nums, h, n, p, a1, a2, a3, rfl⟩ := this
    exact ⟨nums, h, n, p, a1, a2, a3, e⟩
  · rintro k ρ ⟨here, nums, mh, xh, g0, g1, gh, gk, gl, gd, rfl⟩
    refine ⟨!decide (here = place), [some net, some (.d (.int place)), c, d, some (lstD (F.map cmD)), some (lstD (nums.map .int)), some (.d (.int here))], by simp only [T_early_way_1, fDef, List.length_cons, List.length_nil, Nat.reduceAdd, Nat.reduceSub, List.replicate, List.cons_append, List.nil_append, fSeq, fIfS, fTst, fTAnd, fTOr, fTNot, fBin, fUn, fIx, fVar, fC, sl, ixd0, ixd1, ixd2, ixd3, ixd4, ixl0, ixl1, ixl2, ixl3, ixl4, ixl5, ixl6, ixl7, ixn0, ixn1, ixn2, gLt, gLe, gGt, gGe, gCmp, gIs, gIsNot, gIsB, M.isNone, M.int, M.bool, fSet, fRet, fRetN, fNx, fNot, fAnd, fOr, fIf, fCp, fMv, M.dat, wipeM, backM, Option.getD_some, Option.getD_none, gAdd, gSub, gMulL, gMulR, gMod, gDiv, gp6, gp12, gp13, gp18, gNeg, fPut, fApp, fPop, fDrop, M.lst?, fAsg, fGT, fGcons, fGN, fGnil, fTup, fLst, fACons, fANil, allD, fCall, fRVal, fRSlot, fRNil, amsOf, putBack, gLen, gTuple, gInt, gMax2, gMin2, Option.bind_some, Option.bind_none, Option.bind_eq_bind, List.getElem?_cons_zero, List.getElem?_cons_succ, List.set_cons_zero, List.set_cons_succ, outM, List.map_cons, List.map_nil, szl, Int.cast_ofNat_Int, if_true, if_false, ite_true, ite_false, Bool.false_eq_true, decide_true, decide_false, Bool.not_true, Bool.not_false, Int.reduceNeg, List.length_map, reduceIte, Nat.reduceLeDiff, Nat.reduceLT, Nat.reduceMul, Int.reduceLE, Int.reduceLT, Int.reduceToNat, Int.toNat_one, Int.toNat_zero, Int.reduceAdd, Int.reduceSub, Int.reduceMul, Int.reducePow, Nat.reducePow, Int.zero_add, Nat.zero_add, Nat.lt_add_one, Int.zero_le_ofNat, Option.some.injEq, reduceCtorEq, Prod.mk.injEq, O.nx.injEq, List.cons.injEq, M.d.injEq, PyData.int.injEq, and_self, true_and, and_true, List.append_assoc, List.mem_cons, List.not_mem_nil, Nat.reduceEqDiff, or_self, or_false, gNe_int], fun z => ?_, fun z => ?_⟩
    · have z : here = place := by simpa using z
      rcases gd with ⟨_, rfl⟩ | ⟨n, p, a1, a2⟩
      · exact absurd z hne
      · exact ⟨nums, _, n, p, a1, a2, by omega, rfl⟩
    · have z : here ≠ place := by simpa using z
      rcases CO here mh xh g0 g1 gh with z' | ⟨t, ht, e1, e2, e3, e4, e5, e6, m', x', e7, e8⟩
      · exact absurd z' z
      subst e1
      have i1 := gIx_C g0 g1
      rw [gh] at i1
      simp only [cmD] at i1
      have hlt := cntE_lt (m' := m') ht e3 (by omega)
      have hz : (nums.map PyData.int).length < 16777216 := by rw [List.length_map]; omega
      refine ⟨[some net, some (.d (.int place)), c, d, some (lstD (F.map cmD)), some (lstD ((nums ++ [t.n]).map .int)), some (.d (.int t.p))], cntE ts m', ?_, by omega, t.p, nums ++ [t.n], m', x', e4, e5, e7, rfl, ?_, .inr ?_, rfl⟩
      · simp only [B_early_way_1, fDef, List.length_cons, List.length_nil, Nat.reduceAdd, Nat.reduceSub, List.replicate, List.cons_append, List.nil_append, fSeq, fIfS, fTst, fTAnd, fTOr, fTNot, fBin, fUn, fIx, fVar, fC, sl, ixd0, ixd1, ixd2, ixd3, ixd4, ixl0, ixl1, ixl2, ixl3, ixl4, ixl5, ixl6, ixl7, ixn0, ixn1, ixn2, gLt, gLe, gGt, gGe, gCmp, gIs, gIsNot, gIsB, M.isNone, M.int, M.bool, fSet, fRet, fRetN, fNx, fNot, fAnd, fOr, fIf, fCp, fMv, M.dat, wipeM, backM, Option.getD_some, Option.getD_none, gAdd, gSub, gMulL, gMulR, gMod, gDiv, gp6, gp12, gp13, gp18, gNeg, fPut, fApp, fPop, fDrop, M.lst?, fAsg, fGT, fGcons, fGN, fGnil, fTup, fLst, fACons, fANil, allD, fCall, fRVal, fRSlot, fRNil, amsOf, putBack, gLen, gTuple, gInt, gMax2, gMin2, Option.bind_some, Option.bind_none, Option.bind_eq_bind, List.getElem?_cons_zero, List.getElem?_cons_succ, List.set_cons_zero, List.set_cons_succ, outM, List.map_cons, List.map_nil, szl, Int.cast_ofNat_Int, if_true, if_false, ite_true, ite_false, Bool.false_eq_true, decide_true, decide_false, Bool.not_true, Bool.not_false, Int.reduceNeg, List.length_map, reduceIte, Nat.reduceLeDiff, Nat.reduceLT, Nat.reduceMul, Int.reduceLE, Int.reduceLT, Int.reduceToNat, Int.toNat_one, Int.toNat_zero, Int.reduceAdd, Int.reduceSub, Int.reduceMul, Int.reducePow, Nat.reducePow, Int.zero_add, Nat.zero_add, Nat.lt_add_one, Int.zero_le_ofNat, Option.some.injEq, reduceCtorEq, Prod.mk.injEq, O.nx.injEq, List.cons.injEq, M.d.injEq, PyData.int.injEq, and_self, true_and, and_true, List.append_assoc, List.mem_cons, List.not_mem_nil, Nat.reduceEqDiff, or_self, or_false, i1]
        have hz2 : nums.length < 16777216 := by omega
        simp only [fDef, List.length_cons, List.length_nil, Nat.reduceAdd, Nat.reduceSub, List.replicate, List.cons_append, List.nil_append, fSeq, fIfS, fTst, fTAnd, fTOr, fTNot, fBin, fUn, fIx, fVar, fC, sl, ixd0, ixd1, ixd2, ixd3, ixd4, ixl0, ixl1, ixl2, ixl3, ixl4, ixl5, ixl6, ixl7, ixn0, ixn1, ixn2, gLt, gLe, gGt, gGe, gCmp, gIs, gIsNot, gIsB, M.isNone, M.int, M.bool, fSet, fRet, fRetN, fNx, fNot, fAnd, fOr, fIf, fCp, fMv, M.dat, wipeM, backM, Option.getD_some, Option.getD_none, gAdd, gSub, gMulL, gMulR, gMod, gDiv, gp6, gp12, gp13, gp18, gNeg, fPut, fApp, fPop, fDrop, M.lst?, fAsg, fGT, fGcons, fGN, fGnil, fTup, fLst, fACons, fANil, allD, fCall, fRVal, fRSlot, fRNil, amsOf, putBack, gLen, gTuple, gInt, gMax2, gMin2, Option.bind_some, Option.bind_none, Option.bind_eq_bind, List.getElem?_cons_zero, List.getElem?_cons_succ, List.set_cons_zero, List.set_cons_succ, outM, List.map_cons, List.map_nil, szl, Int.cast_ofNat_Int, if_true, if_false, ite_true, ite_false, Bool.false_eq_true, decide_true, decide_false, Bool.not_true, Bool.not_false, Int.reduceNeg, List.length_map, reduceIte, Nat.reduceLeDiff, Nat.reduceLT, Nat.reduceMul, Int.reduceLE, Int.reduceLT, Int.reduceToNat, Int.toNat_one, Int.toNat_zero, Int.reduceAdd, Int.reduceSub, Int.reduceMul, Int.reducePow, Nat.reducePow, Int.zero_add, Nat.zero_add, Nat.lt_add_one, Int.zero_le_ofNat, Option.some.injEq, reduceCtorEq, Prod.mk.injEq, O.nx.injEq, List.cons.injEq, M.d.injEq, PyData.int.injEq, and_self, true_and, and_true, List.append_assoc, List.mem_cons, List.not_mem_nil, Nat.reduceEqDiff, or_self, or_false, hz2, i1]
        simp
      · simp only [List.length_append, List.length_cons, List.length_nil]
        omega
      · rcases gd with ⟨rfl, rfl⟩ | ⟨n, p, a1, a2⟩
        · rw [gh] at hx
          cases hx
          exact ⟨_, _, rfl, rfl⟩
        · refine ⟨n, p, a1, ?_⟩
          cases nums with
          | nil => simp at a2
          | cons y r => simpa using a2
/-- early_way -/
theorem sp_ew (many : Int) (ms : List Me) (N : okN many ms) (place moment other : Int) (h0 : 0 ≤ place) (h1 : place < many) (g0 : 0 ≤ other) (g1 : other < many) (hne : other ≠ place) (CO : ChainOk (stepsL ms) (comF (stepsL ms) many place moment) place) :
    ∃ w : Option (List Int), d_early_way [some (.d (netD many ms)), some (.d (.int place)), some (.d (.int moment)), some (.d (.int other))] = some (.d (match w with | none => .none | some l => .tuple (l.map .int)), [some (.d (netD many ms)), some (.d (.int place)), some (.d (.int moment)), some (.d (.int other))]) ∧
      match getC (comF (stepsL ms) many place moment) other with
      | none => w = none
      | some (_, x) => ∃ l n p, w = some l ∧ x = some (n, p) ∧ l.getLast? = some n ∧ l.length ≤ 3000 := by
  have hF : ((comF (stepsL ms) many place moment).length : Int) = many := by rw [comF_len]; omega
  have e := sp_com (.d (.tuple ((stepsL ms).map Tp.data))) (stepsL ms) rfl N.slen many place moment h0 h1 N.few N.okT
  have e2 := sp_steps many ms N.len
  have i1 := gIx_C (L := comF (stepsL ms) many place moment) g0 (by omega)
  simp only [netD, lstD] at e e2 i1
  rcases hc : getC (comF (stepsL ms) many place moment) other with _ | ⟨mm, x⟩
  · rw [hc] at i1
    refine ⟨none, ?_, rfl⟩
    simp only [d_early_way, b_early_way, fDef, List.length_cons, List.length_nil, Nat.reduceAdd, Nat.reduceSub, List.replicate, List.cons_append, List.nil_append, fSeq, fIfS, fTst, fTAnd, fTOr, fTNot, fBin, fUn, fIx, fVar, fC, sl, ixd0, ixd1, ixd2, ixd3, ixd4, ixl0, ixl1, ixl2, ixl3, ixl4, ixl5, ixl6, ixl7, ixn0, ixn1, ixn2, gLt, gLe, gGt, gGe, gCmp, gIs, gIsNot, gIsB, M.isNone, M.int, M.bool, fSet, fRet, fRetN, fNx, fNot, fAnd, fOr, fIf, fCp, fMv, M.dat, wipeM, backM, Option.getD_some, Option.getD_none, gAdd, gSub, gMulL, gMulR, gMod, gDiv, gp6, gp12, gp13, gp18, gNeg, fPut, fApp, fPop, fDrop, M.lst?, fAsg, fGT, fGcons, fGN, fGnil, fTup, fLst, fACons, fANil, allD, fCall, fRVal, fRSlot, fRNil, amsOf, putBack, gLen, gTuple, gInt, gMax2, gMin2, Option.bind_some, Option.bind_none, Option.bind_eq_bind, List.getElem?_cons_zero, List.getElem?_cons_succ, List.set_cons_zero, List.set_cons_succ, outM, List.map_cons, List.map_nil, szl, Int.cast_ofNat_Int, if_true, if_false, ite_true, ite_false, Bool.false_eq_true, decide_true, decide_false, Bool.not_true, Bool.not_false, Int.reduceNeg, List.length_map, reduceIte, Nat.reduceLeDiff, Nat.reduceLT, Nat.reduceMul, Int.reduceLE, Int.reduceLT, Int.reduceToNat, Int.toNat_one, Int.toNat_zero, Int.reduceAdd, Int.reduceSub, Int.reduceMul, Int.reducePow, Nat.reducePow, Int.zero_add, Nat.zero_add, Nat.lt_add_one, Int.zero_le_ofNat, Option.some.injEq, reduceCtorEq, Prod.mk.injEq, O.nx.injEq, List.cons.injEq, M.d.injEq, PyData.int.injEq, and_self, true_and, and_true, List.append_assoc, List.mem_cons, List.not_mem_nil, Nat.reduceEqDiff, or_self, or_false, e, e2, netD, i1, cmD]
  · obtain ⟨nums, h, n, p, a1, a2, a3, eW⟩ := W_ew CO N.slen g0 (by omega) hne hc (.d (netD many ms)) (some (.d (.int moment))) (some (.d (.int other)))
    rw [hc] at i1
    obtain ⟨y, z, i2⟩ := cm_some mm x
    rw [i2] at i1
    simp only [lstD, netD, List.map_nil] at eW
    refine ⟨some nums.reverse, ?_, nums.reverse, n, p, rfl, a1, by rw [List.getLast?_reverse]; exact a2, by rw [List.length_reverse]; exact a3⟩
    have hr : (nums.map PyData.int).reverse = nums.reverse.map .int := by rw [List.map_reverse]
    simp only [d_early_way, b_early_way, fDef, List.length_cons, List.length_nil, Nat.reduceAdd, Nat.reduceSub, List.replicate, List.cons_append, List.nil_append, fSeq, fIfS, fTst, fTAnd, fTOr, fTNot, fBin, fUn, fIx, fVar, fC, sl, ixd0, ixd1, ixd2, ixd3, ixd4, ixl0, ixl1, ixl2, ixl3, ixl4, ixl5, ixl6, ixl7, ixn0, ixn1, ixn2, gLt, gLe, gGt, gGe, gCmp, gIs, gIsNot, gIsB, M.isNone, M.int, M.bool, fSet, fRet, fRetN, fNx, fNot, fAnd, fOr, fIf, fCp, fMv, M.dat, wipeM, backM, Option.getD_some, Option.getD_none, gAdd, gSub, gMulL, gMulR, gMod, gDiv, gp6, gp12, gp13, gp18, gNeg, fPut, fApp, fPop, fDrop, M.lst?, fAsg, fGT, fGcons, fGN, fGnil, fTup, fLst, fACons, fANil, allD, fCall, fRVal, fRSlot, fRNil, amsOf, putBack, gLen, gTuple, gInt, gMax2, gMin2, Option.bind_some, Option.bind_none, Option.bind_eq_bind, List.getElem?_cons_zero, List.getElem?_cons_succ, List.set_cons_zero, List.set_cons_succ, outM, List.map_cons, List.map_nil, szl, Int.cast_ofNat_Int, if_true, if_false, ite_true, ite_false, Bool.false_eq_true, decide_true, decide_false, Bool.not_true, Bool.not_false, Int.reduceNeg, List.length_map, reduceIte, Nat.reduceLeDiff, Nat.reduceLT, Nat.reduceMul, Int.reduceLE, Int.reduceLT, Int.reduceToNat, Int.toNat_one, Int.toNat_zero, Int.reduceAdd, Int.reduceSub, Int.reduceMul, Int.reducePow, Nat.reducePow, Int.zero_add, Nat.zero_add, Nat.lt_add_one, Int.zero_le_ofNat, Option.some.injEq, reduceCtorEq, Prod.mk.injEq, O.nx.injEq, List.cons.injEq, M.d.injEq, PyData.int.injEq, and_self, true_and, and_true, List.append_assoc, List.mem_cons, List.not_mem_nil, Nat.reduceEqDiff, or_self, or_false, e, e2, netD, i1, eW, fPick, fNo, fSo, gPick, allD_map, pick_rev, hr]

/-! ### comes_at -/
theorem ix_last {l : List Int} {n : Int} (h : l.getLast? = some n) : gIx (.d (.tuple (l.map .int))) (-1) = some (.d (.int n)) := by
  have hl : l ≠ [] := fun z => by rw [z] at h; simp at h
  have hp : 0 < l.length := List.length_pos_iff.mpr hl
  have e : (l.map PyData.int)[l.length - 1]? = some (.int n) := by
    rw [List.getElem?_map, ← List.getLast?_eq_getElem?, h]
    rfl
  have i : ixN l.length (-1) = some (l.length - 1) := by
    unfold ixN
    rw [if_neg (by omega), if_pos (by omega)]
    congr 1
    omega
  simp only [gIx, atI, List.length_map, i, Option.bind_some, e]
theorem ix_at {ds : List PyData} {i : Nat} {d : PyData} (h : ds[i]? = some d) : gIx (.d (.tuple ds)) (i : Int) = some (.d d) := by
  simp only [gIx, atI_nat, h, Option.bind_some]
theorem okE_ints (l : List Int) : okE (.tuple (l.map .int)) := by
  have h1 : ∀ l : List Int, nbAll (l.map .int) = true := fun l => by
    induction l with
    | nil => rfl
    | cons n l ih => simp [nbAll, nb, ih]
  have h2 : ∀ l : List Int, PyData.canLayAll0 (l.map .int) = true := fun l => by
    induction l with
    | nil => rfl
    | cons n l ih => simp [PyData.canLayAll0, PyData.canLay0, ih]
  have h3 := depth_ints l
  refine ⟨by simpa [nb] using h1 l, ?_⟩
  unfold SeqAt.shaped
  rw [Bool.and_eq_true]
  refine ⟨by simpa [PyData.canLay0] using h2 l, ?_⟩
  rw [decide_eq_true_iff]
  simp only [PyData.depth]
  omega
theorem sp_comes (many : Int) (ms : List Me) (moment : Int) {l : List Int} {i : Nat} {m : Me} (h : l.getLast? = some (i : Int)) (hm : ms[i]? = some m) :
    d_comes_at [some (.d (netD many ms)), some (.d (.int moment)), some (.d (.tuple (l.map .int)))] = some (.d (.int (m.s + m.l)), [some (.d (netD many ms)), some (.d (.int moment)), some (.d (.tuple (l.map .int)))]) := by
  have hl : ¬ (PyData.tuple (l.map .int) = .tuple []) := fun z => by
    have : l = [] := by simpa using z
    rw [this] at h
    simp at h
  letI : Decidable (PyData.tuple (l.map .int) = .tuple []) := isFalse hl
  have q : gEq (.d (.tuple (l.map .int))) (.d (.tuple [])) = some (.d (.bool false)) := by
    rw [gEq_ok rfl rfl (okE_ints l) (show okE (.tuple []) from okE_ints [])]
    simp [hl]
  have i1 := ix_last h
  have i2 : gIx (.d (.tuple (ms.map Me.data))) (i : Int) = some (.d m.data) := ix_at (by rw [List.getElem?_map, hm]; rfl)
  simp only [d_comes_at, b_comes_at, fDef, List.length_cons, List.length_nil, Nat.reduceAdd, Nat.reduceSub, List.replicate, List.cons_append, List.nil_append, fSeq, fIfS, fTst, fTAnd, fTOr, fTNot, fBin, fUn, fIx, fVar, fC, sl, ixd0, ixd1, ixd2, ixd3, ixd4, ixl0, ixl1, ixl2, ixl3, ixl4, ixl5, ixl6, ixl7, ixn0, ixn1, ixn2, gLt, gLe, gGt, gGe, gCmp, gIs, gIsNot, gIsB, M.isNone, M.int, M.bool, fSet, fRet, fRetN, fNx, fNot, fAnd, fOr, fIf, fCp, fMv, M.dat, wipeM, backM, Option.getD_some, Option.getD_none, gAdd, gSub, gMulL, gMulR, gMod, gDiv, gp6, gp12, gp13, gp18, gNeg, fPut, fApp, fPop, fDrop, M.lst?, fAsg, fGT, fGcons, fGN, fGnil, fTup, fLst, fACons, fANil, allD, fCall, fRVal, fRSlot, fRNil, amsOf, putBack, gLen, gTuple, gInt, gMax2, gMin2, Option.bind_some, Option.bind_none, Option.bind_eq_bind, List.getElem?_cons_zero, List.getElem?_cons_succ, List.set_cons_zero, List.set_cons_succ, outM, List.map_cons, List.map_nil, szl, Int.cast_ofNat_Int, if_true, if_false, ite_true, ite_false, Bool.false_eq_true, decide_true, decide_false, Bool.not_true, Bool.not_false, Int.reduceNeg, List.length_map, reduceIte, Nat.reduceLeDiff, Nat.reduceLT, Nat.reduceMul, Int.reduceLE, Int.reduceLT, Int.reduceToNat, Int.toNat_one, Int.toNat_zero, Int.reduceAdd, Int.reduceSub, Int.reduceMul, Int.reducePow, Nat.reducePow, Int.zero_add, Nat.zero_add, Nat.lt_add_one, Int.zero_le_ofNat, Option.some.injEq, reduceCtorEq, Prod.mk.injEq, O.nx.injEq, List.cons.injEq, M.d.injEq, PyData.int.injEq, and_self, true_and, and_true, List.append_assoc, List.mem_cons, List.not_mem_nil, Nat.reduceEqDiff, or_self, or_false, netD, q, i1, i2]
  simp only [fDef, List.length_cons, List.length_nil, Nat.reduceAdd, Nat.reduceSub, List.replicate, List.cons_append, List.nil_append, fSeq, fIfS, fTst, fTAnd, fTOr, fTNot, fBin, fUn, fIx, fVar, fC, sl, ixd0, ixd1, ixd2, ixd3, ixd4, ixl0, ixl1, ixl2, ixl3, ixl4, ixl5, ixl6, ixl7, ixn0, ixn1, ixn2, gLt, gLe, gGt, gGe, gCmp, gIs, gIsNot, gIsB, M.isNone, M.int, M.bool, fSet, fRet, fRetN, fNx, fNot, fAnd, fOr, fIf, fCp, fMv, M.dat, wipeM, backM, Option.getD_some, Option.getD_none, gAdd, gSub, gMulL, gMulR, gMod, gDiv, gp6, gp12, gp13, gp18, gNeg, fPut, fApp, fPop, fDrop, M.lst?, fAsg, fGT, fGcons, fGN, fGnil, fTup, fLst, fACons, fANil, allD, fCall, fRVal, fRSlot, fRNil, amsOf, putBack, gLen, gTuple, gInt, gMax2, gMin2, Option.bind_some, Option.bind_none, Option.bind_eq_bind, List.getElem?_cons_zero, List.getElem?_cons_succ, List.set_cons_zero, List.set_cons_succ, outM, List.map_cons, List.map_nil, szl, Int.cast_ofNat_Int, if_true, if_false, ite_true, ite_false, Bool.false_eq_true, decide_true, decide_false, Bool.not_true, Bool.not_false, Int.reduceNeg, List.length_map, reduceIte, Nat.reduceLeDiff, Nat.reduceLT, Nat.reduceMul, Int.reduceLE, Int.reduceLT, Int.reduceToNat, Int.toNat_one, Int.toNat_zero, Int.reduceAdd, Int.reduceSub, Int.reduceMul, Int.reducePow, Nat.reducePow, Int.zero_add, Nat.zero_add, Nat.lt_add_one, Int.zero_le_ofNat, Option.some.injEq, reduceCtorEq, Prod.mk.injEq, O.nx.injEq, List.cons.injEq, M.d.injEq, PyData.int.injEq, and_self, true_and, and_true, List.append_assoc, List.mem_cons, List.not_mem_nil, Nat.reduceEqDiff, or_self, or_false, q, i1, i2, Me.data]
end DL
namespace DL
open L2 PySem.Spec PySem PyProof.Rows

/-! ### ways -/
inductive Way (S : Tp → Prop) : Int → Int → Int → Int → Prop
  | nil (p t : Int) : Way S p t p t
  | snoc {p t q t' : Int} {u : Tp} : Way S p t q t' → S u → u.p = q → t' ≤ u.s → Way S p t u.q u.e
theorem Way.mono {S T : Tp → Prop} (h : ∀ u, S u → T u) {p t q t' : Int} (w : Way S p t q t') : Way T p t q t' := by
  induction w with
  | nil => exact .nil _ _
  | snoc _ s e l ih => exact .snoc ih (h _ s) e l
theorem Way.rise {S : Tp → Prop} (hS : ∀ u, S u → u.s < u.e) {p t q t' : Int} (w : Way S p t q t') : t ≤ t' := by
  induction w with
  | nil => exact Int.le_refl _
  | snoc _ s _ l ih =>
    have := hS _ s
    omega
theorem Way.trans {S : Tp → Prop} {p t q t' t'' r z : Int} (w : Way S p t q t') (h : t' ≤ t'') (v : Way S q t'' r z) : ∃ z', z' ≤ z ∧ Way S p t r z' := by
  induction v with
  | nil => exact ⟨t', h, w⟩
  | snoc _ s e l ih =>
    obtain ⟨z', hz, w'⟩ := ih
    exact ⟨_, Int.le_refl _, .snoc w' s e (by omega)⟩
/-- the last begin -/
theorem Way.last {pre : List Tp} {u : Tp} (hb : ∀ t ∈ pre, t.s ≤ u.s) (hu : u.s < u.e) {p t q t' : Int} (w : Way (· ∈ pre ++ [u]) p t q t') : Way (· ∈ pre) p t q t' ∨ ∃ t0, Way (· ∈ pre) p t u.p t0 ∧ t0 ≤ u.s ∧ q = u.q ∧ t' = u.e := by
  induction w with
  | nil => exact .inl (.nil _ _)
  | @snoc q t1 v _ s e l ih =>
    have hv : v ∈ pre ∨ v = u := by simpa using s
    rcases ih with ih | ⟨t0, _, _, rfl, rfl⟩
    · rcases hv with hv | rfl
      · exact .inl (.snoc ih hv e l)
      · exact .inr ⟨_, by rw [e]; exact ih, l, rfl, rfl⟩
    · rcases hv with hv | rfl
      · have := hb v hv
        omega
      · omega
theorem getC_set {L : List Cm} {i j : Int} {v : Cm} (h0 : 0 ≤ i) (h1 : i < (L.length : Int)) (g0 : 0 ≤ j) : getC (L.set i.toNat v) j = if j = i then v else getC L j := by
  unfold getC
  by_cases h : j = i
  · subst h
    rw [if_pos rfl, List.getElem?_set_self (by omega)]
    rfl
  · rw [if_neg h, List.getElem?_set_ne (by omega)]
/-- what stands behind a turn -/
theorem upd1_at {L : List Cm} {u : Tp} (ok : okT L.length u) {q : Int} (g0 : 0 ≤ q) : getC (upd1 L u) q = getC L q ∨
    (q = u.q ∧ getC (upd1 L u) q = some (u.e, some (u.n, u.p)) ∧ (∃ m x, getC L u.p = some (m, x) ∧ m ≤ u.s) ∧ ∀ m x, getC L q = some (m, x) → u.e < m) := by
  obtain ⟨h1, h2, h3, h4⟩ := ok
  unfold upd1
  rcases hp : getC L u.p with _ | ⟨m, x⟩
  · exact .inl rfl
  · simp only
    by_cases hle : m ≤ u.s
    · rw [if_pos hle]
      rcases hq : getC L u.q with _ | ⟨mq, xq⟩
      · simp only
        rw [getC_set h3 h4 g0]
        by_cases e : q = u.q
        · rw [if_pos e]
          exact .inr ⟨e, rfl, ⟨m, x, rfl, hle⟩, fun m' x' z => by rw [e, hq] at z; cases z⟩
        · rw [if_neg e]
          exact .inl rfl
      · simp only
        by_cases hlt : u.e < mq
        · rw [if_pos hlt, getC_set h3 h4 g0]
          by_cases e : q = u.q
          · rw [if_pos e]
            refine .inr ⟨e, rfl, ⟨m, x, rfl, hle⟩, fun m' x' z => ?_⟩
            rw [e, hq] at z
            cases z
            exact hlt
          · rw [if_neg e]
            exact .inl rfl
        · rw [if_neg hlt]
          exact .inl rfl
    · rw [if_neg hle]
      exact .inl rfl
theorem upd1_yes {L : List Cm} {u : Tp} (ok : okT L.length u) {m : Int} {x : Option (Int × Int)} (hp : getC L u.p = some (m, x)) (hm : m ≤ u.s) : ∃ m' x', getC (upd1 L u) u.q = some (m', x') ∧ m' ≤ u.e := by
  obtain ⟨h1, h2, h3, h4⟩ := ok
  unfold upd1
  rw [hp]
  simp only
  rw [if_pos hm]
  rcases hq : getC L u.q with _ | ⟨mq, xq⟩
  · simp only
    rw [getC_set h3 h4 h3, if_pos rfl]
    exact ⟨_, _, rfl, Int.le_refl _⟩
  · simp only
    by_cases hlt : u.e < mq
    · rw [if_pos hlt, getC_set h3 h4 h3, if_pos rfl]
      exact ⟨_, _, rfl, Int.le_refl _⟩
    · rw [if_neg hlt, hq]
      exact ⟨_, _, rfl, by omega⟩
structure ComI (pre : List Tp) (F : List Cm) (many place moment : Int) : Prop where
  len : (F.length : Int) = many
  snd : ∀ q m x, 0 ≤ q → getC F q = some (m, x) → Way (· ∈ pre) place moment q m
  cpl : ∀ q t, 0 ≤ q → Way (· ∈ pre) place moment q t → ∃ m x, getC F q = some (m, x) ∧ m ≤ t
  chn : ∀ q m x, 0 ≤ q → q < many → getC F q = some (m, x) → q = place ∨ ∃ t ∈ pre, x = some (t.n, t.p) ∧ t.q = q ∧ t.e = m ∧ 0 ≤ t.p ∧ t.p < many ∧ t.s < t.e ∧ ∃ m' x', getC F t.p = some (m', x') ∧ m' ≤ t.s
theorem way_nil {p t q t' : Int} (w : Way (· ∈ ([] : List Tp)) p t q t') : q = p ∧ t' = t := by
  cases w with
  | nil => exact ⟨rfl, rfl⟩
  | snoc _ s _ _ => cases s
theorem com_inv {many place moment : Int} (h0 : 0 ≤ place) (h1 : place < many) : ∀ (us pre : List Tp) (F : List Cm), (∀ t ∈ pre ++ us, okT many t ∧ t.s < t.e) → (pre ++ us).Pairwise (fun a b => a.s ≤ b.s) → ComI pre F many place moment → ComI (pre ++ us) (us.foldl upd1 F) many place moment
  | [], pre, F, _, _, I => by simpa using I
  | u :: us, pre, F, hok, hs, I => by
    have hu := hok u (by simp)
    have okF : okT F.length u := by rw [I.len]; exact hu.1
    have hb : ∀ t ∈ pre, t.s ≤ u.s := fun t ht => (List.pairwise_append.mp hs).2.2 t ht u (by simp)
    have mono : ∀ q m x, 0 ≤ q → getC F q = some (m, x) → ∃ m' x', getC (upd1 F u) q = some (m', x') ∧ m' ≤ m := fun q m x hq e => by
      rcases upd1_at okF hq with z | ⟨_, z, _, lt⟩
      · exact ⟨m, x, by rw [z, e], Int.le_refl _⟩
      · exact ⟨_, _, z, Int.le_of_lt (lt m x e)⟩
    have J : ComI (pre ++ [u]) (upd1 F u) many place moment := by
      refine ⟨by rw [upd1_len]; exact I.len, fun q m x hq e => ?_, fun q t hq w => ?_, fun q m x hq hq2 e => ?_⟩
      · rcases upd1_at okF hq with z | ⟨rfl, z, ⟨m0, x0, e0, l0⟩, _⟩
        · exact (I.snd q m x hq (by rw [← z, e])).mono fun v hv => by simp [hv]
        · rw [z] at e
          cases e
          have w := (I.snd u.p m0 x0 hu.1.1 e0).mono (T := (· ∈ pre ++ [u])) fun v hv => by simp [hv]
          exact .snoc w (by simp) rfl l0
      · rcases w.last hb hu.2 with w2 | ⟨t0, w2, hl, rfl, rfl⟩
        · obtain ⟨m, x, e, hm⟩ := I.cpl q t hq w2
          obtain ⟨m', x', e', hm'⟩ := mono q m x hq e
          exact ⟨m', x', e', by omega⟩
        · obtain ⟨m, x, e, hm⟩ := I.cpl u.p t0 hu.1.1 w2
          exact upd1_yes okF e (by omega)
      · rcases upd1_at okF hq with z | ⟨rfl, z, ⟨m0, x0, e0, l0⟩, _⟩
        · rcases I.chn q m x hq hq2 (by rw [← z, e]) with y | ⟨t, ht, a1, a2, a3, a4, a5, a6, m', x', a7, a8⟩
          · exact .inl y
          · obtain ⟨m2, x2, b1, b2⟩ := mono t.p m' x' a4 a7
            exact .inr ⟨t, by simp [ht], a1, a2, a3, a4, a5, a6, m2, x2, b1, by omega⟩
        · rw [z] at e
          cases e
          obtain ⟨m2, x2, b1, b2⟩ := mono u.p m0 x0 hu.1.1 e0
          exact .inr ⟨u, by simp, rfl, rfl, rfl, hu.1.1, hu.1.2.1, hu.2, m2, x2, b1, by omega⟩
    have := com_inv h0 h1 us (pre ++ [u]) (upd1 F u) (by simpa using hok) (by simpa using hs) J
    simpa using this
theorem getC_rep {n : Nat} {q : Int} : getC (List.replicate n none) q = none := by
  unfold getC
  rw [List.getElem?_replicate]
  split <;> rfl
theorem sortT_s (ts : List Tp) : (sortT ts).Pairwise fun a b => a.s ≤ b.s := by
  have := List.pairwise_mergeSort (le := fun a b : Tp => PySem.W.dataLe false id a.byB b.byB) (fun a b c => dataLe_tot.1 _ _ _) (fun a b => dataLe_tot.2 _ _) ts
  refine this.imp fun {a b} h => ?_
  rw [PySem.W.dataLe_eq] at h
  simp only [cond_false, Bool.not_eq_true', id] at h
  unfold Tp.byB at h
  rw [PySem.W.dataLt_tuple, PySem.W.dataLt_cons (by simp [PySem.W.alike])] at h
  split at h
  · rename_i e
    have : b.s = a.s := by simpa [PyData.eqv] using e
    omega
  · rw [PySem.W.dataLt_int] at h
    simpa using h
theorem com_ok {ts : List Tp} {many place moment : Int} (h0 : 0 ≤ place) (h1 : place < many) (hok : ∀ t ∈ ts, okT many t ∧ t.s < t.e) : ComI (sortT ts) (comF ts many place moment) many place moment := by
  have J : ComI [] (com0 many place moment) many place moment := by
    have hl : ((List.replicate many.toNat (none : Cm)).length : Int) = many := by simp; omega
    refine ⟨by simp [com0]; omega, fun q m x hq e => ?_, fun q t hq w => ?_, fun q m x hq hq2 e => ?_⟩
    · unfold com0 at e
      rw [getC_set h0 (by omega) hq, getC_rep] at e
      split at e
      · rename_i z
        cases e
        rw [z]
        exact .nil _ _
      · cases e
    · obtain ⟨rfl, rfl⟩ := way_nil w
      refine ⟨t, none, ?_, Int.le_refl _⟩
      unfold com0
      rw [getC_set h0 (by omega) hq, if_pos rfl]
    · unfold com0 at e
      rw [getC_set h0 (by omega) hq, getC_rep] at e
      split at e
      · exact .inl (by assumption)
      · cases e
  have := com_inv h0 h1 (sortT ts) [] _ (fun t ht => hok t ((sortT_perm ts).mem_iff.mp (by simpa using ht))) (by simpa using sortT_s ts) J
  unfold comF
  simpa using this
theorem com_chain {ts : List Tp} {many place moment : Int} (h0 : 0 ≤ place) (h1 : place < many) (hok : ∀ t ∈ ts, okT many t ∧ t.s < t.e) : ChainOk ts (comF ts many place moment) place := by
  have I := com_ok (moment := moment) h0 h1 hok
  intro q m x hq hq2 e
  rw [I.len] at hq2 ⊢
  rcases I.chn q m x hq hq2 e with y | ⟨t, ht, r⟩
  · exact .inl y
  · exact .inr ⟨t, (sortT_perm ts).mem_iff.mp ht, r⟩
/-- t is done by ts -/
def Dn (ts : List Tp) (t : Tp) : Prop := ∃ z, z ≤ t.e ∧ Way (· ∈ ts) t.p t.s t.q z
theorem com_dn {ts : List Tp} {many : Int} {t : Tp} (ok : okT many t) (hok : ∀ t ∈ ts, okT many t ∧ t.s < t.e) : Dn ts t ↔ ∃ m x, getC (comF ts many t.p t.s) t.q = some (m, x) ∧ m ≤ t.e := by
  have I := com_ok (moment := t.s) ok.1 ok.2.1 hok
  constructor
  · rintro ⟨z, hz, w⟩
    obtain ⟨m, x, e, hm⟩ := I.cpl t.q z ok.2.2.1 (w.mono fun v hv => (sortT_perm ts).mem_iff.mpr hv)
    exact ⟨m, x, e, by omega⟩
  · rintro ⟨m, x, e, hm⟩
    exact ⟨m, hm, (I.snd t.q m x ok.2.2.1 e).mono fun v hv => (sortT_perm ts).mem_iff.mp hv⟩
end DL
namespace DL
open L2 PySem.Spec PySem PyProof.Rows

theorem okN.okS {many : Int} {ms : List Me} (N : okN many ms) : ∀ t ∈ stepsL ms, DL.okT many t ∧ t.s < t.e := fun t ht => by
  refine ⟨N.okT t ht, ?_⟩
  obtain ⟨i, m, e, h⟩ := mem_steps.mp ht
  have ok := N.ok m (List.mem_of_getElem? e)
  rcases h with rfl | ⟨_, rfl⟩ <;> simp only <;> omega
theorem okN.ne {many : Int} {ms : List Me} (N : okN many ms) : ∀ t ∈ stepsL ms, t.p ≠ t.q := fun t ht => by
  obtain ⟨i, m, e, h⟩ := mem_steps.mp ht
  have ok := N.ok m (List.mem_of_getElem? e)
  rcases h with rfl | ⟨_, rfl⟩ <;> simp only <;> omega

/-! ### way_for -/
def wayD : Option (List Int) → PyData
  | none => .none
  | some l => .tuple (l.map .int)
theorem sp_wf {many : Int} {ms : List Me} (N : okN many ms) {t : Tp} (ok : okT many t) (hne : t.p ≠ t.q) :
    ∃ w : Option (List Int), d_way_for [some (.d (netD many ms)), some (.d t.data)] = some (.d (wayD w), [some (.d (netD many ms)), some (.d t.data)]) ∧ (w = none ↔ ¬ Dn (stepsL ms) t) := by
  have CO := com_chain (moment := t.s) ok.1 ok.2.1 N.okS
  have hF : ((comF (stepsL ms) many t.p t.s).length : Int) = many := by rw [comF_len]; have := N.pos; omega
  obtain ⟨w, e, h⟩ := sp_ew many ms N t.p t.s t.q ok.1 ok.2.1 ok.2.2.1 ok.2.2.2 (Ne.symm hne) CO
  have dn := com_dn (t := t) ok N.okS
  rcases hc : getC (comF (stepsL ms) many t.p t.s) t.q with _ | ⟨mm, x⟩
  · rw [hc] at h
    simp only at h
    subst h
    refine ⟨none, ?_, ?_⟩
    · simp only [d_way_for, b_way_for, fDef, List.length_cons, List.length_nil, Nat.reduceAdd, Nat.reduceSub, List.replicate, List.cons_append, List.nil_append, fSeq, fIfS, fTst, fTAnd, fTOr, fTNot, fBin, fUn, fIx, fVar, fC, sl, ixd0, ixd1, ixd2, ixd3, ixd4, ixl0, ixl1, ixl2, ixl3, ixl4, ixl5, ixl6, ixl7, ixn0, ixn1, ixn2, gLt, gLe, gGt, gGe, gCmp, gIs, gIsNot, gIsB, M.isNone, M.int, M.bool, fSet, fRet, fRetN, fNx, fNot, fAnd, fOr, fIf, fCp, fMv, M.dat, wipeM, backM, Option.getD_some, Option.getD_none, gAdd, gSub, gMulL, gMulR, gMod, gDiv, gp6, gp12, gp13, gp18, gNeg, fPut, fApp, fPop, fDrop, M.lst?, fAsg, fGT, fGcons, fGN, fGnil, fTup, fLst, fACons, fANil, allD, fCall, fRVal, fRSlot, fRNil, amsOf, putBack, gLen, gTuple, gInt, gMax2, gMin2, Option.bind_some, Option.bind_none, Option.bind_eq_bind, List.getElem?_cons_zero, List.getElem?_cons_succ, List.set_cons_zero, List.set_cons_succ, outM, List.map_cons, List.map_nil, szl, Int.cast_ofNat_Int, if_true, if_false, ite_true, ite_false, Bool.false_eq_true, decide_true, decide_false, Bool.not_true, Bool.not_false, Int.reduceNeg, List.length_map, reduceIte, Nat.reduceLeDiff, Nat.reduceLT, Nat.reduceMul, Int.reduceLE, Int.reduceLT, Int.reduceToNat, Int.toNat_one, Int.toNat_zero, Int.reduceAdd, Int.reduceSub, Int.reduceMul, Int.reducePow, Nat.reducePow, Int.zero_add, Nat.zero_add, Nat.lt_add_one, Int.zero_le_ofNat, Option.some.injEq, reduceCtorEq, Prod.mk.injEq, O.nx.injEq, List.cons.injEq, M.d.injEq, PyData.int.injEq, and_self, true_and, and_true, List.append_assoc, List.mem_cons, List.not_mem_nil, Nat.reduceEqDiff, or_self, or_false, Tp.data, e, wayD]
    · simp only [true_iff, dn, hc]
      rintro ⟨m, x, z, _⟩
      cases z
  · rw [hc] at h
    obtain ⟨l, n, p, rfl, rfl, hl, hlen⟩ := h
    rcases CO t.q mm _ ok.2.2.1 (by rw [hF]; exact ok.2.2.2) hc with z | ⟨u, hu, a1, a2, a3, _⟩
    · exact absurd z.symm hne
    · obtain ⟨i, m, em, hm⟩ := mem_steps.mp hu
      have hn : n = (i : Int) ∧ m.s + m.l = mm := by
        simp only [Option.some.injEq, Prod.mk.injEq] at a1
        rcases hm with rfl | ⟨_, rfl⟩ <;> exact ⟨a1.1, a3⟩
      obtain ⟨rfl, rfl⟩ := hn
      have ec := sp_comes many ms t.s hl em
      simp only at e
      by_cases hle : m.s + m.l ≤ t.e
      · refine ⟨some l, ?_, ?_⟩
        · have hn : ¬ t.e < m.s + m.l := by omega
          simp only [d_way_for, b_way_for, fDef, List.length_cons, List.length_nil, Nat.reduceAdd, Nat.reduceSub, List.replicate, List.cons_append, List.nil_append, fSeq, fIfS, fTst, fTAnd, fTOr, fTNot, fBin, fUn, fIx, fVar, fC, sl, ixd0, ixd1, ixd2, ixd3, ixd4, ixl0, ixl1, ixl2, ixl3, ixl4, ixl5, ixl6, ixl7, ixn0, ixn1, ixn2, gLt, gLe, gGt, gGe, gCmp, gIs, gIsNot, gIsB, M.isNone, M.int, M.bool, fSet, fRet, fRetN, fNx, fNot, fAnd, fOr, fIf, fCp, fMv, M.dat, wipeM, backM, Option.getD_some, Option.getD_none, gAdd, gSub, gMulL, gMulR, gMod, gDiv, gp6, gp12, gp13, gp18, gNeg, fPut, fApp, fPop, fDrop, M.lst?, fAsg, fGT, fGcons, fGN, fGnil, fTup, fLst, fACons, fANil, allD, fCall, fRVal, fRSlot, fRNil, amsOf, putBack, gLen, gTuple, gInt, gMax2, gMin2, Option.bind_some, Option.bind_none, Option.bind_eq_bind, List.getElem?_cons_zero, List.getElem?_cons_succ, List.set_cons_zero, List.set_cons_succ, outM, List.map_cons, List.map_nil, szl, Int.cast_ofNat_Int, if_true, if_false, ite_true, ite_false, Bool.false_eq_true, decide_true, decide_false, Bool.not_true, Bool.not_false, Int.reduceNeg, List.length_map, reduceIte, Nat.reduceLeDiff, Nat.reduceLT, Nat.reduceMul, Int.reduceLE, Int.reduceLT, Int.reduceToNat, Int.toNat_one, Int.toNat_zero, Int.reduceAdd, Int.reduceSub, Int.reduceMul, Int.reducePow, Nat.reducePow, Int.zero_add, Nat.zero_add, Nat.lt_add_one, Int.zero_le_ofNat, Option.some.injEq, reduceCtorEq, Prod.mk.injEq, O.nx.injEq, List.cons.injEq, M.d.injEq, PyData.int.injEq, and_self, true_and, and_true, List.append_assoc, List.mem_cons, List.not_mem_nil, Nat.reduceEqDiff, or_self, or_false, Tp.data, e, wayD, ec, hn]
        · simp only [reduceCtorEq, false_iff, Classical.not_not, dn, hc]
          exact ⟨_, _, rfl, hle⟩
      · refine ⟨none, ?_, ?_⟩
        · have hn : t.e < m.s + m.l := by omega
          simp only [d_way_for, b_way_for, fDef, List.length_cons, List.length_nil, Nat.reduceAdd, Nat.reduceSub, List.replicate, List.cons_append, List.nil_append, fSeq, fIfS, fTst, fTAnd, fTOr, fTNot, fBin, fUn, fIx, fVar, fC, sl, ixd0, ixd1, ixd2, ixd3, ixd4, ixl0, ixl1, ixl2, ixl3, ixl4, ixl5, ixl6, ixl7, ixn0, ixn1, ixn2, gLt, gLe, gGt, gGe, gCmp, gIs, gIsNot, gIsB, M.isNone, M.int, M.bool, fSet, fRet, fRetN, fNx, fNot, fAnd, fOr, fIf, fCp, fMv, M.dat, wipeM, backM, Option.getD_some, Option.getD_none, gAdd, gSub, gMulL, gMulR, gMod, gDiv, gp6, gp12, gp13, gp18, gNeg, fPut, fApp, fPop, fDrop, M.lst?, fAsg, fGT, fGcons, fGN, fGnil, fTup, fLst, fACons, fANil, allD, fCall, fRVal, fRSlot, fRNil, amsOf, putBack, gLen, gTuple, gInt, gMax2, gMin2, Option.bind_some, Option.bind_none, Option.bind_eq_bind, List.getElem?_cons_zero, List.getElem?_cons_succ, List.set_cons_zero, List.set_cons_succ, outM, List.map_cons, List.map_nil, szl, Int.cast_ofNat_Int, if_true, if_false, ite_true, ite_false, Bool.false_eq_true, decide_true, decide_false, Bool.not_true, Bool.not_false, Int.reduceNeg, List.length_map, reduceIte, Nat.reduceLeDiff, Nat.reduceLT, Nat.reduceMul, Int.reduceLE, Int.reduceLT, Int.reduceToNat, Int.toNat_one, Int.toNat_zero, Int.reduceAdd, Int.reduceSub, Int.reduceMul, Int.reducePow, Nat.reducePow, Int.zero_add, Nat.zero_add, Nat.lt_add_one, Int.zero_le_ofNat, Option.some.injEq, reduceCtorEq, Prod.mk.injEq, O.nx.injEq, List.cons.injEq, M.d.injEq, PyData.int.injEq, and_self, true_and, and_true, List.append_assoc, List.mem_cons, List.not_mem_nil, Nat.reduceEqDiff, or_self, or_false, Tp.data, e, wayD, ec, hn]
        · simp only [true_iff, dn, hc]
          rintro ⟨m', x', z, hz⟩
          cases z
          omega
theorem okE_way (w : Option (List Int)) : okE (wayD w) := by
  cases w with
  | none => exact ⟨rfl, rfl⟩
  | some l => exact okE_ints l
theorem okE_all {ds : List PyData} (h : ∀ d ∈ ds, nb d = true ∧ d.canLay0 = true ∧ d.depth ≤ 60) : okE (.list ds) ∧ okE (.tuple ds) := by
  have h1 : nbAll ds = true ∧ PyData.canLayAll0 ds = true ∧ PyData.depthAll ds ≤ 60 := by
    induction ds with
    | nil => exact ⟨rfl, rfl, by simp [PyData.depthAll]⟩
    | cons d ds ih =>
      obtain ⟨a, b, c⟩ := ih fun x hx => h x (by simp [hx])
      obtain ⟨a', b', c'⟩ := h d (by simp)
      refine ⟨by simp [nbAll, a, a'], by simp [PyData.canLayAll0, b, b'], ?_⟩
      simp only [PyData.depthAll]
      omega
  obtain ⟨a, b, c⟩ := h1
  have hd : ∀ d : PyData, (d = .list ds ∨ d = .tuple ds) → okE d := fun d hd => by
    rcases hd with rfl | rfl <;> refine ⟨by simpa [nb] using a, ?_⟩ <;> unfold SeqAt.shaped <;> rw [Bool.and_eq_true] <;> refine ⟨by simpa [PyData.canLay0] using b, ?_⟩ <;> rw [decide_eq_true_iff] <;> simp only [PyData.depth] <;> omega
  exact ⟨hd _ (.inl rfl), hd _ (.inr rfl)⟩
theorem way_flat (w : Option (List Int)) : nb (wayD w) = true ∧ (wayD w).canLay0 = true ∧ (wayD w).depth ≤ 60 := by
  cases w with
  | none => exact ⟨rfl, rfl, by simp [wayD, PyData.depth]⟩
  | some l =>
    have := okE_ints l
    refine ⟨this.1, SeqAt.canLay_of_shaped this.2, ?_⟩
    have := depth_ints l
    simp only [wayD, PyData.depth]
    omega
/-! ### ways_for -/
theorem sp_wsf {many : Int} {ms : List Me} (N : okN many ms) {ts : List Tp} (ok : ∀ t ∈ ts, okT many t ∧ t.p ≠ t.q) (hl : ts.length ≤ 3000) :
    ∃ wf : Tp → Option (List Int), d_ways_for [some (.d (netD many ms)), some (.d (.tuple (ts.map Tp.data)))] = some (.bt (ts.map fun t => wayD (wf t)), [some (.d (netD many ms)), some (.d (.tuple (ts.map Tp.data)))]) ∧ ∀ t ∈ ts, (wf t = none ↔ ¬ Dn (stepsL ms) t) := by
  have h : ∀ t : Tp, ∃ w : Option (List Int), t ∈ ts → d_way_for [some (.d (netD many ms)), some (.d t.data)] = some (.d (wayD w), [some (.d (netD many ms)), some (.d t.data)]) ∧ (w = none ↔ ¬ Dn (stepsL ms) t) := fun t => by
    by_cases ht : t ∈ ts
    · obtain ⟨w, h⟩ := sp_wf N (ok t ht).1 (ok t ht).2
      exact ⟨w, fun _ => h⟩
    · exact ⟨none, fun z => absurd z ht⟩
  obtain ⟨wf, h⟩ := Classical.axiomOfChoice h
  refine ⟨wf, ?_, fun t ht => (h t ht).2⟩
  have e : C_ways_for_1 [some (.d (netD many ms)), some (.d (.tuple (ts.map Tp.data))), none] = some (.lst (ts.map fun t => .d (wayD (wf t))), [some (.d (netD many ms)), some (.d (.tuple (ts.map Tp.data))), none]) := by
    refine (lc_spec (enc := Tp.data) (ys := ts) (ρ1 := [some (.d (netD many ms)), some (.d (.tuple (ts.map Tp.data))), none]) (fun _ => true) (fun t => .d (wayD (wf t))) ?_ ?_ (by simp only [szl]; omega) rfl).trans ?_
    · simp only [fIS, fDef, List.length_cons, List.length_nil, Nat.reduceAdd, Nat.reduceSub, List.replicate, List.cons_append, List.nil_append, fSeq, fIfS, fTst, fTAnd, fTOr, fTNot, fBin, fUn, fIx, fVar, fC, sl, ixd0, ixd1, ixd2, ixd3, ixd4, ixl0, ixl1, ixl2, ixl3, ixl4, ixl5, ixl6, ixl7, ixn0, ixn1, ixn2, gLt, gLe, gGt, gGe, gCmp, gIs, gIsNot, gIsB, M.isNone, M.int, M.bool, fSet, fRet, fRetN, fNx, fNot, fAnd, fOr, fIf, fCp, fMv, M.dat, wipeM, backM, Option.getD_some, Option.getD_none, gAdd, gSub, gMulL, gMulR, gMod, gDiv, gp6, gp12, gp13, gp18, gNeg, fPut, fApp, fPop, fDrop, M.lst?, fAsg, fGT, fGcons, fGN, fGnil, fTup, fLst, fACons, fANil, allD, fCall, fRVal, fRSlot, fRNil, amsOf, putBack, gLen, gTuple, gInt, gMax2, gMin2, Option.bind_some, Option.bind_none, Option.bind_eq_bind, List.getElem?_cons_zero, List.getElem?_cons_succ, List.set_cons_zero, List.set_cons_succ, outM, List.map_cons, List.map_nil, szl, Int.cast_ofNat_Int, if_true, if_false, ite_true, ite_false, Bool.false_eq_true, decide_true, decide_false, Bool.not_true, Bool.not_false, Int.reduceNeg, List.length_map, reduceIte, Nat.reduceLeDiff, Nat.reduceLT, Nat.reduceMul, Int.reduceLE, Int.reduceLT, Int.reduceToNat, Int.toNat_one, Int.toNat_zero, Int.reduceAdd, Int.reduceSub, Int.reduceMul, Int.reducePow, Nat.reducePow, Int.zero_add, Nat.zero_add, Nat.lt_add_one, Int.zero_le_ofNat, Option.some.injEq, reduceCtorEq, Prod.mk.injEq, O.nx.injEq, List.cons.injEq, M.d.injEq, PyData.int.injEq, and_self, true_and, and_true, List.append_assoc, List.mem_cons, List.not_mem_nil, Nat.reduceEqDiff, or_self, or_false, M.its]
    · intro t ht
      refine ⟨_, _, rfl, rfl, fun z => (by cases z), fun _ => ⟨[some (.d (netD many ms)), some (.d (.tuple (ts.map Tp.data))), some (.d t.data)], ?_, rfl⟩⟩
      simp only [fDef, List.length_cons, List.length_nil, Nat.reduceAdd, Nat.reduceSub, List.replicate, List.cons_append, List.nil_append, fSeq, fIfS, fTst, fTAnd, fTOr, fTNot, fBin, fUn, fIx, fVar, fC, sl, ixd0, ixd1, ixd2, ixd3, ixd4, ixl0, ixl1, ixl2, ixl3, ixl4, ixl5, ixl6, ixl7, ixn0, ixn1, ixn2, gLt, gLe, gGt, gGe, gCmp, gIs, gIsNot, gIsB, M.isNone, M.int, M.bool, fSet, fRet, fRetN, fNx, fNot, fAnd, fOr, fIf, fCp, fMv, M.dat, wipeM, backM, Option.getD_some, Option.getD_none, gAdd, gSub, gMulL, gMulR, gMod, gDiv, gp6, gp12, gp13, gp18, gNeg, fPut, fApp, fPop, fDrop, M.lst?, fAsg, fGT, fGcons, fGN, fGnil, fTup, fLst, fACons, fANil, allD, fCall, fRVal, fRSlot, fRNil, amsOf, putBack, gLen, gTuple, gInt, gMax2, gMin2, Option.bind_some, Option.bind_none, Option.bind_eq_bind, List.getElem?_cons_zero, List.getElem?_cons_succ, List.set_cons_zero, List.set_cons_succ, outM, List.map_cons, List.map_nil, szl, Int.cast_ofNat_Int, if_true, if_false, ite_true, ite_false, Bool.false_eq_true, decide_true, decide_false, Bool.not_true, Bool.not_false, Int.reduceNeg, List.length_map, reduceIte, Nat.reduceLeDiff, Nat.reduceLT, Nat.reduceMul, Int.reduceLE, Int.reduceLT, Int.reduceToNat, Int.toNat_one, Int.toNat_zero, Int.reduceAdd, Int.reduceSub, Int.reduceMul, Int.reducePow, Nat.reducePow, Int.zero_add, Nat.zero_add, Nat.lt_add_one, Int.zero_le_ofNat, Option.some.injEq, reduceCtorEq, Prod.mk.injEq, O.nx.injEq, List.cons.injEq, M.d.injEq, PyData.int.injEq, and_self, true_and, and_true, List.append_assoc, List.mem_cons, List.not_mem_nil, Nat.reduceEqDiff, or_self, or_false, (h t ht).1]
    · rw [filter_yes]
  have ea : (ts.map fun t => M.d (wayD (wf t))) = (ts.map fun t => wayD (wf t)).map M.d := by rw [List.map_map]; rfl
  rw [ea] at e
  simp only [d_ways_for, b_ways_for, fDef, List.length_cons, List.length_nil, Nat.reduceAdd, Nat.reduceSub, List.replicate, List.cons_append, List.nil_append, fSeq, fIfS, fTst, fTAnd, fTOr, fTNot, fBin, fUn, fIx, fVar, fC, sl, ixd0, ixd1, ixd2, ixd3, ixd4, ixl0, ixl1, ixl2, ixl3, ixl4, ixl5, ixl6, ixl7, ixn0, ixn1, ixn2, gLt, gLe, gGt, gGe, gCmp, gIs, gIsNot, gIsB, M.isNone, M.int, M.bool, fSet, fRet, fRetN, fNx, fNot, fAnd, fOr, fIf, fCp, fMv, M.dat, wipeM, backM, Option.getD_some, Option.getD_none, gAdd, gSub, gMulL, gMulR, gMod, gDiv, gp6, gp12, gp13, gp18, gNeg, fPut, fApp, fPop, fDrop, M.lst?, fAsg, fGT, fGcons, fGN, fGnil, fTup, fLst, fACons, fANil, allD, fCall, fRVal, fRSlot, fRNil, amsOf, putBack, gLen, gTuple, gInt, gMax2, gMin2, Option.bind_some, Option.bind_none, Option.bind_eq_bind, List.getElem?_cons_zero, List.getElem?_cons_succ, List.set_cons_zero, List.set_cons_succ, outM, List.map_cons, List.map_nil, szl, Int.cast_ofNat_Int, if_true, if_false, ite_true, ite_false, Bool.false_eq_true, decide_true, decide_false, Bool.not_true, Bool.not_false, Int.reduceNeg, List.length_map, reduceIte, Nat.reduceLeDiff, Nat.reduceLT, Nat.reduceMul, Int.reduceLE, Int.reduceLT, Int.reduceToNat, Int.toNat_one, Int.toNat_zero, Int.reduceAdd, Int.reduceSub, Int.reduceMul, Int.reducePow, Nat.reducePow, Int.zero_add, Nat.zero_add, Nat.lt_add_one, Int.zero_le_ofNat, Option.some.injEq, reduceCtorEq, Prod.mk.injEq, O.nx.injEq, List.cons.injEq, M.d.injEq, PyData.int.injEq, and_self, true_and, and_true, List.append_assoc, List.mem_cons, List.not_mem_nil, Nat.reduceEqDiff, or_self, or_false, e, gTupleB, allD_map]
/-! ### look_at_fit -/
theorem sp_fit (many : Int) (as bs : List Me) : d_look_at_fit [some (.d (netD many as)), some (.d (netD many bs))] = some (.d .none, [some (.d (netD many as)), some (.d (netD many bs))]) := by
  simp only [d_look_at_fit, b_look_at_fit, fDef, List.length_cons, List.length_nil, Nat.reduceAdd, Nat.reduceSub, List.replicate, List.cons_append, List.nil_append, fSeq, fIfS, fTst, fTAnd, fTOr, fTNot, fBin, fUn, fIx, fVar, fC, sl, ixd0, ixd1, ixd2, ixd3, ixd4, ixl0, ixl1, ixl2, ixl3, ixl4, ixl5, ixl6, ixl7, ixn0, ixn1, ixn2, gLt, gLe, gGt, gGe, gCmp, gIs, gIsNot, gIsB, M.isNone, M.int, M.bool, fSet, fRet, fRetN, fNx, fNot, fAnd, fOr, fIf, fCp, fMv, M.dat, wipeM, backM, Option.getD_some, Option.getD_none, gAdd, gSub, gMulL, gMulR, gMod, gDiv, gp6, gp12, gp13, gp18, gNeg, fPut, fApp, fPop, fDrop, M.lst?, fAsg, fGT, fGcons, fGN, fGnil, fTup, fLst, fACons, fANil, allD, fCall, fRVal, fRSlot, fRNil, amsOf, putBack, gLen, gTuple, gInt, gMax2, gMin2, Option.bind_some, Option.bind_none, Option.bind_eq_bind, List.getElem?_cons_zero, List.getElem?_cons_succ, List.set_cons_zero, List.set_cons_succ, outM, List.map_cons, List.map_nil, szl, Int.cast_ofNat_Int, if_true, if_false, ite_true, ite_false, Bool.false_eq_true, decide_true, decide_false, Bool.not_true, Bool.not_false, Int.reduceNeg, List.length_map, reduceIte, Nat.reduceLeDiff, Nat.reduceLT, Nat.reduceMul, Int.reduceLE, Int.reduceLT, Int.reduceToNat, Int.toNat_one, Int.toNat_zero, Int.reduceAdd, Int.reduceSub, Int.reduceMul, Int.reducePow, Nat.reducePow, Int.zero_add, Nat.zero_add, Nat.lt_add_one, Int.zero_le_ofNat, Option.some.injEq, reduceCtorEq, Prod.mk.injEq, O.nx.injEq, List.cons.injEq, M.d.injEq, PyData.int.injEq, and_self, true_and, and_true, List.append_assoc, List.mem_cons, List.not_mem_nil, Nat.reduceEqDiff, or_self, or_false, netD, gNe_int]
/-! ### parting_paper -/
theorem find_none {α : Type} {ts : List α} {f : α → PyData} {P : α → Prop} (hn : ∀ t ∈ ts, nb (f t) = true) (hf : ∀ t ∈ ts, (f t = .none ↔ ¬ P t)) (he : ∃ t ∈ ts, ¬ P t) :
    ∃ (j : Nat) (t : α), ((ts.map f).findIdx? fun z => PyData.eqv z .none) = some j ∧ ts[j]? = some t ∧ ¬ P t := by
  have hh : ((ts.map f).findIdx? fun z => PyData.eqv z .none) ≠ none := fun z => by
    rw [List.findIdx?_eq_none_iff] at z
    obtain ⟨t, ht, hp⟩ := he
    have := z (f t) (List.mem_map_of_mem ht)
    rw [(hf t ht).mpr hp] at this
    simp [PyData.eqv] at this
  obtain ⟨j, hj⟩ := Option.ne_none_iff_exists'.mp hh
  obtain ⟨hlt, e, _⟩ := List.findIdx?_eq_some_iff_getElem.mp hj
  rw [List.length_map] at hlt
  refine ⟨j, ts[j], hj, List.getElem?_eq_getElem hlt, ?_⟩
  rw [List.getElem_map, eqv_nb _ _ (hn _ (List.getElem_mem hlt)) rfl] at e
  exact (hf _ (List.getElem_mem hlt)).mp e
theorem okE_none : okE .none := ⟨rfl, rfl⟩
theorem sp_part {many : Int} {ms : List Me} (N : okN many ms) (k : Int) {ts : List Tp} (ok : ∀ t ∈ ts, okT many t) {wf : Tp → Option (List Int)} {P : Tp → Prop} (hf : ∀ t ∈ ts, (wf t = none ↔ ¬ P t)) (he : ∃ t ∈ ts, ¬ P t) :
    ∃ t ∈ ts, ¬ P t ∧ ∃ a b, d_parting_paper [some (.d (.int k)), some (.d (.tuple (ts.map Tp.data))), some (.bt (ts.map fun t => wayD (wf t))), some (.d (netD many ms))] =
      some (.d (.tuple [.str "parts", .int k, .tuple [.int t.p, .int t.s, .int t.q, .int t.e], a, b]), [some (.d (.int k)), some (.d (.tuple (ts.map Tp.data))), some (.bt (ts.map fun t => wayD (wf t))), some (.d (netD many ms))]) := by
  obtain ⟨j, t, hj, ht, hp⟩ := find_none (ts := ts) (f := fun t => wayD (wf t)) (P := P) (fun t _ => (way_flat (wf t)).1) (fun t ht => by
    rw [← hf t ht]
    cases wf t <;> simp [wayD]) he
  have okl := okE_all (ds := ts.map fun t => wayD (wf t)) fun d hd => by
    obtain ⟨u, _, rfl⟩ := List.mem_map.mp hd
    exact way_flat (wf u)
  have gi : gIdx (.bt (ts.map fun t => wayD (wf t))) (.d .none) = some (.d (.int (j : Int))) := by
    simp only [gIdx, M.its, M.py, Option.bind_some, hj, okl.1.2, okl.2.2, okE_none.2, Bool.and_self, if_true]
  have mem := List.mem_of_getElem? ht
  have okt := ok t mem
  have ei := sp_earliest many ms N t.p t.s okt.1 okt.2.1
  have ix : gIx (.d (.tuple (ts.map Tp.data))) (j : Int) = some (.d t.data) := ix_at (by rw [List.getElem?_map, ht]; rfl)
  refine ⟨t, mem, hp, .tuple [.int t.n], .tuple ((earL (stepsL ms) many t.p t.s).map moD), ?_⟩
  simp only [d_parting_paper, b_parting_paper, fDef, List.length_cons, List.length_nil, Nat.reduceAdd, Nat.reduceSub, List.replicate, List.cons_append, List.nil_append, fSeq, fIfS, fTst, fTAnd, fTOr, fTNot, fBin, fUn, fIx, fVar, fC, sl, ixd0, ixd1, ixd2, ixd3, ixd4, ixl0, ixl1, ixl2, ixl3, ixl4, ixl5, ixl6, ixl7, ixn0, ixn1, ixn2, gLt, gLe, gGt, gGe, gCmp, gIs, gIsNot, gIsB, M.isNone, M.int, M.bool, fSet, fRet, fRetN, fNx, fNot, fAnd, fOr, fIf, fCp, fMv, M.dat, wipeM, backM, Option.getD_some, Option.getD_none, gAdd, gSub, gMulL, gMulR, gMod, gDiv, gp6, gp12, gp13, gp18, gNeg, fPut, fApp, fPop, fDrop, M.lst?, fAsg, fGT, fGcons, fGN, fGnil, fTup, fLst, fACons, fANil, allD, fCall, fRVal, fRSlot, fRNil, amsOf, putBack, gLen, gTuple, gInt, gMax2, gMin2, Option.bind_some, Option.bind_none, Option.bind_eq_bind, List.getElem?_cons_zero, List.getElem?_cons_succ, List.set_cons_zero, List.set_cons_succ, outM, List.map_cons, List.map_nil, szl, Int.cast_ofNat_Int, if_true, if_false, ite_true, ite_false, Bool.false_eq_true, decide_true, decide_false, Bool.not_true, Bool.not_false, Int.reduceNeg, List.length_map, reduceIte, Nat.reduceLeDiff, Nat.reduceLT, Nat.reduceMul, Int.reduceLE, Int.reduceLT, Int.reduceToNat, Int.toNat_one, Int.toNat_zero, Int.reduceAdd, Int.reduceSub, Int.reduceMul, Int.reducePow, Nat.reducePow, Int.zero_add, Nat.zero_add, Nat.lt_add_one, Int.zero_le_ofNat, Option.some.injEq, reduceCtorEq, Prod.mk.injEq, O.nx.injEq, List.cons.injEq, M.d.injEq, PyData.int.injEq, and_self, true_and, and_true, List.append_assoc, List.mem_cons, List.not_mem_nil, Nat.reduceEqDiff, or_self, or_false, fBtIdx, gi, ix]
  simp only [fDef, List.length_cons, List.length_nil, Nat.reduceAdd, Nat.reduceSub, List.replicate, List.cons_append, List.nil_append, fSeq, fIfS, fTst, fTAnd, fTOr, fTNot, fBin, fUn, fIx, fVar, fC, sl, ixd0, ixd1, ixd2, ixd3, ixd4, ixl0, ixl1, ixl2, ixl3, ixl4, ixl5, ixl6, ixl7, ixn0, ixn1, ixn2, gLt, gLe, gGt, gGe, gCmp, gIs, gIsNot, gIsB, M.isNone, M.int, M.bool, fSet, fRet, fRetN, fNx, fNot, fAnd, fOr, fIf, fCp, fMv, M.dat, wipeM, backM, Option.getD_some, Option.getD_none, gAdd, gSub, gMulL, gMulR, gMod, gDiv, gp6, gp12, gp13, gp18, gNeg, fPut, fApp, fPop, fDrop, M.lst?, fAsg, fGT, fGcons, fGN, fGnil, fTup, fLst, fACons, fANil, allD, fCall, fRVal, fRSlot, fRNil, amsOf, putBack, gLen, gTuple, gInt, gMax2, gMin2, Option.bind_some, Option.bind_none, Option.bind_eq_bind, List.getElem?_cons_zero, List.getElem?_cons_succ, List.set_cons_zero, List.set_cons_succ, outM, List.map_cons, List.map_nil, szl, Int.cast_ofNat_Int, if_true, if_false, ite_true, ite_false, Bool.false_eq_true, decide_true, decide_false, Bool.not_true, Bool.not_false, Int.reduceNeg, List.length_map, reduceIte, Nat.reduceLeDiff, Nat.reduceLT, Nat.reduceMul, Int.reduceLE, Int.reduceLT, Int.reduceToNat, Int.toNat_one, Int.toNat_zero, Int.reduceAdd, Int.reduceSub, Int.reduceMul, Int.reducePow, Nat.reducePow, Int.zero_add, Nat.zero_add, Nat.lt_add_one, Int.zero_le_ofNat, Option.some.injEq, reduceCtorEq, Prod.mk.injEq, O.nx.injEq, List.cons.injEq, M.d.injEq, PyData.int.injEq, and_self, true_and, and_true, List.append_assoc, List.mem_cons, List.not_mem_nil, Nat.reduceEqDiff, or_self, or_false, Tp.data, ei]
/-! ### alike_paper -/
def AllDn (as bs : List Me) : Prop := ∀ t ∈ stepsL as, Dn (stepsL bs) t
theorem sp_alike {many : Int} {as bs : List Me} (NA : okN many as) (NB : okN many bs) :
    ∃ w r, d_alike_paper [some (.d (netD many as)), some (.d (netD many bs))] = some (.d (.tuple (.str w :: r)), [some (.d (netD many as)), some (.d (netD many bs))]) ∧
      ((AllDn as bs ∧ AllDn bs as ∧ w = "alike") ∨
       (w = "parts" ∧ ∃ t ∈ stepsL as, ¬ Dn (stepsL bs) t ∧ ∃ r', r = .int 0 :: .tuple [.int t.p, .int t.s, .int t.q, .int t.e] :: r') ∨
       (w = "parts" ∧ ∃ t ∈ stepsL bs, ¬ Dn (stepsL as) t ∧ ∃ r', r = .int 1 :: .tuple [.int t.p, .int t.s, .int t.q, .int t.e] :: r')) := by
  classical
  have ef := sp_fit many as bs
  have sa := sp_steps many as NA.len
  have sb := sp_steps many bs NB.len
  obtain ⟨wa, ea, ha⟩ := sp_wsf NB (ts := stepsL as) (fun t ht => ⟨NA.okT t ht, NA.ne t ht⟩) NA.slen
  obtain ⟨wb, eb, hb⟩ := sp_wsf NA (ts := stepsL bs) (fun t ht => ⟨NB.okT t ht, NB.ne t ht⟩) NB.slen
  have inn : ∀ (ts : List Tp) (wf : Tp → Option (List Int)), gIn (.d .none) (.bt (ts.map fun t => wayD (wf t))) = some (.d (.bool (decide (PyData.none ∈ ts.map fun t => wayD (wf t))))) := fun ts wf =>
    (gIn_ok rfl (.inr rfl) okE_none (okE_all fun d hd => by
      obtain ⟨u, _, rfl⟩ := List.mem_map.mp hd
      exact way_flat (wf u)).1).1
  have mem : ∀ (ts : List Tp) (wf : Tp → Option (List Int)) (P : Tp → Prop), (∀ t ∈ ts, (wf t = none ↔ ¬ P t)) → (PyData.none ∈ (ts.map fun t => wayD (wf t)) ↔ ∃ t ∈ ts, ¬ P t) := fun ts wf P h => by
    rw [List.mem_map]
    constructor
    · rintro ⟨t, ht, e⟩
      refine ⟨t, ht, (h t ht).mp ?_⟩
      cases hw : wf t with
      | none => rfl
      | some l => rw [hw] at e; cases e
    · rintro ⟨t, ht, e⟩
      exact ⟨t, ht, by rw [(h t ht).mpr e]; rfl⟩
  have i1 := inn (stepsL as) wa
  have i2 := inn (stepsL bs) wb
  by_cases h1 : ∃ t ∈ stepsL as, ¬ Dn (stepsL bs) t
  · obtain ⟨t, ht, hp, a, b, ep⟩ := sp_part NB 0 NA.okT ha h1
    have d1 : decide (PyData.none ∈ (stepsL as).map fun t => wayD (wa t)) = true := decide_eq_true ((mem _ _ _ ha).mpr h1)
    rw [d1] at i1
    refine ⟨"parts", [.int 0, .tuple [.int t.p, .int t.s, .int t.q, .int t.e], a, b], ?_, .inr (.inl ⟨rfl, t, ht, hp, _, rfl⟩)⟩
    simp only [d_alike_paper, b_alike_paper, fDef, List.length_cons, List.length_nil, Nat.reduceAdd, Nat.reduceSub, List.replicate, List.cons_append, List.nil_append, fSeq, fIfS, fTst, fTAnd, fTOr, fTNot, fBin, fUn, fIx, fVar, fC, sl, ixd0, ixd1, ixd2, ixd3, ixd4, ixl0, ixl1, ixl2, ixl3, ixl4, ixl5, ixl6, ixl7, ixn0, ixn1, ixn2, gLt, gLe, gGt, gGe, gCmp, gIs, gIsNot, gIsB, M.isNone, M.int, M.bool, fSet, fRet, fRetN, fNx, fNot, fAnd, fOr, fIf, fCp, fMv, M.dat, wipeM, backM, Option.getD_some, Option.getD_none, gAdd, gSub, gMulL, gMulR, gMod, gDiv, gp6, gp12, gp13, gp18, gNeg, fPut, fApp, fPop, fDrop, M.lst?, fAsg, fGT, fGcons, fGN, fGnil, fTup, fLst, fACons, fANil, allD, fCall, fRVal, fRSlot, fRNil, amsOf, putBack, gLen, gTuple, gInt, gMax2, gMin2, Option.bind_some, Option.bind_none, Option.bind_eq_bind, List.getElem?_cons_zero, List.getElem?_cons_succ, List.set_cons_zero, List.set_cons_succ, outM, List.map_cons, List.map_nil, szl, Int.cast_ofNat_Int, if_true, if_false, ite_true, ite_false, Bool.false_eq_true, decide_true, decide_false, Bool.not_true, Bool.not_false, Int.reduceNeg, List.length_map, reduceIte, Nat.reduceLeDiff, Nat.reduceLT, Nat.reduceMul, Int.reduceLE, Int.reduceLT, Int.reduceToNat, Int.toNat_one, Int.toNat_zero, Int.reduceAdd, Int.reduceSub, Int.reduceMul, Int.reducePow, Nat.reducePow, Int.zero_add, Nat.zero_add, Nat.lt_add_one, Int.zero_le_ofNat, Option.some.injEq, reduceCtorEq, Prod.mk.injEq, O.nx.injEq, List.cons.injEq, M.d.injEq, PyData.int.injEq, and_self, true_and, and_true, List.append_assoc, List.mem_cons, List.not_mem_nil, Nat.reduceEqDiff, or_self, or_false, ef, sa, ea, i1, ep]
  · have d1 : decide (PyData.none ∈ (stepsL as).map fun t => wayD (wa t)) = false := decide_eq_false fun z => h1 ((mem _ _ _ ha).mp z)
    rw [d1] at i1
    by_cases h2 : ∃ t ∈ stepsL bs, ¬ Dn (stepsL as) t
    · obtain ⟨t, ht, hp, a, b, ep⟩ := sp_part NA 1 NB.okT hb h2
      have d2 : decide (PyData.none ∈ (stepsL bs).map fun t => wayD (wb t)) = true := decide_eq_true ((mem _ _ _ hb).mpr h2)
      rw [d2] at i2
      refine ⟨"parts", [.int 1, .tuple [.int t.p, .int t.s, .int t.q, .int t.e], a, b], ?_, .inr (.inr ⟨rfl, t, ht, hp, _, rfl⟩)⟩
      simp only [d_alike_paper, b_alike_paper, fDef, List.length_cons, List.length_nil, Nat.reduceAdd, Nat.reduceSub, List.replicate, List.cons_append, List.nil_append, fSeq, fIfS, fTst, fTAnd, fTOr, fTNot, fBin, fUn, fIx, fVar, fC, sl, ixd0, ixd1, ixd2, ixd3, ixd4, ixl0, ixl1, ixl2, ixl3, ixl4, ixl5, ixl6, ixl7, ixn0, ixn1, ixn2, gLt, gLe, gGt, gGe, gCmp, gIs, gIsNot, gIsB, M.isNone, M.int, M.bool, fSet, fRet, fRetN, fNx, fNot, fAnd, fOr, fIf, fCp, fMv, M.dat, wipeM, backM, Option.getD_some, Option.getD_none, gAdd, gSub, gMulL, gMulR, gMod, gDiv, gp6, gp12, gp13, gp18, gNeg, fPut, fApp, fPop, fDrop, M.lst?, fAsg, fGT, fGcons, fGN, fGnil, fTup, fLst, fACons, fANil, allD, fCall, fRVal, fRSlot, fRNil, amsOf, putBack, gLen, gTuple, gInt, gMax2, gMin2, Option.bind_some, Option.bind_none, Option.bind_eq_bind, List.getElem?_cons_zero, List.getElem?_cons_succ, List.set_cons_zero, List.set_cons_succ, outM, List.map_cons, List.map_nil, szl, Int.cast_ofNat_Int, if_true, if_false, ite_true, ite_false, Bool.false_eq_true, decide_true, decide_false, Bool.not_true, Bool.not_false, Int.reduceNeg, List.length_map, reduceIte, Nat.reduceLeDiff, Nat.reduceLT, Nat.reduceMul, Int.reduceLE, Int.reduceLT, Int.reduceToNat, Int.toNat_one, Int.toNat_zero, Int.reduceAdd, Int.reduceSub, Int.reduceMul, Int.reducePow, Nat.reducePow, Int.zero_add, Nat.zero_add, Nat.lt_add_one, Int.zero_le_ofNat, Option.some.injEq, reduceCtorEq, Prod.mk.injEq, O.nx.injEq, List.cons.injEq, M.d.injEq, PyData.int.injEq, and_self, true_and, and_true, List.append_assoc, List.mem_cons, List.not_mem_nil, Nat.reduceEqDiff, or_self, or_false, ef, sa, sb, ea, eb, i1, i2, ep]
    · have d2 : decide (PyData.none ∈ (stepsL bs).map fun t => wayD (wb t)) = false := decide_eq_false fun z => h2 ((mem _ _ _ hb).mp z)
      rw [d2] at i2
      refine ⟨"alike", [.tuple ((stepsL as).map fun t => wayD (wa t)), .tuple ((stepsL bs).map fun t => wayD (wb t))], ?_, .inl ⟨fun t ht => Classical.byContradiction fun z => h1 ⟨t, ht, z⟩, fun t ht => Classical.byContradiction fun z => h2 ⟨t, ht, z⟩, rfl⟩⟩
      simp only [d_alike_paper, b_alike_paper, fDef, List.length_cons, List.length_nil, Nat.reduceAdd, Nat.reduceSub, List.replicate, List.cons_append, List.nil_append, fSeq, fIfS, fTst, fTAnd, fTOr, fTNot, fBin, fUn, fIx, fVar, fC, sl, ixd0, ixd1, ixd2, ixd3, ixd4, ixl0, ixl1, ixl2, ixl3, ixl4, ixl5, ixl6, ixl7, ixn0, ixn1, ixn2, gLt, gLe, gGt, gGe, gCmp, gIs, gIsNot, gIsB, M.isNone, M.int, M.bool, fSet, fRet, fRetN, fNx, fNot, fAnd, fOr, fIf, fCp, fMv, M.dat, wipeM, backM, Option.getD_some, Option.getD_none, gAdd, gSub, gMulL, gMulR, gMod, gDiv, gp6, gp12, gp13, gp18, gNeg, fPut, fApp, fPop, fDrop, M.lst?, fAsg, fGT, fGcons, fGN, fGnil, fTup, fLst, fACons, fANil, allD, fCall, fRVal, fRSlot, fRNil, amsOf, putBack, gLen, gTuple, gInt, gMax2, gMin2, Option.bind_some, Option.bind_none, Option.bind_eq_bind, List.getElem?_cons_zero, List.getElem?_cons_succ, List.set_cons_zero, List.set_cons_succ, outM, List.map_cons, List.map_nil, szl, Int.cast_ofNat_Int, if_true, if_false, ite_true, ite_false, Bool.false_eq_true, decide_true, decide_false, Bool.not_true, Bool.not_false, Int.reduceNeg, List.length_map, reduceIte, Nat.reduceLeDiff, Nat.reduceLT, Nat.reduceMul, Int.reduceLE, Int.reduceLT, Int.reduceToNat, Int.toNat_one, Int.toNat_zero, Int.reduceAdd, Int.reduceSub, Int.reduceMul, Int.reducePow, Nat.reducePow, Int.zero_add, Nat.zero_add, Nat.lt_add_one, Int.zero_le_ofNat, Option.some.injEq, reduceCtorEq, Prod.mk.injEq, O.nx.injEq, List.cons.injEq, M.d.injEq, PyData.int.injEq, and_self, true_and, and_true, List.append_assoc, List.mem_cons, List.not_mem_nil, Nat.reduceEqDiff, or_self, or_false, ef, sa, sb, ea, eb, i1, i2]
theorem sp_are {many : Int} {as bs : List Me} (NA : okN many as) (NB : okN many bs) :
    ∃ b : Bool, d_are_alike [some (.d (netD many as)), some (.d (netD many bs))] = some (.d (.bool b), [some (.d (netD many as)), some (.d (netD many bs))]) ∧ (b = true ↔ AllDn as bs ∧ AllDn bs as) := by
  obtain ⟨w, r, e, h⟩ := sp_alike NA NB
  have ok : ∀ w : Str, (w = "alike" ∨ w = "parts") → PyData.canLay0 (.str w) = true := by
    rintro w (rfl | rfl) <;> decide +kernel
  have hw : w = "alike" ∨ w = "parts" := by
    rcases h with h | h | h
    · exact .inl h.2.2
    · exact .inr h.1
    · exact .inr h.1
  have q := gEq_str (ok w hw) (ok "alike" (.inl rfl))
  refine ⟨decide (w = "alike"), ?_, ?_⟩
  · simp only [netD] at e
    simp only [d_are_alike, b_are_alike, fDef, List.length_cons, List.length_nil, Nat.reduceAdd, Nat.reduceSub, List.replicate, List.cons_append, List.nil_append, fSeq, fIfS, fTst, fTAnd, fTOr, fTNot, fBin, fUn, fIx, fVar, fC, sl, ixd0, ixd1, ixd2, ixd3, ixd4, ixl0, ixl1, ixl2, ixl3, ixl4, ixl5, ixl6, ixl7, ixn0, ixn1, ixn2, gLt, gLe, gGt, gGe, gCmp, gIs, gIsNot, gIsB, M.isNone, M.int, M.bool, fSet, fRet, fRetN, fNx, fNot, fAnd, fOr, fIf, fCp, fMv, M.dat, wipeM, backM, Option.getD_some, Option.getD_none, gAdd, gSub, gMulL, gMulR, gMod, gDiv, gp6, gp12, gp13, gp18, gNeg, fPut, fApp, fPop, fDrop, M.lst?, fAsg, fGT, fGcons, fGN, fGnil, fTup, fLst, fACons, fANil, allD, fCall, fRVal, fRSlot, fRNil, amsOf, putBack, gLen, gTuple, gInt, gMax2, gMin2, Option.bind_some, Option.bind_none, Option.bind_eq_bind, List.getElem?_cons_zero, List.getElem?_cons_succ, List.set_cons_zero, List.set_cons_succ, outM, List.map_cons, List.map_nil, szl, Int.cast_ofNat_Int, if_true, if_false, ite_true, ite_false, Bool.false_eq_true, decide_true, decide_false, Bool.not_true, Bool.not_false, Int.reduceNeg, List.length_map, reduceIte, Nat.reduceLeDiff, Nat.reduceLT, Nat.reduceMul, Int.reduceLE, Int.reduceLT, Int.reduceToNat, Int.toNat_one, Int.toNat_zero, Int.reduceAdd, Int.reduceSub, Int.reduceMul, Int.reducePow, Nat.reducePow, Int.zero_add, Nat.zero_add, Nat.lt_add_one, Int.zero_le_ofNat, Option.some.injEq, reduceCtorEq, Prod.mk.injEq, O.nx.injEq, List.cons.injEq, M.d.injEq, PyData.int.injEq, and_self, true_and, and_true, List.append_assoc, List.mem_cons, List.not_mem_nil, Nat.reduceEqDiff, or_self, or_false, netD, e, q]
  · rw [decide_eq_true_iff]
    rcases h with ⟨a, b, h⟩ | ⟨h, t, ht, hp, _⟩ | ⟨h, t, ht, hp, _⟩
    · exact ⟨fun _ => ⟨a, b⟩, fun _ => h⟩
    · refine ⟨fun z => ?_, fun z => absurd (z.1 t ht) hp⟩
      rw [h] at z
      exact absurd z (by decide +kernel)
    · refine ⟨fun z => ?_, fun z => absurd (z.2 t ht) hp⟩
      rw [h] at z
      exact absurd z (by decide +kernel)
end DL
namespace DL
open L2 PySem.Spec PySem PyProof.Rows

/-! ### is_made -/
theorem gIx_E {ts : List Tp} {many place moment q : Int} (h0 : 0 ≤ q) (h1 : q < many) : gIx (lstD ((earL ts many place moment).map moD)) q = some (.d (moD ((getC (comF ts many place moment) q).map (·.1)))) := by
  have hF := comF_len ts many place moment
  have hi : q.toNat < (comF ts many place moment).length := by omega
  have hq : q < ((earL ts many place moment).length : Int) := by unfold earL; rw [List.length_map, hF]; omega
  have hq' : q < ((comF ts many place moment).length : Int) := by rw [hF]; omega
  simp only [gIx, atI, ixN, earL, List.length_map, if_pos h0, if_pos hq', Option.bind_some, getC, List.getElem?_map, List.getElem?_eq_getElem hi, Option.map_some, Option.getD_some]
theorem sp_made (m : M) (ts : List Tp) (hm : m.its = some (ts.map Tp.data)) (hl : ts.length ≤ 3000) (many : Int) (h2 : many ≤ 1000) (hok : ∀ t ∈ ts, okT many t ∧ t.s < t.e) {t : Tp} (ok : okT many t) :
    ∃ b : Bool, d_is_made [some m, some (.d (.int many)), some (.d t.data)] = some (.d (.bool b), [some m, some (.d (.int many)), some (.d t.data)]) ∧ (b = true ↔ Dn ts t) := by
  have e := sp_ear m ts hm hl many t.p t.s ok.1 ok.2.1 h2 fun u hu => (hok u hu).1
  have i := gIx_E (ts := ts) (place := t.p) (moment := t.s) ok.2.2.1 ok.2.2.2
  have dn := com_dn (t := t) ok hok
  simp only [lstD] at e i
  rcases hc : getC (comF ts many t.p t.s) t.q with _ | ⟨mm, x⟩
  · rw [hc] at i
    simp only [Option.map_none, moD] at i
    refine ⟨false, ?_, ?_⟩
    · simp only [d_is_made, b_is_made, fDef, List.length_cons, List.length_nil, Nat.reduceAdd, Nat.reduceSub, List.replicate, List.cons_append, List.nil_append, fSeq, fIfS, fTst, fTAnd, fTOr, fTNot, fBin, fUn, fIx, fVar, fC, sl, ixd0, ixd1, ixd2, ixd3, ixd4, ixl0, ixl1, ixl2, ixl3, ixl4, ixl5, ixl6, ixl7, ixn0, ixn1, ixn2, gLt, gLe, gGt, gGe, gCmp, gIs, gIsNot, gIsB, M.isNone, M.int, M.bool, fSet, fRet, fRetN, fNx, fNot, fAnd, fOr, fIf, fCp, fMv, M.dat, wipeM, backM, Option.getD_some, Option.getD_none, gAdd, gSub, gMulL, gMulR, gMod, gDiv, gp6, gp12, gp13, gp18, gNeg, fPut, fApp, fPop, fDrop, M.lst?, fAsg, fGT, fGcons, fGN, fGnil, fTup, fLst, fACons, fANil, allD, fCall, fRVal, fRSlot, fRNil, amsOf, putBack, gLen, gTuple, gInt, gMax2, gMin2, Option.bind_some, Option.bind_none, Option.bind_eq_bind, List.getElem?_cons_zero, List.getElem?_cons_succ, List.set_cons_zero, List.set_cons_succ, outM, List.map_cons, List.map_nil, szl, Int.cast_ofNat_Int, if_true, if_false, ite_true, ite_false, Bool.false_eq_true, decide_true, decide_false, Bool.not_true, Bool.not_false, Int.reduceNeg, List.length_map, reduceIte, Nat.reduceLeDiff, Nat.reduceLT, Nat.reduceMul, Int.reduceLE, Int.reduceLT, Int.reduceToNat, Int.toNat_one, Int.toNat_zero, Int.reduceAdd, Int.reduceSub, Int.reduceMul, Int.reducePow, Nat.reducePow, Int.zero_add, Nat.zero_add, Nat.lt_add_one, Int.zero_le_ofNat, Option.some.injEq, reduceCtorEq, Prod.mk.injEq, O.nx.injEq, List.cons.injEq, M.d.injEq, PyData.int.injEq, and_self, true_and, and_true, List.append_assoc, List.mem_cons, List.not_mem_nil, Nat.reduceEqDiff, or_self, or_false, Tp.data, e, i]
      cases m <;> simp [outM]
    · rw [dn, hc]
      simp
  · rw [hc] at i
    simp only [Option.map_some, moD] at i
    refine ⟨decide (mm ≤ t.e), ?_, ?_⟩
    · simp only [d_is_made, b_is_made, fDef, List.length_cons, List.length_nil, Nat.reduceAdd, Nat.reduceSub, List.replicate, List.cons_append, List.nil_append, fSeq, fIfS, fTst, fTAnd, fTOr, fTNot, fBin, fUn, fIx, fVar, fC, sl, ixd0, ixd1, ixd2, ixd3, ixd4, ixl0, ixl1, ixl2, ixl3, ixl4, ixl5, ixl6, ixl7, ixn0, ixn1, ixn2, gLt, gLe, gGt, gGe, gCmp, gIs, gIsNot, gIsB, M.isNone, M.int, M.bool, fSet, fRet, fRetN, fNx, fNot, fAnd, fOr, fIf, fCp, fMv, M.dat, wipeM, backM, Option.getD_some, Option.getD_none, gAdd, gSub, gMulL, gMulR, gMod, gDiv, gp6, gp12, gp13, gp18, gNeg, fPut, fApp, fPop, fDrop, M.lst?, fAsg, fGT, fGcons, fGN, fGnil, fTup, fLst, fACons, fANil, allD, fCall, fRVal, fRSlot, fRNil, amsOf, putBack, gLen, gTuple, gInt, gMax2, gMin2, Option.bind_some, Option.bind_none, Option.bind_eq_bind, List.getElem?_cons_zero, List.getElem?_cons_succ, List.set_cons_zero, List.set_cons_succ, outM, List.map_cons, List.map_nil, szl, Int.cast_ofNat_Int, if_true, if_false, ite_true, ite_false, Bool.false_eq_true, decide_true, decide_false, Bool.not_true, Bool.not_false, Int.reduceNeg, List.length_map, reduceIte, Nat.reduceLeDiff, Nat.reduceLT, Nat.reduceMul, Int.reduceLE, Int.reduceLT, Int.reduceToNat, Int.toNat_one, Int.toNat_zero, Int.reduceAdd, Int.reduceSub, Int.reduceMul, Int.reducePow, Nat.reducePow, Int.zero_add, Nat.zero_add, Nat.lt_add_one, Int.zero_le_ofNat, Option.some.injEq, reduceCtorEq, Prod.mk.injEq, O.nx.injEq, List.cons.injEq, M.d.injEq, PyData.int.injEq, and_self, true_and, and_true, List.append_assoc, List.mem_cons, List.not_mem_nil, Nat.reduceEqDiff, or_self, or_false, Tp.data, e, i]
      cases m <;> simp [outM]
    · rw [dn, hc]
      simp
/-! ### plain -/
def same4 (t u : Tp) : Bool := decide (t.p = u.p) && (decide (t.q = u.q) && (decide (t.s = u.s) && decide (t.e = u.e)))
def mtOf (t : Tp) : Me := ⟨false, t.p, t.q, t.s, t.e - t.s⟩
theorem wd_inj {a b : Bool} (h : wordD a = wordD b) : a = b := by
  cases a <;> cases b <;> first | rfl | exact absurd h (by decide +kernel)
theorem me_inj {a b : Me} (h : a.data = b.data) : a = b := by
  obtain ⟨b1, p, q, s, l⟩ := a
  obtain ⟨b2, p', q', s', l'⟩ := b
  simp only [Me.data, PyData.tuple.injEq, List.cons.injEq, PyData.str.injEq, PyData.int.injEq, and_true] at h
  obtain ⟨h1, rfl, rfl, rfl, rfl⟩ := h
  rw [wd_inj h1]
theorem me_flat (m : Me) : nb m.data = true ∧ m.data.canLay0 = true ∧ m.data.depth ≤ 60 := by
  refine ⟨rfl, ?_, ?_⟩
  · have := wd_ok m.b
    simp [Me.data, PyData.canLay0, PyData.canLayAll0] at this ⊢
    exact this
  · simp [Me.data, PyData.depth, PyData.depthAll]
theorem me_okE (m : Me) : okE m.data := by
  have := me_flat m
  refine ⟨this.1, ?_⟩
  unfold SeqAt.shaped
  rw [Bool.and_eq_true]
  refine ⟨this.2.1, ?_⟩
  rw [decide_eq_true_iff]
  omega
theorem mes_okE (ms : List Me) : okE (.list (ms.map Me.data)) ∧ okE (.tuple (ms.map Me.data)) := okE_all fun d hd => by
  obtain ⟨m, _, rfl⟩ := List.mem_map.mp hd
  exact me_flat m
theorem C_pl (ts : List Tp) (hl : ts.length ≤ 3000) (t : Tp) (a c d5 d6 d7 d8 d9 d10 j : Option M) :
    C_plain_1 [a, some (.d (.tuple (ts.map Tp.data))), c, some (.d t.data), d5, d6, d7, d8, d9, d10, j] = some (.lst ((ts.filter fun u => !same4 u t).map fun u => .d u.data), [a, some (.d (.tuple (ts.map Tp.data))), c, some (.d t.data), d5, d6, d7, d8, d9, d10, j]) := by
  classical
  refine lc_spec (enc := Tp.data) (ys := ts) (ρ1 := [a, some (.d (.tuple (ts.map Tp.data))), c, some (.d t.data), d5, d6, d7, d8, d9, d10, j]) (fun u => !same4 u t) (fun u => .d u.data) ?_ ?_ (by simp only [szl]; omega) rfl
  · simp only [fIS, fDef, List.length_cons, List.length_nil, Nat.reduceAdd, Nat.reduceSub, List.replicate, List.cons_append, List.nil_append, fSeq, fIfS, fTst, fTAnd, fTOr, fTNot, fBin, fUn, fIx, fVar, fC, sl, ixd0, ixd1, ixd2, ixd3, ixd4, ixl0, ixl1, ixl2, ixl3, ixl4, ixl5, ixl6, ixl7, ixn0, ixn1, ixn2, gLt, gLe, gGt, gGe, gCmp, gIs, gIsNot, gIsB, M.isNone, M.int, M.bool, fSet, fRet, fRetN, fNx, fNot, fAnd, fOr, fIf, fCp, fMv, M.dat, wipeM, backM, Option.getD_some, Option.getD_none, gAdd, gSub, gMulL, gMulR, gMod, gDiv, gp6, gp12, gp13, gp18, gNeg, fPut, fApp, fPop, fDrop, M.lst?, fAsg, fGT, fGcons, fGN, fGnil, fTup, fLst, fACons, fANil, allD, fCall, fRVal, fRSlot, fRNil, amsOf, putBack, gLen, gTuple, gInt, gMax2, gMin2, Option.bind_some, Option.bind_none, Option.bind_eq_bind, List.getElem?_cons_zero, List.getElem?_cons_succ, List.set_cons_zero, List.set_cons_succ, outM, List.map_cons, List.map_nil, szl, Int.cast_ofNat_Int, if_true, if_false, ite_true, ite_false, Bool.false_eq_true, decide_true, decide_false, Bool.not_true, Bool.not_false, Int.reduceNeg, List.length_map, reduceIte, Nat.reduceLeDiff, Nat.reduceLT, Nat.reduceMul, Int.reduceLE, Int.reduceLT, Int.reduceToNat, Int.toNat_one, Int.toNat_zero, Int.reduceAdd, Int.reduceSub, Int.reduceMul, Int.reducePow, Nat.reducePow, Int.zero_add, Nat.zero_add, Nat.lt_add_one, Int.zero_le_ofNat, Option.some.injEq, reduceCtorEq, Prod.mk.injEq, O.nx.injEq, List.cons.injEq, M.d.injEq, PyData.int.injEq, and_self, true_and, and_true, List.append_assoc, List.mem_cons, List.not_mem_nil, Nat.reduceEqDiff, or_self, or_false, M.its]
  · intro u _
    have g1 : ∀ u : Tp, gCut (.d u.data) (some 1) none = some (.d (.tuple [.int u.p, .int u.q, .int u.s, .int u.e])) := fun _ => rfl
    have g2 : gNe (.d (.tuple [.int u.p, .int u.q, .int u.s, .int u.e])) (.d (.tuple [.int t.p, .int t.q, .int t.s, .int t.e])) = some (.d (.bool (!same4 u t))) := by
      rw [gNe_ok rfl rfl (okE_ints [u.p, u.q, u.s, u.e]) (okE_ints [t.p, t.q, t.s, t.e])]
      congr 4
      unfold same4
      rw [Bool.eq_iff_iff]
      simp
    refine ⟨[a, some (.d (.tuple (ts.map Tp.data))), c, some (.d t.data), d5, d6, d7, d8, d9, d10, some (.d u.data)], [a, some (.d (.tuple (ts.map Tp.data))), c, some (.d t.data), d5, d6, d7, d8, d9, d10, some (.d u.data)], rfl, ?_, fun _ => rfl, fun _ => ⟨[a, some (.d (.tuple (ts.map Tp.data))), c, some (.d t.data), d5, d6, d7, d8, d9, d10, some (.d u.data)], ?_, rfl⟩⟩
    · simp only [fCut, fSo, fNo, fDef, List.length_cons, List.length_nil, Nat.reduceAdd, Nat.reduceSub, List.replicate, List.cons_append, List.nil_append, fSeq, fIfS, fTst, fTAnd, fTOr, fTNot, fBin, fUn, fIx, fVar, fC, sl, ixd0, ixd1, ixd2, ixd3, ixd4, ixl0, ixl1, ixl2, ixl3, ixl4, ixl5, ixl6, ixl7, ixn0, ixn1, ixn2, gLt, gLe, gGt, gGe, gCmp, gIs, gIsNot, gIsB, M.isNone, M.int, M.bool, fSet, fRet, fRetN, fNx, fNot, fAnd, fOr, fIf, fCp, fMv, M.dat, wipeM, backM, Option.getD_some, Option.getD_none, gAdd, gSub, gMulL, gMulR, gMod, gDiv, gp6, gp12, gp13, gp18, gNeg, fPut, fApp, fPop, fDrop, M.lst?, fAsg, fGT, fGcons, fGN, fGnil, fTup, fLst, fACons, fANil, allD, fCall, fRVal, fRSlot, fRNil, amsOf, putBack, gLen, gTuple, gInt, gMax2, gMin2, Option.bind_some, Option.bind_none, Option.bind_eq_bind, List.getElem?_cons_zero, List.getElem?_cons_succ, List.set_cons_zero, List.set_cons_succ, outM, List.map_cons, List.map_nil, szl, Int.cast_ofNat_Int, if_true, if_false, ite_true, ite_false, Bool.false_eq_true, decide_true, decide_false, Bool.not_true, Bool.not_false, Int.reduceNeg, List.length_map, reduceIte, Nat.reduceLeDiff, Nat.reduceLT, Nat.reduceMul, Int.reduceLE, Int.reduceLT, Int.reduceToNat, Int.toNat_one, Int.toNat_zero, Int.reduceAdd, Int.reduceSub, Int.reduceMul, Int.reducePow, Nat.reducePow, Int.zero_add, Nat.zero_add, Nat.lt_add_one, Int.zero_le_ofNat, Option.some.injEq, reduceCtorEq, Prod.mk.injEq, O.nx.injEq, List.cons.injEq, M.d.injEq, PyData.int.injEq, and_self, true_and, and_true, List.append_assoc, List.mem_cons, List.not_mem_nil, Nat.reduceEqDiff, or_self, or_false, g1, g2]
    · simp only [fDef, List.length_cons, List.length_nil, Nat.reduceAdd, Nat.reduceSub, List.replicate, List.cons_append, List.nil_append, fSeq, fIfS, fTst, fTAnd, fTOr, fTNot, fBin, fUn, fIx, fVar, fC, sl, ixd0, ixd1, ixd2, ixd3, ixd4, ixl0, ixl1, ixl2, ixl3, ixl4, ixl5, ixl6, ixl7, ixn0, ixn1, ixn2, gLt, gLe, gGt, gGe, gCmp, gIs, gIsNot, gIsB, M.isNone, M.int, M.bool, fSet, fRet, fRetN, fNx, fNot, fAnd, fOr, fIf, fCp, fMv, M.dat, wipeM, backM, Option.getD_some, Option.getD_none, gAdd, gSub, gMulL, gMulR, gMod, gDiv, gp6, gp12, gp13, gp18, gNeg, fPut, fApp, fPop, fDrop, M.lst?, fAsg, fGT, fGcons, fGN, fGnil, fTup, fLst, fACons, fANil, allD, fCall, fRVal, fRSlot, fRNil, amsOf, putBack, gLen, gTuple, gInt, gMax2, gMin2, Option.bind_some, Option.bind_none, Option.bind_eq_bind, List.getElem?_cons_zero, List.getElem?_cons_succ, List.set_cons_zero, List.set_cons_succ, outM, List.map_cons, List.map_nil, szl, Int.cast_ofNat_Int, if_true, if_false, ite_true, ite_false, Bool.false_eq_true, decide_true, decide_false, Bool.not_true, Bool.not_false, Int.reduceNeg, List.length_map, reduceIte, Nat.reduceLeDiff, Nat.reduceLT, Nat.reduceMul, Int.reduceLE, Int.reduceLT, Int.reduceToNat, Int.toNat_one, Int.toNat_zero, Int.reduceAdd, Int.reduceSub, Int.reduceMul, Int.reducePow, Nat.reducePow, Int.zero_add, Nat.zero_add, Nat.lt_add_one, Int.zero_le_ofNat, Option.some.injEq, reduceCtorEq, Prod.mk.injEq, O.nx.injEq, List.cons.injEq, M.d.injEq, PyData.int.injEq, and_self, true_and, and_true, List.append_assoc, List.mem_cons, List.not_mem_nil, Nat.reduceEqDiff, or_self, or_false]
noncomputable def plStep (ts : List Tp) (acc : List Me) (t : Tp) : List Me := by
  classical
  exact if mtOf t ∉ acc ∧ ¬ Dn (ts.filter fun u => !same4 u t) t then acc ++ [mtOf t] else acc
noncomputable def plAcc (ts : List Tp) : List Me := ts.foldl (plStep ts) []
theorem plStep_len (ts : List Tp) (acc : List Me) (t : Tp) : (plStep ts acc t).length ≤ acc.length + 1 := by
  unfold plStep
  split <;> simp
theorem plFold_len (ts : List Tp) : ∀ (us : List Tp) (acc : List Me), (us.foldl (plStep ts) acc).length ≤ acc.length + us.length
  | [], _ => by simp
  | u :: us, acc => by
    have := plFold_len ts us (plStep ts acc u)
    have := plStep_len ts acc u
    simp only [List.foldl_cons, List.length_cons]
    omega
def sortM (ms : List Me) : List Me := ms.mergeSort fun a b => PySem.W.dataLe false id a.data b.data
theorem sortM_map (ms : List Me) : (sortM ms).map Me.data = (ms.map Me.data).mergeSort (PySem.W.dataLe false id) := List.map_mergeSort fun _ _ _ _ => rfl
theorem me_sortOk (ms : List Me) : sortOk (ms.map Me.data) = true := by
  unfold sortOk
  simp only [Bool.and_eq_true, List.all_eq_true, List.mem_map, Bool.or_eq_true, decide_eq_true_eq]
  refine ⟨⟨?_, .inl ?_⟩, ?_⟩
  · rintro _ ⟨t, _, rfl⟩ _ ⟨u, _, rfl⟩
    simp [Me.data, PySem.W.alike, PySem.W.alikeAll]
  · rintro _ ⟨t, _, rfl⟩
    rfl
  · rintro _ ⟨t, _, rfl⟩
    simp [Me.data, PyData.depth, PyData.depthAll]
theorem L_pl {many : Int} {ms : List Me} (N : okN many ms) :
    ∃ k3 k4 k5 k6 k7 k8 k9 k10, L_plain_1 [some (.d (netD many ms)), some (.d (.tuple ((stepsL ms).map Tp.data))), some (lstD []), none, none, none, none, none, none, none, none] =
      some (.nx [some (.d (netD many ms)), some (.d (.tuple ((stepsL ms).map Tp.data))), some (lstD ((plAcc (stepsL ms)).map Me.data)), k3, k4, k5, k6, k7, k8, k9, k10]) := by
  classical
  have := for_inv (enc := Tp.data) (g := fGN 3) (f := B_plain_1)
    (fun pre ρ => ∃ k3 k4 k5 k6 k7 k8 k9 k10, ρ = [some (.d (netD many ms)), some (.d (.tuple ((stepsL ms).map Tp.data))), some (lstD ((pre.foldl (plStep (stepsL ms)) []).map Me.data)), k3, k4, k5, k6, k7, k8, k9, k10]) (stepsL ms) [] ?_ _ ⟨none, none, none, none, none, none, none, none, rfl⟩
  · obtain ⟨ρ', e, k3, k4, k5, k6, k7, k8, k9, k10, rfl⟩ := this
    refine ⟨k3, k4, k5, k6, k7, k8, k9, k10, for_of (ds := (stepsL ms).map Tp.data) ?_ e⟩
    simp only [fIS, fDef, List.length_cons, List.length_nil, Nat.reduceAdd, Nat.reduceSub, List.replicate, List.cons_append, List.nil_append, fSeq, fIfS, fTst, fTAnd, fTOr, fTNot, fBin, fUn, fIx, fVar, fC, sl, ixd0, ixd1, ixd2, ixd3, ixd4, ixl0, ixl1, ixl2, ixl3, ixl4, ixl5, ixl6, ixl7, ixn0, ixn1, ixn2, gLt, gLe, gGt, gGe, gCmp, gIs, gIsNot, gIsB, M.isNone, M.int, M.bool, fSet, fRet, fRetN, fNx, fNot, fAnd, fOr, fIf, fCp, fMv, M.dat, wipeM, backM, Option.getD_some, Option.getD_none, gAdd, gSub, gMulL, gMulR, gMod, gDiv, gp6, gp12, gp13, gp18, gNeg, fPut, fApp, fPop, fDrop, M.lst?, fAsg, fGT, fGcons, fGN, fGnil, fTup, fLst, fACons, fANil, allD, fCall, fRVal, fRSlot, fRNil, amsOf, putBack, gLen, gTuple, gInt, gMax2, gMin2, Option.bind_some, Option.bind_none, Option.bind_eq_bind, List.getElem?_cons_zero, List.getElem?_cons_succ, List.set_cons_zero, List.set_cons_succ, outM, List.map_cons, List.map_nil, szl, Int.cast_ofNat_Int, if_true, if_false, ite_true, ite_false, Bool.false_eq_true, decide_true, decide_false, Bool.not_true, Bool.not_false, Int.reduceNeg, List.length_map, reduceIte, Nat.reduceLeDiff, Nat.reduceLT, Nat.reduceMul, Int.reduceLE, Int.reduceLT, Int.reduceToNat, Int.toNat_one, Int.toNat_zero, Int.reduceAdd, Int.reduceSub, Int.reduceMul, Int.reducePow, Nat.reducePow, Int.zero_add, Nat.zero_add, Nat.lt_add_one, Int.zero_le_ofNat, Option.some.injEq, reduceCtorEq, Prod.mk.injEq, O.nx.injEq, List.cons.injEq, M.d.injEq, PyData.int.injEq, and_self, true_and, and_true, List.append_assoc, List.mem_cons, List.not_mem_nil, Nat.reduceEqDiff, or_self, or_false, M.its]
    rfl
  · rintro pre t suf e ρ ⟨k3, k4, k5, k6, k7, k8, k9, k10, rfl⟩
    have e' : stepsL ms = pre ++ t :: suf := e
    have ht : t ∈ stepsL ms := by rw [e']; simp
    have hlen : pre.length ≤ 3000 := by
      have := N.slen
      rw [e'] at this
      simp at this
      omega
    generalize hacc : pre.foldl (plStep (stepsL ms)) [] = acc
    have hal : acc.length < 16777216 := by
      have := plFold_len (stepsL ms) pre []
      rw [hacc] at this
      simp at this
      omega
    rw [List.foldl_append, List.foldl_cons, List.foldl_nil, hacc]
    obtain ⟨b, em, hb⟩ := sp_made (.lst (((stepsL ms).filter fun u => !same4 u t).map fun u => .d u.data)) ((stepsL ms).filter fun u => !same4 u t) (by
      show allD _ = _
      rw [show (((stepsL ms).filter fun u => !same4 u t).map fun u => M.d u.data) = (((stepsL ms).filter fun u => !same4 u t).map Tp.data).map M.d from by rw [List.map_map]; rfl, allD_map])
      (Nat.le_trans (List.length_filter_le _ _) N.slen) many N.few (fun u hu => N.okS u (List.mem_filter.mp hu).1) (N.okT t ht)
    have c1 := fun (a c d5 d6 d7 d8 d9 d10 j : Option M) => C_pl (stepsL ms) N.slen t a c d5 d6 d7 d8 d9 d10 j
    simp only [Tp.data] at c1 em
    have gn : gNotIn (.d (mtOf t).data) (.lst ((acc.map Me.data).map M.d)) = some (.d (.bool (!decide ((mtOf t).data ∈ acc.map Me.data)))) :=
      (gIn_ok (n := .lst ((acc.map Me.data).map M.d)) rfl (.inl (by simp only [M.py, pyAll_map, Option.bind_some])) (me_okE _) (mes_okE acc).1).2
    have hmem : (mtOf t).data ∈ acc.map Me.data ↔ mtOf t ∈ acc := by
      rw [List.mem_map]
      exact ⟨fun ⟨m, hm, em⟩ => me_inj em ▸ hm, fun h => ⟨_, h, rfl⟩⟩
    have md : (mtOf t).data = .tuple [.str "to", .int t.p, .int t.q, .int t.s, .int (t.e - t.s)] := rfl
    refine ⟨_, [some (.d (netD many ms)), some (.d (.tuple ((stepsL ms).map Tp.data))), some (lstD ((plStep (stepsL ms) acc t).map Me.data)), some (.d t.data), some (.d (mtOf t).data), some (.d (.int t.n)), some (.d (.int t.p)), some (.d (.int t.q)), some (.d (.int t.s)), some (.d (.int t.e)), k10], rfl, .inl ?_, ?_⟩
    · by_cases h1 : mtOf t ∈ acc
      · have d1 : decide ((mtOf t).data ∈ acc.map Me.data) = true := decide_eq_true (hmem.mpr h1)
        rw [d1, md] at gn
        have ps : plStep (stepsL ms) acc t = acc := by
          unfold plStep
          rw [if_neg fun z => z.1 h1]
        rw [ps]
        simp only [B_plain_1, fDef, List.length_cons, List.length_nil, Nat.reduceAdd, Nat.reduceSub, List.replicate, List.cons_append, List.nil_append, fSeq, fIfS, fTst, fTAnd, fTOr, fTNot, fBin, fUn, fIx, fVar, fC, sl, ixd0, ixd1, ixd2, ixd3, ixd4, ixl0, ixl1, ixl2, ixl3, ixl4, ixl5, ixl6, ixl7, ixn0, ixn1, ixn2, gLt, gLe, gGt, gGe, gCmp, gIs, gIsNot, gIsB, M.isNone, M.int, M.bool, fSet, fRet, fRetN, fNx, fNot, fAnd, fOr, fIf, fCp, fMv, M.dat, wipeM, backM, Option.getD_some, Option.getD_none, gAdd, gSub, gMulL, gMulR, gMod, gDiv, gp6, gp12, gp13, gp18, gNeg, fPut, fApp, fPop, fDrop, M.lst?, fAsg, fGT, fGcons, fGN, fGnil, fTup, fLst, fACons, fANil, allD, fCall, fRVal, fRSlot, fRNil, amsOf, putBack, gLen, gTuple, gInt, gMax2, gMin2, Option.bind_some, Option.bind_none, Option.bind_eq_bind, List.getElem?_cons_zero, List.getElem?_cons_succ, List.set_cons_zero, List.set_cons_succ, outM, List.map_cons, List.map_nil, szl, Int.cast_ofNat_Int, if_true, if_false, ite_true, ite_false, Bool.false_eq_true, decide_true, decide_false, Bool.not_true, Bool.not_false, Int.reduceNeg, List.length_map, reduceIte, Nat.reduceLeDiff, Nat.reduceLT, Nat.reduceMul, Int.reduceLE, Int.reduceLT, Int.reduceToNat, Int.toNat_one, Int.toNat_zero, Int.reduceAdd, Int.reduceSub, Int.reduceMul, Int.reducePow, Nat.reducePow, Int.zero_add, Nat.zero_add, Nat.lt_add_one, Int.zero_le_ofNat, Option.some.injEq, reduceCtorEq, Prod.mk.injEq, O.nx.injEq, List.cons.injEq, M.d.injEq, PyData.int.injEq, and_self, true_and, and_true, List.append_assoc, List.mem_cons, List.not_mem_nil, Nat.reduceEqDiff, or_self, or_false, Tp.data, gn, md]
      · have d1 : decide ((mtOf t).data ∈ acc.map Me.data) = false := decide_eq_false fun z => h1 (hmem.mp z)
        rw [d1, md] at gn
        by_cases h2 : Dn ((stepsL ms).filter fun u => !same4 u t) t
        · obtain rfl : b = true := hb.mpr h2
          have ps : plStep (stepsL ms) acc t = acc := by
            unfold plStep
            rw [if_neg fun z => z.2 h2]
          rw [ps]
          simp only [B_plain_1, fDef, List.length_cons, List.length_nil, Nat.reduceAdd, Nat.reduceSub, List.replicate, List.cons_append, List.nil_append, fSeq, fIfS, fTst, fTAnd, fTOr, fTNot, fBin, fUn, fIx, fVar, fC, sl, ixd0, ixd1, ixd2, ixd3, ixd4, ixl0, ixl1, ixl2, ixl3, ixl4, ixl5, ixl6, ixl7, ixn0, ixn1, ixn2, gLt, gLe, gGt, gGe, gCmp, gIs, gIsNot, gIsB, M.isNone, M.int, M.bool, fSet, fRet, fRetN, fNx, fNot, fAnd, fOr, fIf, fCp, fMv, M.dat, wipeM, backM, Option.getD_some, Option.getD_none, gAdd, gSub, gMulL, gMulR, gMod, gDiv, gp6, gp12, gp13, gp18, gNeg, fPut, fApp, fPop, fDrop, M.lst?, fAsg, fGT, fGcons, fGN, fGnil, fTup, fLst, fACons, fANil, allD, fCall, fRVal, fRSlot, fRNil, amsOf, putBack, gLen, gTuple, gInt, gMax2, gMin2, Option.bind_some, Option.bind_none, Option.bind_eq_bind, List.getElem?_cons_zero, List.getElem?_cons_succ, List.set_cons_zero, List.set_cons_succ, outM, List.map_cons, List.map_nil, szl, Int.cast_ofNat_Int, if_true, if_false, ite_true, ite_false, Bool.false_eq_true, decide_true, decide_false, Bool.not_true, Bool.not_false, Int.reduceNeg, List.length_map, reduceIte, Nat.reduceLeDiff, Nat.reduceLT, Nat.reduceMul, Int.reduceLE, Int.reduceLT, Int.reduceToNat, Int.toNat_one, Int.toNat_zero, Int.reduceAdd, Int.reduceSub, Int.reduceMul, Int.reducePow, Nat.reducePow, Int.zero_add, Nat.zero_add, Nat.lt_add_one, Int.zero_le_ofNat, Option.some.injEq, reduceCtorEq, Prod.mk.injEq, O.nx.injEq, List.cons.injEq, M.d.injEq, PyData.int.injEq, and_self, true_and, and_true, List.append_assoc, List.mem_cons, List.not_mem_nil, Nat.reduceEqDiff, or_self, or_false, Tp.data, gn, md, c1, em, netD]
        · obtain rfl : b = false := by
            cases b with
            | false => rfl
            | true => exact absurd (hb.mp rfl) h2
          have ps : plStep (stepsL ms) acc t = acc ++ [mtOf t] := by
            unfold plStep
            rw [if_pos ⟨h1, h2⟩]
          rw [ps]
          simp only [B_plain_1, fDef, List.length_cons, List.length_nil, Nat.reduceAdd, Nat.reduceSub, List.replicate, List.cons_append, List.nil_append, fSeq, fIfS, fTst, fTAnd, fTOr, fTNot, fBin, fUn, fIx, fVar, fC, sl, ixd0, ixd1, ixd2, ixd3, ixd4, ixl0, ixl1, ixl2, ixl3, ixl4, ixl5, ixl6, ixl7, ixn0, ixn1, ixn2, gLt, gLe, gGt, gGe, gCmp, gIs, gIsNot, gIsB, M.isNone, M.int, M.bool, fSet, fRet, fRetN, fNx, fNot, fAnd, fOr, fIf, fCp, fMv, M.dat, wipeM, backM, Option.getD_some, Option.getD_none, gAdd, gSub, gMulL, gMulR, gMod, gDiv, gp6, gp12, gp13, gp18, gNeg, fPut, fApp, fPop, fDrop, M.lst?, fAsg, fGT, fGcons, fGN, fGnil, fTup, fLst, fACons, fANil, allD, fCall, fRVal, fRSlot, fRNil, amsOf, putBack, gLen, gTuple, gInt, gMax2, gMin2, Option.bind_some, Option.bind_none, Option.bind_eq_bind, List.getElem?_cons_zero, List.getElem?_cons_succ, List.set_cons_zero, List.set_cons_succ, outM, List.map_cons, List.map_nil, szl, Int.cast_ofNat_Int, if_true, if_false, ite_true, ite_false, Bool.false_eq_true, decide_true, decide_false, Bool.not_true, Bool.not_false, Int.reduceNeg, List.length_map, reduceIte, Nat.reduceLeDiff, Nat.reduceLT, Nat.reduceMul, Int.reduceLE, Int.reduceLT, Int.reduceToNat, Int.toNat_one, Int.toNat_zero, Int.reduceAdd, Int.reduceSub, Int.reduceMul, Int.reducePow, Nat.reducePow, Int.zero_add, Nat.zero_add, Nat.lt_add_one, Int.zero_le_ofNat, Option.some.injEq, reduceCtorEq, Prod.mk.injEq, O.nx.injEq, List.cons.injEq, M.d.injEq, PyData.int.injEq, and_self, true_and, and_true, List.append_assoc, List.mem_cons, List.not_mem_nil, Nat.reduceEqDiff, or_self, or_false, Tp.data, gn, md, c1, em, netD, hal]
          simp [md]
    · exact ⟨_, _, _, _, _, _, _, _, rfl⟩
theorem sp_plain {many : Int} {ms : List Me} (N : okN many ms) : d_plain [some (.d (netD many ms))] = some (.d (netD many (sortM (plAcc (stepsL ms)))), [some (.d (netD many ms))]) := by
  obtain ⟨k3, k4, k5, k6, k7, k8, k9, k10, e⟩ := L_pl N
  have e2 := sp_steps many ms N.len
  simp only [netD, lstD, List.map_nil] at e e2
  simp only [d_plain, b_plain, fDef, List.length_cons, List.length_nil, Nat.reduceAdd, Nat.reduceSub, List.replicate, List.cons_append, List.nil_append, fSeq, fIfS, fTst, fTAnd, fTOr, fTNot, fBin, fUn, fIx, fVar, fC, sl, ixd0, ixd1, ixd2, ixd3, ixd4, ixl0, ixl1, ixl2, ixl3, ixl4, ixl5, ixl6, ixl7, ixn0, ixn1, ixn2, gLt, gLe, gGt, gGe, gCmp, gIs, gIsNot, gIsB, M.isNone, M.int, M.bool, fSet, fRet, fRetN, fNx, fNot, fAnd, fOr, fIf, fCp, fMv, M.dat, wipeM, backM, Option.getD_some, Option.getD_none, gAdd, gSub, gMulL, gMulR, gMod, gDiv, gp6, gp12, gp13, gp18, gNeg, fPut, fApp, fPop, fDrop, M.lst?, fAsg, fGT, fGcons, fGN, fGnil, fTup, fLst, fACons, fANil, allD, fCall, fRVal, fRSlot, fRNil, amsOf, putBack, gLen, gTuple, gInt, gMax2, gMin2, Option.bind_some, Option.bind_none, Option.bind_eq_bind, List.getElem?_cons_zero, List.getElem?_cons_succ, List.set_cons_zero, List.set_cons_succ, outM, List.map_cons, List.map_nil, szl, Int.cast_ofNat_Int, if_true, if_false, ite_true, ite_false, Bool.false_eq_true, decide_true, decide_false, Bool.not_true, Bool.not_false, Int.reduceNeg, List.length_map, reduceIte, Nat.reduceLeDiff, Nat.reduceLT, Nat.reduceMul, Int.reduceLE, Int.reduceLT, Int.reduceToNat, Int.toNat_one, Int.toNat_zero, Int.reduceAdd, Int.reduceSub, Int.reduceMul, Int.reducePow, Nat.reducePow, Int.zero_add, Nat.zero_add, Nat.lt_add_one, Int.zero_le_ofNat, Option.some.injEq, reduceCtorEq, Prod.mk.injEq, O.nx.injEq, List.cons.injEq, M.d.injEq, PyData.int.injEq, and_self, true_and, and_true, List.append_assoc, List.mem_cons, List.not_mem_nil, Nat.reduceEqDiff, or_self, or_false, netD, e, e2, gSorted, allD_map, me_sortOk, sortM_map]
end DL
namespace DL
open L2 PySem.Spec PySem PyProof.Rows

/-! ### the plain form, in plain Lean -/
theorem same4_iff {t u : Tp} : same4 t u = true ↔ t.p = u.p ∧ t.q = u.q ∧ t.s = u.s ∧ t.e = u.e := by
  unfold same4
  simp
theorem mt_same {t u : Tp} : mtOf t = mtOf u ↔ same4 t u = true := by
  rw [same4_iff]
  unfold mtOf
  constructor
  · intro h
    injection h with _ h1 h2 h3 h4
    exact ⟨h1, h2, h3, by omega⟩
  · rintro ⟨h1, h2, h3, h4⟩
    rw [h1, h2, h3, h4]
theorem way_sub {S T : Tp → Prop} (h : ∀ u, S u → ∃ z, z ≤ u.e ∧ Way T u.p u.s u.q z) {p t q z : Int} (w : Way S p t q z) : ∃ z', z' ≤ z ∧ Way T p t q z' := by
  induction w with
  | nil => exact ⟨_, Int.le_refl _, .nil _ _⟩
  | @snoc q0 t' u _ s e l ih =>
    obtain ⟨z0, h0, w0⟩ := ih
    obtain ⟨z1, h1, w1⟩ := h u s
    rw [e] at w1
    obtain ⟨z2, h2, w2⟩ := w0.trans (t'' := u.s) (by omega) w1
    exact ⟨z2, by omega, w2⟩
theorem way_still {S : Tp → Prop} (hS : ∀ u, S u → u.s < u.e) {p t q z : Int} (w : Way S p t q z) (h : z = t) : q = p := by
  cases w with
  | nil => rfl
  | snoc w s _ l =>
    have := w.rise hS
    have := hS _ s
    omega
theorem way_in {S : Tp → Prop} (hS : ∀ u, S u → u.s < u.e) {p t q z : Int} (w : Way S p t q z) : Way (fun u => S u ∧ t ≤ u.s ∧ u.e ≤ z ∧ (u.s = t → u.p = p) ∧ (u.e = z → u.q = q)) p t q z := by
  induction w with
  | nil => exact .nil _ _
  | @snoc q0 t' u w s e l ih =>
    have hr := w.rise hS
    have hu := hS u s
    refine .snoc (ih.mono fun v ⟨a, b, c, d, f⟩ => ⟨a, b, by omega, d, fun z => by omega⟩) ⟨s, by omega, Int.le_refl _, fun z => ?_, fun _ => rfl⟩ e l
    rw [e]
    exact way_still hS w (by omega)
/-- t is not made by the other ones -/
def Pri (ts : List Tp) (t : Tp) : Prop := ¬ Dn (ts.filter fun u => !same4 u t) t
theorem dn_pri {ts : List Tp} (hS : ∀ u ∈ ts, u.s < u.e) : ∀ (d : Nat) (t : Tp), t ∈ ts → (t.e - t.s).toNat ≤ d → ∃ z, z ≤ t.e ∧ Way (fun u => u ∈ ts ∧ Pri ts u) t.p t.s t.q z
  | 0, t, ht, hd => by
    have := hS t ht
    omega
  | d + 1, t, ht, hd => by
    by_cases hp : Pri ts t
    · exact ⟨t.e, Int.le_refl _, .snoc (.nil _ _) ⟨ht, hp⟩ rfl (Int.le_refl _)⟩
    · obtain ⟨z, hz, w⟩ := Classical.not_not.mp hp
      have hlt := hS t ht
      have w2 := way_in (fun u hu => hS u (List.mem_filter.mp hu).1) w
      obtain ⟨z', hz', w3⟩ := way_sub (T := fun u => u ∈ ts ∧ Pri ts u) (fun u ⟨a, b, c, e, f⟩ => by
        obtain ⟨hu, hn⟩ := List.mem_filter.mp a
        have := hS u hu
        refine dn_pri hS d u hu ?_
        by_cases hh : u.s = t.s ∧ u.e = t.e
        · have hs : same4 u t = true := same4_iff.mpr ⟨e hh.1, f (by omega), hh.1, hh.2⟩
          rw [hs] at hn
          cases hn
        · omega) w2
      exact ⟨z', by omega, w3⟩
theorem pri_core {ts us : List Tp} (hT : ∀ u ∈ ts, u.s < u.e) (hU : ∀ u ∈ us, u.s < u.e) (h : ∀ v ∈ us, Dn ts v) {u : Tp} {z : Int} (hz : z ≤ u.e) (w : Way (fun v => v ∈ us ∧ same4 v u = false) u.p u.s u.q z) : Dn (ts.filter fun v => !same4 v u) u := by
  have w2 := way_in (fun v hv => hU v hv.1) w
  obtain ⟨z', hz', w3⟩ := way_sub (T := (· ∈ ts.filter fun v => !same4 v u)) (fun v ⟨⟨a, n⟩, b, c, e, f⟩ => by
    obtain ⟨y, hy, wy⟩ := h v a
    have hv := hU v a
    refine ⟨y, hy, (way_in (fun x hx => hT x hx) wy).mono fun x ⟨xa, xb, xc, _, _⟩ => List.mem_filter.mpr ⟨xa, ?_⟩⟩
    cases hs : same4 x u with
    | false => rfl
    | true =>
      obtain ⟨_, _, e1, e2⟩ := same4_iff.mp hs
      have : same4 v u = true := same4_iff.mpr ⟨e (by omega), f (by omega), by omega, by omega⟩
      rw [this] at n
      cases n) w2
  exact ⟨z', by omega, w3⟩
theorem dn_same {ts : List Tp} {t u : Tp} (h : same4 t u = true) : Dn ts t ↔ Dn ts u := by
  obtain ⟨a, b, c, d⟩ := same4_iff.mp h
  unfold Dn
  rw [a, b, c, d]
theorem same4_comm {t u : Tp} : same4 t u = same4 u t := by
  rw [Bool.eq_iff_iff, same4_iff, same4_iff]
  constructor <;> rintro ⟨a, b, c, d⟩ <;> exact ⟨a.symm, b.symm, c.symm, d.symm⟩
theorem same4_cong {t u v : Tp} (h : same4 t u = true) : same4 v t = same4 v u := by
  obtain ⟨a, b, c, d⟩ := same4_iff.mp h
  unfold same4
  rw [a, b, c, d]
theorem pri_same {ts : List Tp} {t u : Tp} (h : same4 t u = true) : Pri ts t ↔ Pri ts u := by
  unfold Pri
  rw [dn_same h]
  have : (fun v => !same4 v t) = fun v => !same4 v u := funext fun v => by rw [same4_cong h]
  rw [this]
theorem mem_plFold (ts : List Tp) (x : Me) : ∀ (us : List Tp) (acc : List Me), x ∈ us.foldl (plStep ts) acc ↔ x ∈ acc ∨ ∃ t ∈ us, x = mtOf t ∧ Pri ts t
  | [], acc => by simp
  | u :: us, acc => by
    rw [List.foldl_cons, mem_plFold ts x us]
    have : x ∈ plStep ts acc u ↔ x ∈ acc ∨ (x = mtOf u ∧ Pri ts u) := by
      unfold plStep
      split
      · rename_i h
        rw [List.mem_append, List.mem_singleton]
        exact ⟨fun z => z.imp_right fun e => ⟨e, h.2⟩, fun z => z.imp_right fun e => e.1⟩
      · rename_i h
        constructor
        · exact .inl
        · rintro (z | ⟨rfl, hp⟩)
          · exact z
          · exact Classical.byContradiction fun hn => h ⟨hn, hp⟩
    rw [this]
    simp only [List.mem_cons, exists_eq_or_imp, or_assoc]
theorem nodup_plFold (ts : List Tp) : ∀ (us : List Tp) (acc : List Me), acc.Nodup → (us.foldl (plStep ts) acc).Nodup
  | [], _, h => h
  | u :: us, acc, h => by
    rw [List.foldl_cons]
    refine nodup_plFold ts us _ ?_
    unfold plStep
    split
    · rename_i hh
      refine List.nodup_append.mpr ⟨h, by simp, fun a ha b hb => ?_⟩
      rw [List.mem_singleton] at hb
      rw [hb]
      exact fun e => hh.1 (e ▸ ha)
    · exact h
theorem mem_plAcc {ts : List Tp} {x : Me} : x ∈ plAcc ts ↔ ∃ t ∈ ts, x = mtOf t ∧ Pri ts t := by
  unfold plAcc
  rw [mem_plFold]
  simp
theorem toks_me {a b : Me} (h : PySem.W.keyToks a.data = PySem.W.keyToks b.data) : a = b := by
  obtain ⟨b1, p, q, s, l⟩ := a
  obtain ⟨b2, p', q', s', l'⟩ := b
  simp only [Me.data, PySem.W.keyToks, PySem.W.keyToksAll, List.cons_append, List.nil_append, List.cons.injEq, Sum.inr.injEq, Sum.inl.injEq, true_and, and_true] at h
  obtain ⟨h1, rfl, rfl, rfl, rfl⟩ := h
  rw [wd_inj (PySem.W.str_of_cps h1)]
theorem sortM_uniq {as bs : List Me} (ha : as.Nodup) (hb : bs.Nodup) : sortM as = sortM bs ↔ ∀ x, x ∈ as ↔ x ∈ bs := by
  have pa : (sortM as).Perm as := List.mergeSort_perm _ _
  have pb : (sortM bs).Perm bs := List.mergeSort_perm _ _
  constructor
  · intro h x
    rw [← pa.mem_iff, h, pb.mem_iff]
  · intro h
    have srt : ∀ l : List Me, (sortM l).Pairwise fun a b => PySem.W.dataLe false id a.data b.data = true := fun l =>
      List.pairwise_mergeSort (le := fun a b : Me => PySem.W.dataLe false id a.data b.data) (fun a b c => dataLe_tot.1 _ _ _) (fun a b => dataLe_tot.2 _ _) l
    refine List.Perm.eq_of_pairwise (fun a b _ _ h1 h2 => ?_) (srt as) (srt bs) ((pa.trans ((List.perm_ext_iff_of_nodup ha hb).mpr h)).trans pb.symm)
    rw [PySem.W.dataLe_eq] at h1 h2
    simp only [cond_false, Bool.not_eq_true', id] at h1 h2
    exact toks_me (lex_total (O := itemOrd) _ _ h2 h1)
theorem plain_iff {ts us : List Tp} (hT : ∀ u ∈ ts, u.s < u.e) (hU : ∀ u ∈ us, u.s < u.e) : sortM (plAcc ts) = sortM (plAcc us) ↔ (∀ t ∈ ts, Dn us t) ∧ ∀ t ∈ us, Dn ts t := by
  rw [sortM_uniq (as := plAcc ts) (bs := plAcc us) (nodup_plFold ts ts [] .nil) (nodup_plFold us us [] .nil)]
  have back : ∀ {ts us : List Tp}, (∀ u ∈ ts, u.s < u.e) → (∀ x, x ∈ plAcc ts → x ∈ plAcc us) → ∀ t ∈ ts, Dn us t := fun {ts us} hT h t ht => by
    obtain ⟨z, hz, w⟩ := dn_pri hT _ t ht (Nat.le_refl _)
    obtain ⟨z', hz', w'⟩ := way_sub (T := (· ∈ us)) (fun u ⟨hu, hp⟩ => by
      obtain ⟨v, hv, e, _⟩ := mem_plAcc.mp (h (mtOf u) (mem_plAcc.mpr ⟨u, hu, rfl, hp⟩))
      obtain ⟨a, b, c, d⟩ := same4_iff.mp (mt_same.mp e)
      refine ⟨u.e, Int.le_refl _, ?_⟩
      rw [a, b, c, d]
      exact .snoc (.nil _ _) hv rfl (Int.le_refl _)) w
    exact ⟨z', by omega, w'⟩
  have forth : ∀ {ts us : List Tp}, (∀ u ∈ ts, u.s < u.e) → (∀ u ∈ us, u.s < u.e) → (∀ t ∈ ts, Dn us t) → (∀ t ∈ us, Dn ts t) → ∀ x, x ∈ plAcc ts → x ∈ plAcc us := fun {ts us} hT hU h1 h2 x hx => by
    obtain ⟨u, hu, rfl, hp⟩ := mem_plAcc.mp hx
    have ex : ∃ v ∈ us, same4 v u = true := Classical.byContradiction fun hn => by
      obtain ⟨z, hz, w⟩ := h1 u hu
      refine hp (pri_core hT hU h2 hz (w.mono fun v hv => ⟨hv, ?_⟩))
      cases hs : same4 v u with
      | false => rfl
      | true => exact absurd ⟨v, hv, hs⟩ hn
    obtain ⟨v, hv, hs⟩ := ex
    refine mem_plAcc.mpr ⟨v, hv, (mt_same.mpr hs).symm, (pri_same hs).mpr fun hd => ?_⟩
    obtain ⟨z, hz, w⟩ := hd
    refine hp (pri_core hT hU h2 hz (w.mono fun y hy => ?_))
    obtain ⟨a, b⟩ := List.mem_filter.mp hy
    exact ⟨a, by simpa using b⟩
  constructor
  · exact fun h => ⟨back hT fun x => (h x).mp, back hU fun x => (h x).mpr⟩
  · exact fun ⟨h1, h2⟩ x => ⟨forth hT hU h1 h2 x, forth hU hT h2 h1 x⟩
end DL
namespace DL
open L2 PySem.Spec PySem PyProof.Rows

abbrev dI (i : Int) : M := .d (.int i)
def deckM (a b c : Int) : M := .lst [dI a, dI b, dI c]
def Deck (m : M) : Prop := ∃ a b c, m = deckM a b c ∧ 0 ≤ a
theorem Deck.out {m : M} (h : Deck m) {as : List Nat} {j : Nat} {ms ρ : MS} {r : Option M} : outM as j (some m :: ms) (r :: ρ) = (if j ∈ as then none else r) :: outM as (j + 1) ms ρ := by
  obtain ⟨a, b, c, rfl, _⟩ := h
  rfl
theorem sp_draw {m : M} (hm : Deck m) {k : Int} (hk : 0 < k) (hk2 : k < 1073741824) : ∃ r m', Deck m' ∧ 0 ≤ r ∧ r < k ∧ d__law_draw [some m, some (dI k)] = some (dI r, [some m', some (dI k)]) := by
  obtain ⟨a, b, c, rfl, ha⟩ := hm
  by_cases h : 0 < a
  · refine ⟨a % k, deckM (a / k) b c, ⟨_, _, _, rfl, Int.ediv_nonneg ha (by omega)⟩, Int.emod_nonneg _ (by omega), Int.emod_lt_of_pos _ hk, ?_⟩
    simp only [d__law_draw, b__law_draw, deckM, fDef, List.length_cons, List.length_nil, Nat.reduceAdd, Nat.reduceSub, List.replicate, List.cons_append, List.nil_append, fSeq, fIfS, fTst, fTAnd, fTOr, fTNot, fBin, fUn, fIx, fVar, fC, sl, ixd0, ixd1, ixd2, ixd3, ixd4, ixl0, ixl1, ixl2, ixl3, ixl4, ixl5, ixl6, ixl7, ixn0, ixn1, ixn2, gLt, gLe, gGt, gGe, gCmp, gIs, gIsNot, gIsB, M.isNone, M.int, M.bool, fSet, fRet, fRetN, fNx, fNot, fAnd, fOr, fIf, fCp, fMv, M.dat, wipeM, backM, Option.getD_some, Option.getD_none, gAdd, gSub, gMulL, gMulR, gMod, gDiv, gp6, gp12, gp13, gp18, gNeg, fPut, fApp, fPop, fDrop, M.lst?, fAsg, fGT, fGcons, fGN, fGnil, fTup, fLst, fACons, fANil, allD, fCall, fRVal, fRSlot, fRNil, amsOf, putBack, gLen, gTuple, gInt, gMax2, gMin2, Option.bind_some, Option.bind_none, Option.bind_eq_bind, List.getElem?_cons_zero, List.getElem?_cons_succ, List.set_cons_zero, List.set_cons_succ, outM, List.map_cons, List.map_nil, szl, Int.cast_ofNat_Int, if_true, if_false, ite_true, ite_false, Bool.false_eq_true, decide_true, decide_false, Bool.not_true, Bool.not_false, Int.reduceNeg, List.length_map, reduceIte, Nat.reduceLeDiff, Nat.reduceLT, Nat.reduceMul, Int.reduceLE, Int.reduceLT, Int.reduceToNat, Int.toNat_one, Int.toNat_zero, Int.reduceAdd, Int.reduceSub, Int.reduceMul, Int.reducePow, Nat.reducePow, Int.zero_add, Nat.zero_add, Nat.lt_add_one, Int.zero_le_ofNat, Option.some.injEq, reduceCtorEq, Prod.mk.injEq, O.nx.injEq, List.cons.injEq, M.d.injEq, PyData.int.injEq, and_self, true_and, and_true, List.append_assoc, List.mem_cons, List.not_mem_nil, Nat.reduceEqDiff, or_self, or_false, h, hk, hk2]
  · refine ⟨((((b + 65537 * (c + 1) + 101) * 48271 % 2147483647) * ((b + 65537 * (c + 1) + 101) * 48271 % 2147483647) + 69621 * (c + 1) + 11) % 2147483629 * (((((b + 65537 * (c + 1) + 101) * 48271 % 2147483647) * ((b + 65537 * (c + 1) + 101) * 48271 % 2147483647) + 69621 * (c + 1) + 11) % 2147483629)) + 32749) % 2147483587 / 64 % k,
      deckM a b (c + 1), ⟨_, _, _, rfl, ha⟩, Int.emod_nonneg _ (by omega), Int.emod_lt_of_pos _ hk, ?_⟩
    generalize hx : (b + 65537 * (c + 1) + 101) * 48271 % 2147483647 = x
    have hx1 : -18446744073709551616 < x := by omega
    have hx2 : x < 18446744073709551616 := by omega
    generalize hy : (x * x + 69621 * (c + 1) + 11) % 2147483629 = y
    have hy1 : -18446744073709551616 < y := by omega
    have hy2 : y < 18446744073709551616 := by omega
    simp only [d__law_draw, b__law_draw, deckM, fDef, List.length_cons, List.length_nil, Nat.reduceAdd, Nat.reduceSub, List.replicate, List.cons_append, List.nil_append, fSeq, fIfS, fTst, fTAnd, fTOr, fTNot, fBin, fUn, fIx, fVar, fC, sl, ixd0, ixd1, ixd2, ixd3, ixd4, ixl0, ixl1, ixl2, ixl3, ixl4, ixl5, ixl6, ixl7, ixn0, ixn1, ixn2, gLt, gLe, gGt, gGe, gCmp, gIs, gIsNot, gIsB, M.isNone, M.int, M.bool, fSet, fRet, fRetN, fNx, fNot, fAnd, fOr, fIf, fCp, fMv, M.dat, wipeM, backM, Option.getD_some, Option.getD_none, gAdd, gSub, gMulL, gMulR, gMod, gDiv, gp6, gp12, gp13, gp18, gNeg, fPut, fApp, fPop, fDrop, M.lst?, fAsg, fGT, fGcons, fGN, fGnil, fTup, fLst, fACons, fANil, allD, fCall, fRVal, fRSlot, fRNil, amsOf, putBack, gLen, gTuple, gInt, gMax2, gMin2, Option.bind_some, Option.bind_none, Option.bind_eq_bind, List.getElem?_cons_zero, List.getElem?_cons_succ, List.set_cons_zero, List.set_cons_succ, outM, List.map_cons, List.map_nil, szl, Int.cast_ofNat_Int, if_true, if_false, ite_true, ite_false, Bool.false_eq_true, decide_true, decide_false, Bool.not_true, Bool.not_false, Int.reduceNeg, List.length_map, reduceIte, Nat.reduceLeDiff, Nat.reduceLT, Nat.reduceMul, Int.reduceLE, Int.reduceLT, Int.reduceToNat, Int.toNat_one, Int.toNat_zero, Int.reduceAdd, Int.reduceSub, Int.reduceMul, Int.reducePow, Nat.reducePow, Int.zero_add, Nat.zero_add, Nat.lt_add_one, Int.zero_le_ofNat, Option.some.injEq, reduceCtorEq, Prod.mk.injEq, O.nx.injEq, List.cons.injEq, M.d.injEq, PyData.int.injEq, and_self, true_and, and_true, List.append_assoc, List.mem_cons, List.not_mem_nil, Nat.reduceEqDiff, or_self, or_false, h, hk, hk2, hx, hx1, hx2, hy, hy1, hy2]
end DL
namespace DL
open L2 PySem.Spec PySem PyProof.Rows

theorem rangeD_map (lo : Int) (n : Nat) : rangeD lo n = ((List.range n).map fun i : Nat => lo + (i : Int)).map .int := by
  unfold rangeD
  rw [List.map_map]
  rfl
theorem L_far {m : M} (hm : Deck m) (k : Int) : ∃ m' n j, Deck m' ∧ L__law_far_1 [some m, some (dI k), some (dI 0), none] = some (.nx [some m', some (dI k), some (dI n), j]) := by
  have := for_inv (enc := PyData.int) (g := fGN 3) (f := B__law_far_1) (fun _ ρ => ∃ m' n j, Deck m' ∧ ρ = [some m', some (dI k), some (dI n), j]) ((List.range 3).map fun i : Nat => 0 + (i : Int)) [] ?_ _ ⟨m, 0, none, hm, rfl⟩
  · obtain ⟨ρ', e, m', n, j, h, rfl⟩ := this
    refine ⟨m', n, j, h, for_of (ds := rangeD 0 3) ?_ (by rw [rangeD_map]; exact e)⟩
    simp [fR1, fC, M.int]
  · rintro pre i suf _ ρ ⟨m', n, j, h, rfl⟩
    obtain ⟨r, m2, h2, _, _, e⟩ := sp_draw h (k := 1000000) (by omega) (by omega)
    refine ⟨_, [some m2, some (dI k), some (dI (n * 1000000 + r)), some (dI i)], rfl, .inl ?_, m2, _, _, h2, rfl⟩
    simp only [dI] at e
    simp only [B__law_far_1, fDef, List.length_cons, List.length_nil, Nat.reduceAdd, Nat.reduceSub, List.replicate, List.cons_append, List.nil_append, fSeq, fIfS, fTst, fTAnd, fTOr, fTNot, fBin, fUn, fIx, fVar, fC, sl, ixd0, ixd1, ixd2, ixd3, ixd4, ixl0, ixl1, ixl2, ixl3, ixl4, ixl5, ixl6, ixl7, ixn0, ixn1, ixn2, gLt, gLe, gGt, gGe, gCmp, gIs, gIsNot, gIsB, M.isNone, M.int, M.bool, fSet, fRet, fRetN, fNx, fNot, fAnd, fOr, fIf, fCp, fMv, M.dat, wipeM, backM, Option.getD_some, Option.getD_none, gAdd, gSub, gMulL, gMulR, gMod, gDiv, gp6, gp12, gp13, gp18, gNeg, fPut, fApp, fPop, fDrop, M.lst?, fAsg, fGT, fGcons, fGN, fGnil, fTup, fLst, fACons, fANil, allD, fCall, fRVal, fRSlot, fRNil, amsOf, putBack, gLen, gTuple, gInt, gMax2, gMin2, Option.bind_some, Option.bind_none, Option.bind_eq_bind, List.getElem?_cons_zero, List.getElem?_cons_succ, List.set_cons_zero, List.set_cons_succ, outM, List.map_cons, List.map_nil, szl, Int.cast_ofNat_Int, if_true, if_false, ite_true, ite_false, Bool.false_eq_true, decide_true, decide_false, Bool.not_true, Bool.not_false, Int.reduceNeg, List.length_map, reduceIte, Nat.reduceLeDiff, Nat.reduceLT, Nat.reduceMul, Int.reduceLE, Int.reduceLT, Int.reduceToNat, Int.toNat_one, Int.toNat_zero, Int.reduceAdd, Int.reduceSub, Int.reduceMul, Int.reducePow, Nat.reducePow, Int.zero_add, Nat.zero_add, Nat.lt_add_one, Int.zero_le_ofNat, Option.some.injEq, reduceCtorEq, Prod.mk.injEq, O.nx.injEq, List.cons.injEq, M.d.injEq, PyData.int.injEq, and_self, true_and, and_true, List.append_assoc, List.mem_cons, List.not_mem_nil, Nat.reduceEqDiff, Int.reduceEq, Int.reduceMod, Int.reduceDiv, Int.reduceGT, or_self, or_false, e]
theorem sp_far {m : M} (hm : Deck m) {k : Int} (hk : 0 ≤ k) : ∃ r m', Deck m' ∧ 0 ≤ r ∧ r ≤ k ∧ d__law_far [some m, some (dI k)] = some (dI r, [some m', some (dI k)]) := by
  obtain ⟨m', n, j, h, e⟩ := L_far hm k
  have h1 : 0 < k + 1 := by omega
  refine ⟨n % (k + 1), m', h, Int.emod_nonneg _ (by omega), by have := Int.emod_lt_of_pos n h1; omega, ?_⟩
  simp only [dI] at e
  simp only [d__law_far, b__law_far, fDef, List.length_cons, List.length_nil, Nat.reduceAdd, Nat.reduceSub, List.replicate, List.cons_append, List.nil_append, fSeq, fIfS, fTst, fTAnd, fTOr, fTNot, fBin, fUn, fIx, fVar, fC, sl, ixd0, ixd1, ixd2, ixd3, ixd4, ixl0, ixl1, ixl2, ixl3, ixl4, ixl5, ixl6, ixl7, ixn0, ixn1, ixn2, gLt, gLe, gGt, gGe, gCmp, gIs, gIsNot, gIsB, M.isNone, M.int, M.bool, fSet, fRet, fRetN, fNx, fNot, fAnd, fOr, fIf, fCp, fMv, M.dat, wipeM, backM, Option.getD_some, Option.getD_none, gAdd, gSub, gMulL, gMulR, gMod, gDiv, gp6, gp12, gp13, gp18, gNeg, fPut, fApp, fPop, fDrop, M.lst?, fAsg, fGT, fGcons, fGN, fGnil, fTup, fLst, fACons, fANil, allD, fCall, fRVal, fRSlot, fRNil, amsOf, putBack, gLen, gTuple, gInt, gMax2, gMin2, Option.bind_some, Option.bind_none, Option.bind_eq_bind, List.getElem?_cons_zero, List.getElem?_cons_succ, List.set_cons_zero, List.set_cons_succ, outM, List.map_cons, List.map_nil, szl, Int.cast_ofNat_Int, if_true, if_false, ite_true, ite_false, Bool.false_eq_true, decide_true, decide_false, Bool.not_true, Bool.not_false, Int.reduceNeg, List.length_map, reduceIte, Nat.reduceLeDiff, Nat.reduceLT, Nat.reduceMul, Int.reduceLE, Int.reduceLT, Int.reduceToNat, Int.toNat_one, Int.toNat_zero, Int.reduceAdd, Int.reduceSub, Int.reduceMul, Int.reducePow, Nat.reducePow, Int.zero_add, Nat.zero_add, Nat.lt_add_one, Int.zero_le_ofNat, Option.some.injEq, reduceCtorEq, Prod.mk.injEq, O.nx.injEq, List.cons.injEq, M.d.injEq, PyData.int.injEq, and_self, true_and, and_true, List.append_assoc, List.mem_cons, List.not_mem_nil, Nat.reduceEqDiff, Int.reduceEq, Int.reduceMod, Int.reduceDiv, Int.reduceGT, or_self, or_false, e, h1, hm.out]
theorem gNe_nil (ms : List Me) : gNe (.lst ((ms.map Me.data).map M.d)) (.lst []) = some (.d (.bool (!ms.isEmpty))) := by
  letI : Decidable (PyData.list (ms.map Me.data) = .list []) := if h : ms = [] then isTrue (by rw [h]; rfl) else isFalse (by simpa using h)
  rw [gNe_ok (m := .lst ((ms.map Me.data).map M.d)) (n := .lst []) (d := .list (ms.map Me.data)) (e := .list []) (by simp only [M.py, pyAll_map, Option.bind_some]) (by simp [M.py, pyAll]) (mes_okE ms).1 (by simpa using (mes_okE []).1)]
  cases ms with
  | nil => simp
  | cons x r => simp
theorem gEq_nil (ms : List Me) : gEq (.lst ((ms.map Me.data).map M.d)) (.lst []) = some (.d (.bool ms.isEmpty)) := by
  letI : Decidable (PyData.list (ms.map Me.data) = .list []) := if h : ms = [] then isTrue (by rw [h]; rfl) else isFalse (by simpa using h)
  rw [gEq_ok (m := .lst ((ms.map Me.data).map M.d)) (n := .lst []) (d := .list (ms.map Me.data)) (e := .list []) (by simp only [M.py, pyAll_map, Option.bind_some]) (by simp [M.py, pyAll]) (mes_okE ms).1 (by simpa using (mes_okE []).1)]
  cases ms with
  | nil => simp
  | cons x r => simp
theorem gIx_M {ms : List Me} {i : Int} (h0 : 0 ≤ i) (h1 : i < (ms.length : Int)) : ∃ x, ms[i.toNat]? = some x ∧ gIx (.lst ((ms.map Me.data).map M.d)) i = some (.d x.data) := by
  have hi : i.toNat < ms.length := by omega
  refine ⟨ms[i.toNat], List.getElem?_eq_getElem hi, ?_⟩
  simp only [gIx, atI, ixN, List.length_map, if_pos h0, if_pos h1, Option.bind_some, List.getElem?_map, List.getElem?_eq_getElem hi, Option.map_some]
/-- rows of a net of so many places -/
def okM (many : Int) (m : Me) : Prop := 0 ≤ m.p ∧ m.p < many ∧ 0 ≤ m.q ∧ m.q < many ∧ m.p ≠ m.q ∧ 0 ≤ m.s ∧ 1 ≤ m.l
theorem sp_begin {m : M} (hm : Deck m) (way : Int) {ms : List Me} (hl : ms.length ≤ 1000) : ∃ r m', Deck m' ∧ 0 ≤ r ∧ d__law_begin [some m, some (dI way), some (.lst ((ms.map Me.data).map M.d))] = some (dI r, [some m', some (dI way), some (.lst ((ms.map Me.data).map M.d))]) := by
  obtain ⟨near, m1, d1, n0, n1, e1⟩ := sp_draw hm (k := 31) (by omega) (by omega)
  simp only [dI] at e1 ⊢
  by_cases w3 : way = 3
  · obtain ⟨r, m2, d2, r0, r1, e2⟩ := sp_draw d1 (k := 2) (by omega) (by omega)
    simp only [dI] at e2
    refine ⟨5 * r, m2, d2, by omega, ?_⟩
    simp only [d__law_begin, b__law_begin, fDef, List.length_cons, List.length_nil, Nat.reduceAdd, Nat.reduceSub, List.replicate, List.cons_append, List.nil_append, fSeq, fIfS, fTst, fTAnd, fTOr, fTNot, fBin, fUn, fIx, fVar, fC, sl, ixd0, ixd1, ixd2, ixd3, ixd4, ixl0, ixl1, ixl2, ixl3, ixl4, ixl5, ixl6, ixl7, ixn0, ixn1, ixn2, gLt, gLe, gGt, gGe, gCmp, gIs, gIsNot, gIsB, M.isNone, M.int, M.bool, fSet, fRet, fRetN, fNx, fNot, fAnd, fOr, fIf, fCp, fMv, M.dat, wipeM, backM, Option.getD_some, Option.getD_none, gAdd, gSub, gMulL, gMulR, gMod, gDiv, gp6, gp12, gp13, gp18, gNeg, fPut, fApp, fPop, fDrop, M.lst?, fAsg, fGT, fGcons, fGN, fGnil, fTup, fLst, fACons, fANil, allD, fCall, fRVal, fRSlot, fRNil, amsOf, putBack, gLen, gTuple, gInt, gMax2, gMin2, Option.bind_some, Option.bind_none, Option.bind_eq_bind, List.getElem?_cons_zero, List.getElem?_cons_succ, List.set_cons_zero, List.set_cons_succ, outM, List.map_cons, List.map_nil, szl, Int.cast_ofNat_Int, if_true, if_false, ite_true, ite_false, Bool.false_eq_true, decide_true, decide_false, Bool.not_true, Bool.not_false, Int.reduceNeg, List.length_map, reduceIte, Nat.reduceLeDiff, Nat.reduceLT, Nat.reduceMul, Int.reduceLE, Int.reduceLT, Int.reduceToNat, Int.toNat_one, Int.toNat_zero, Int.reduceAdd, Int.reduceSub, Int.reduceMul, Int.reducePow, Nat.reducePow, Int.zero_add, Nat.zero_add, Nat.lt_add_one, Int.zero_le_ofNat, Option.some.injEq, reduceCtorEq, Prod.mk.injEq, O.nx.injEq, List.cons.injEq, M.d.injEq, PyData.int.injEq, and_self, true_and, and_true, List.append_assoc, List.mem_cons, List.not_mem_nil, Nat.reduceEqDiff, Int.reduceEq, Int.reduceMod, Int.reduceDiv, Int.reduceGT, or_self, or_false, e1, gEq_int, w3, e2, hm.out]
  · by_cases hc : ms ≠ [] ∧ (way = 2 ∨ (way = 1 ∧ near % 3 > 0))
    · obtain ⟨hne, hw⟩ := hc
      have hp : 0 < ms.length := List.length_pos_iff.mpr hne
      have he : ms.isEmpty = false := by simpa using hne
      have en := gNe_nil ms
      rw [he] at en
      obtain ⟨i, m2, d2, i0, i1, e2⟩ := sp_draw d1 (k := (ms.length : Int)) (by omega) (by omega)
      simp only [dI] at e2
      obtain ⟨r, m3, d3, r0, r1, e3⟩ := sp_draw d2 (k := 3) (by omega) (by omega)
      simp only [dI] at e3
      rcases hw with w2 | ⟨w1, hn⟩
      · obtain ⟨x, _, ex⟩ := gIx_M (ms := ms) (i := (ms.length : Int) - 1) (by omega) (by omega)
        refine ⟨if x.s + x.l - 0 + r > 0 then x.s + x.l - 0 + r else 0, m3, d3, by split <;> omega, ?_⟩
        simp only [d__law_begin, b__law_begin, fDef, List.length_cons, List.length_nil, Nat.reduceAdd, Nat.reduceSub, List.replicate, List.cons_append, List.nil_append, fSeq, fIfS, fTst, fTAnd, fTOr, fTNot, fBin, fUn, fIx, fVar, fC, sl, ixd0, ixd1, ixd2, ixd3, ixd4, ixl0, ixl1, ixl2, ixl3, ixl4, ixl5, ixl6, ixl7, ixn0, ixn1, ixn2, gLt, gLe, gGt, gGe, gCmp, gIs, gIsNot, gIsB, M.isNone, M.int, M.bool, fSet, fRet, fRetN, fNx, fNot, fAnd, fOr, fIf, fCp, fMv, M.dat, wipeM, backM, Option.getD_some, Option.getD_none, gAdd, gSub, gMulL, gMulR, gMod, gDiv, gp6, gp12, gp13, gp18, gNeg, fPut, fApp, fPop, fDrop, M.lst?, fAsg, fGT, fGcons, fGN, fGnil, fTup, fLst, fACons, fANil, allD, fCall, fRVal, fRSlot, fRNil, amsOf, putBack, gLen, gTuple, gInt, gMax2, gMin2, Option.bind_some, Option.bind_none, Option.bind_eq_bind, List.getElem?_cons_zero, List.getElem?_cons_succ, List.set_cons_zero, List.set_cons_succ, outM, List.map_cons, List.map_nil, szl, Int.cast_ofNat_Int, if_true, if_false, ite_true, ite_false, Bool.false_eq_true, decide_true, decide_false, Bool.not_true, Bool.not_false, Int.reduceNeg, List.length_map, reduceIte, Nat.reduceLeDiff, Nat.reduceLT, Nat.reduceMul, Int.reduceLE, Int.reduceLT, Int.reduceToNat, Int.toNat_one, Int.toNat_zero, Int.reduceAdd, Int.reduceSub, Int.reduceMul, Int.reducePow, Nat.reducePow, Int.zero_add, Nat.zero_add, Nat.lt_add_one, Int.zero_le_ofNat, Option.some.injEq, reduceCtorEq, Prod.mk.injEq, O.nx.injEq, List.cons.injEq, M.d.injEq, PyData.int.injEq, and_self, true_and, and_true, List.append_assoc, List.mem_cons, List.not_mem_nil, Nat.reduceEqDiff, Int.reduceEq, Int.reduceMod, Int.reduceDiv, Int.reduceGT, or_self, or_false, e1, gEq_int, w2, e2, en, ex, Me.data, e3, hm.out]
      · obtain ⟨x, _, ex⟩ := gIx_M (ms := ms) (i := i) i0 i1
        refine ⟨if x.s + x.l - 1 + r > 0 then x.s + x.l - 1 + r else 0, m3, d3, by split <;> omega, ?_⟩
        have hn' : 0 < near % 3 := hn
        simp only [d__law_begin, b__law_begin, fDef, List.length_cons, List.length_nil, Nat.reduceAdd, Nat.reduceSub, List.replicate, List.cons_append, List.nil_append, fSeq, fIfS, fTst, fTAnd, fTOr, fTNot, fBin, fUn, fIx, fVar, fC, sl, ixd0, ixd1, ixd2, ixd3, ixd4, ixl0, ixl1, ixl2, ixl3, ixl4, ixl5, ixl6, ixl7, ixn0, ixn1, ixn2, gLt, gLe, gGt, gGe, gCmp, gIs, gIsNot, gIsB, M.isNone, M.int, M.bool, fSet, fRet, fRetN, fNx, fNot, fAnd, fOr, fIf, fCp, fMv, M.dat, wipeM, backM, Option.getD_some, Option.getD_none, gAdd, gSub, gMulL, gMulR, gMod, gDiv, gp6, gp12, gp13, gp18, gNeg, fPut, fApp, fPop, fDrop, M.lst?, fAsg, fGT, fGcons, fGN, fGnil, fTup, fLst, fACons, fANil, allD, fCall, fRVal, fRSlot, fRNil, amsOf, putBack, gLen, gTuple, gInt, gMax2, gMin2, Option.bind_some, Option.bind_none, Option.bind_eq_bind, List.getElem?_cons_zero, List.getElem?_cons_succ, List.set_cons_zero, List.set_cons_succ, outM, List.map_cons, List.map_nil, szl, Int.cast_ofNat_Int, if_true, if_false, ite_true, ite_false, Bool.false_eq_true, decide_true, decide_false, Bool.not_true, Bool.not_false, Int.reduceNeg, List.length_map, reduceIte, Nat.reduceLeDiff, Nat.reduceLT, Nat.reduceMul, Int.reduceLE, Int.reduceLT, Int.reduceToNat, Int.toNat_one, Int.toNat_zero, Int.reduceAdd, Int.reduceSub, Int.reduceMul, Int.reducePow, Nat.reducePow, Int.zero_add, Nat.zero_add, Nat.lt_add_one, Int.zero_le_ofNat, Option.some.injEq, reduceCtorEq, Prod.mk.injEq, O.nx.injEq, List.cons.injEq, M.d.injEq, PyData.int.injEq, and_self, true_and, and_true, List.append_assoc, List.mem_cons, List.not_mem_nil, Nat.reduceEqDiff, Int.reduceEq, Int.reduceMod, Int.reduceDiv, Int.reduceGT, or_self, or_false, e1, gEq_int, w1, e2, en, ex, Me.data, e3, hm.out, hn']
    · refine ⟨near, m1, d1, n0, ?_⟩
      have en := gNe_nil ms
      by_cases hne : ms = []
      · rw [show ms.isEmpty = true from by simp [hne]] at en
        simp only [d__law_begin, b__law_begin, fDef, List.length_cons, List.length_nil, Nat.reduceAdd, Nat.reduceSub, List.replicate, List.cons_append, List.nil_append, fSeq, fIfS, fTst, fTAnd, fTOr, fTNot, fBin, fUn, fIx, fVar, fC, sl, ixd0, ixd1, ixd2, ixd3, ixd4, ixl0, ixl1, ixl2, ixl3, ixl4, ixl5, ixl6, ixl7, ixn0, ixn1, ixn2, gLt, gLe, gGt, gGe, gCmp, gIs, gIsNot, gIsB, M.isNone, M.int, M.bool, fSet, fRet, fRetN, fNx, fNot, fAnd, fOr, fIf, fCp, fMv, M.dat, wipeM, backM, Option.getD_some, Option.getD_none, gAdd, gSub, gMulL, gMulR, gMod, gDiv, gp6, gp12, gp13, gp18, gNeg, fPut, fApp, fPop, fDrop, M.lst?, fAsg, fGT, fGcons, fGN, fGnil, fTup, fLst, fACons, fANil, allD, fCall, fRVal, fRSlot, fRNil, amsOf, putBack, gLen, gTuple, gInt, gMax2, gMin2, Option.bind_some, Option.bind_none, Option.bind_eq_bind, List.getElem?_cons_zero, List.getElem?_cons_succ, List.set_cons_zero, List.set_cons_succ, outM, List.map_cons, List.map_nil, szl, Int.cast_ofNat_Int, if_true, if_false, ite_true, ite_false, Bool.false_eq_true, decide_true, decide_false, Bool.not_true, Bool.not_false, Int.reduceNeg, List.length_map, reduceIte, Nat.reduceLeDiff, Nat.reduceLT, Nat.reduceMul, Int.reduceLE, Int.reduceLT, Int.reduceToNat, Int.toNat_one, Int.toNat_zero, Int.reduceAdd, Int.reduceSub, Int.reduceMul, Int.reducePow, Nat.reducePow, Int.zero_add, Nat.zero_add, Nat.lt_add_one, Int.zero_le_ofNat, Option.some.injEq, reduceCtorEq, Prod.mk.injEq, O.nx.injEq, List.cons.injEq, M.d.injEq, PyData.int.injEq, and_self, true_and, and_true, List.append_assoc, List.mem_cons, List.not_mem_nil, Nat.reduceEqDiff, Int.reduceEq, Int.reduceMod, Int.reduceDiv, Int.reduceGT, or_self, or_false, e1, gEq_int, w3, en, hm.out]
      · rw [show ms.isEmpty = false from by simpa using hne] at en
        have w2 : ¬ way = 2 := fun z => hc ⟨hne, .inl z⟩
        by_cases w1 : way = 1
        · have hn : ¬ 0 < near % 3 := fun z => hc ⟨hne, .inr ⟨w1, z⟩⟩
          simp only [d__law_begin, b__law_begin, fDef, List.length_cons, List.length_nil, Nat.reduceAdd, Nat.reduceSub, List.replicate, List.cons_append, List.nil_append, fSeq, fIfS, fTst, fTAnd, fTOr, fTNot, fBin, fUn, fIx, fVar, fC, sl, ixd0, ixd1, ixd2, ixd3, ixd4, ixl0, ixl1, ixl2, ixl3, ixl4, ixl5, ixl6, ixl7, ixn0, ixn1, ixn2, gLt, gLe, gGt, gGe, gCmp, gIs, gIsNot, gIsB, M.isNone, M.int, M.bool, fSet, fRet, fRetN, fNx, fNot, fAnd, fOr, fIf, fCp, fMv, M.dat, wipeM, backM, Option.getD_some, Option.getD_none, gAdd, gSub, gMulL, gMulR, gMod, gDiv, gp6, gp12, gp13, gp18, gNeg, fPut, fApp, fPop, fDrop, M.lst?, fAsg, fGT, fGcons, fGN, fGnil, fTup, fLst, fACons, fANil, allD, fCall, fRVal, fRSlot, fRNil, amsOf, putBack, gLen, gTuple, gInt, gMax2, gMin2, Option.bind_some, Option.bind_none, Option.bind_eq_bind, List.getElem?_cons_zero, List.getElem?_cons_succ, List.set_cons_zero, List.set_cons_succ, outM, List.map_cons, List.map_nil, szl, Int.cast_ofNat_Int, if_true, if_false, ite_true, ite_false, Bool.false_eq_true, decide_true, decide_false, Bool.not_true, Bool.not_false, Int.reduceNeg, List.length_map, reduceIte, Nat.reduceLeDiff, Nat.reduceLT, Nat.reduceMul, Int.reduceLE, Int.reduceLT, Int.reduceToNat, Int.toNat_one, Int.toNat_zero, Int.reduceAdd, Int.reduceSub, Int.reduceMul, Int.reducePow, Nat.reducePow, Int.zero_add, Nat.zero_add, Nat.lt_add_one, Int.zero_le_ofNat, Option.some.injEq, reduceCtorEq, Prod.mk.injEq, O.nx.injEq, List.cons.injEq, M.d.injEq, PyData.int.injEq, and_self, true_and, and_true, List.append_assoc, List.mem_cons, List.not_mem_nil, Nat.reduceEqDiff, Int.reduceEq, Int.reduceMod, Int.reduceDiv, Int.reduceGT, or_self, or_false, e1, gEq_int, w1, en, hn, hm.out]
        · simp only [d__law_begin, b__law_begin, fDef, List.length_cons, List.length_nil, Nat.reduceAdd, Nat.reduceSub, List.replicate, List.cons_append, List.nil_append, fSeq, fIfS, fTst, fTAnd, fTOr, fTNot, fBin, fUn, fIx, fVar, fC, sl, ixd0, ixd1, ixd2, ixd3, ixd4, ixl0, ixl1, ixl2, ixl3, ixl4, ixl5, ixl6, ixl7, ixn0, ixn1, ixn2, gLt, gLe, gGt, gGe, gCmp, gIs, gIsNot, gIsB, M.isNone, M.int, M.bool, fSet, fRet, fRetN, fNx, fNot, fAnd, fOr, fIf, fCp, fMv, M.dat, wipeM, backM, Option.getD_some, Option.getD_none, gAdd, gSub, gMulL, gMulR, gMod, gDiv, gp6, gp12, gp13, gp18, gNeg, fPut, fApp, fPop, fDrop, M.lst?, fAsg, fGT, fGcons, fGN, fGnil, fTup, fLst, fACons, fANil, allD, fCall, fRVal, fRSlot, fRNil, amsOf, putBack, gLen, gTuple, gInt, gMax2, gMin2, Option.bind_some, Option.bind_none, Option.bind_eq_bind, List.getElem?_cons_zero, List.getElem?_cons_succ, List.set_cons_zero, List.set_cons_succ, outM, List.map_cons, List.map_nil, szl, Int.cast_ofNat_Int, if_true, if_false, ite_true, ite_false, Bool.false_eq_true, decide_true, decide_false, Bool.not_true, Bool.not_false, Int.reduceNeg, List.length_map, reduceIte, Nat.reduceLeDiff, Nat.reduceLT, Nat.reduceMul, Int.reduceLE, Int.reduceLT, Int.reduceToNat, Int.toNat_one, Int.toNat_zero, Int.reduceAdd, Int.reduceSub, Int.reduceMul, Int.reducePow, Nat.reducePow, Int.zero_add, Nat.zero_add, Nat.lt_add_one, Int.zero_le_ofNat, Option.some.injEq, reduceCtorEq, Prod.mk.injEq, O.nx.injEq, List.cons.injEq, M.d.injEq, PyData.int.injEq, and_self, true_and, and_true, List.append_assoc, List.mem_cons, List.not_mem_nil, Nat.reduceEqDiff, Int.reduceEq, Int.reduceMod, Int.reduceDiv, Int.reduceGT, or_self, or_false, e1, gEq_int, w1, w2, w3, en, hm.out]
theorem mod_ne {a k n : Int} (h0 : 0 ≤ a) (h1 : a < n) (h2 : 1 ≤ k) (h3 : k < n) : 0 ≤ (a + k) % n ∧ (a + k) % n < n ∧ a ≠ (a + k) % n := by
  refine ⟨Int.emod_nonneg _ (by omega), Int.emod_lt_of_pos _ (by omega), ?_⟩
  by_cases h : a + k < n
  · rw [Int.emod_eq_of_lt (by omega) h]
    omega
  · have : (a + k) % n = a + k - n := by
      rw [← Int.sub_emod_right, Int.emod_eq_of_lt (by omega) (by omega)]
    rw [this]
    omega
end DL
namespace DL
open L2 PySem.Spec PySem PyProof.Rows

theorem ix_lastM {ms : List Me} (h : ms ≠ []) : ∃ x ∈ ms, gIx (.lst ((ms.map Me.data).map M.d)) (-1) = some (.d x.data) := by
  have hp : 0 < ms.length := List.length_pos_iff.mpr h
  refine ⟨ms[ms.length - 1], List.getElem_mem _, ?_⟩
  have i : ixN ms.length (-1) = some (ms.length - 1) := by
    unfold ixN
    rw [if_neg (by omega), if_pos (by omega)]
    congr 1
    omega
  simp only [gIx, atI, List.length_map, i, Option.bind_some, List.getElem?_map, List.getElem?_eq_getElem (show ms.length - 1 < ms.length by omega), Option.map_some]
/-- the end of a meeting: its word, its places, begin and duration -/
theorem sp_meet2 {m : M} (hm : Deck m) (way many : Int) {ms : List Me} (hl : ms.length ≤ 1000) (h2 : 2 ≤ many) (h3 : many ≤ 1000) (hok : ∀ x ∈ ms, okM many x) : ∃ x m', Deck m' ∧ okM many x ∧
    d__law_meeting [some m, some (dI way), some (dI many), some (.lst ((ms.map Me.data).map M.d))] = some (.d x.data, [some m', some (dI way), some (dI many), some (.lst ((ms.map Me.data).map M.d))]) := by
  simp only [dI]
  have en := gNe_nil ms
  -- the first test
  have first : (∃ x m', Deck m' ∧ x ∈ ms ∧ way = 5 ∧ d__law_meeting [some m, some (dI way), some (dI many), some (.lst ((ms.map Me.data).map M.d))] = some (.d x.data, [some m', some (dI way), some (dI many), some (.lst ((ms.map Me.data).map M.d))])) ∨
      ∃ m1, Deck m1 ∧ fIfS (fTAnd (fTst (fBin gEq (fVar 1) (fC (.int 5)))) (fTAnd (fTst (fBin gNe (fVar 3) (fLst (fANil)))) (fTst (fBin gEq (fCall [some 0, none] d__law_draw (fRSlot 0 (fRVal (fC (.int 3)) (fRNil)))) (fC (.int 0)))))) (fRet (fCp (fIx (fVar 3) (fCall [some 0, none] d__law_draw (fRSlot 0 (fRVal (fUn gLen (fVar 3)) (fRNil))))))) (fNx)
        [some m, some (dI way), some (dI many), some (.lst ((ms.map Me.data).map M.d)), none, none, none, none, none, none] = some (.nx [some m1, some (dI way), some (dI many), some (.lst ((ms.map Me.data).map M.d)), none, none, none, none, none, none]) := by
    simp only [dI]
    by_cases w5 : way = 5
    · by_cases hne : ms = []
      · rw [show ms.isEmpty = true from by simp [hne]] at en
        refine .inr ⟨m, hm, ?_⟩
        simp only [fDef, List.length_cons, List.length_nil, Nat.reduceAdd, Nat.reduceSub, List.replicate, List.cons_append, List.nil_append, fSeq, fIfS, fTst, fTAnd, fTOr, fTNot, fBin, fUn, fIx, fVar, fC, sl, ixd0, ixd1, ixd2, ixd3, ixd4, ixl0, ixl1, ixl2, ixl3, ixl4, ixl5, ixl6, ixl7, ixn0, ixn1, ixn2, gLt, gLe, gGt, gGe, gCmp, gIs, gIsNot, gIsB, M.isNone, M.int, M.bool, fSet, fRet, fRetN, fNx, fNot, fAnd, fOr, fIf, fCp, fMv, M.dat, wipeM, backM, Option.getD_some, Option.getD_none, gAdd, gSub, gMulL, gMulR, gMod, gDiv, gp6, gp12, gp13, gp18, gNeg, fPut, fApp, fPop, fDrop, M.lst?, fAsg, fGT, fGcons, fGN, fGnil, fTup, fLst, fACons, fANil, allD, fCall, fRVal, fRSlot, fRNil, amsOf, putBack, gLen, gTuple, gInt, gMax2, gMin2, Option.bind_some, Option.bind_none, Option.bind_eq_bind, List.getElem?_cons_zero, List.getElem?_cons_succ, List.set_cons_zero, List.set_cons_succ, outM, List.map_cons, List.map_nil, szl, Int.cast_ofNat_Int, if_true, if_false, ite_true, ite_false, Bool.false_eq_true, decide_true, decide_false, Bool.not_true, Bool.not_false, Int.reduceNeg, List.length_map, reduceIte, Nat.reduceLeDiff, Nat.reduceLT, Nat.reduceMul, Int.reduceLE, Int.reduceLT, Int.reduceToNat, Int.toNat_one, Int.toNat_zero, Int.reduceAdd, Int.reduceSub, Int.reduceMul, Int.reducePow, Nat.reducePow, Int.zero_add, Nat.zero_add, Nat.lt_add_one, Int.zero_le_ofNat, Option.some.injEq, reduceCtorEq, Prod.mk.injEq, O.nx.injEq, List.cons.injEq, M.d.injEq, PyData.int.injEq, and_self, true_and, and_true, List.append_assoc, List.mem_cons, List.not_mem_nil, Nat.reduceEqDiff, Int.reduceEq, Int.reduceMod, Int.reduceDiv, Int.reduceGT, or_self, or_false, gEq_int, w5, en]
      · rw [show ms.isEmpty = false from by simpa using hne] at en
        have hp : 0 < ms.length := List.length_pos_iff.mpr hne
        obtain ⟨r, m1, d1, r0, r1, e1⟩ := sp_draw hm (k := 3) (by omega) (by omega)
        simp only [dI] at e1
        by_cases hr : r = 0
        · subst hr
          obtain ⟨i, m2, d2, i0, i1, e2⟩ := sp_draw d1 (k := (ms.length : Int)) (by omega) (by omega)
          simp only [dI] at e2
          obtain ⟨x, hx, ex⟩ := gIx_M i0 i1
          refine .inl ⟨x, m2, d2, List.mem_of_getElem? hx, w5, ?_⟩
          simp only [d__law_meeting, b__law_meeting, fDef, List.length_cons, List.length_nil, Nat.reduceAdd, Nat.reduceSub, List.replicate, List.cons_append, List.nil_append, fSeq, fIfS, fTst, fTAnd, fTOr, fTNot, fBin, fUn, fIx, fVar, fC, sl, ixd0, ixd1, ixd2, ixd3, ixd4, ixl0, ixl1, ixl2, ixl3, ixl4, ixl5, ixl6, ixl7, ixn0, ixn1, ixn2, gLt, gLe, gGt, gGe, gCmp, gIs, gIsNot, gIsB, M.isNone, M.int, M.bool, fSet, fRet, fRetN, fNx, fNot, fAnd, fOr, fIf, fCp, fMv, M.dat, wipeM, backM, Option.getD_some, Option.getD_none, gAdd, gSub, gMulL, gMulR, gMod, gDiv, gp6, gp12, gp13, gp18, gNeg, fPut, fApp, fPop, fDrop, M.lst?, fAsg, fGT, fGcons, fGN, fGnil, fTup, fLst, fACons, fANil, allD, fCall, fRVal, fRSlot, fRNil, amsOf, putBack, gLen, gTuple, gInt, gMax2, gMin2, Option.bind_some, Option.bind_none, Option.bind_eq_bind, List.getElem?_cons_zero, List.getElem?_cons_succ, List.set_cons_zero, List.set_cons_succ, outM, List.map_cons, List.map_nil, szl, Int.cast_ofNat_Int, if_true, if_false, ite_true, ite_false, Bool.false_eq_true, decide_true, decide_false, Bool.not_true, Bool.not_false, Int.reduceNeg, List.length_map, reduceIte, Nat.reduceLeDiff, Nat.reduceLT, Nat.reduceMul, Int.reduceLE, Int.reduceLT, Int.reduceToNat, Int.toNat_one, Int.toNat_zero, Int.reduceAdd, Int.reduceSub, Int.reduceMul, Int.reducePow, Nat.reducePow, Int.zero_add, Nat.zero_add, Nat.lt_add_one, Int.zero_le_ofNat, Option.some.injEq, reduceCtorEq, Prod.mk.injEq, O.nx.injEq, List.cons.injEq, M.d.injEq, PyData.int.injEq, and_self, true_and, and_true, List.append_assoc, List.mem_cons, List.not_mem_nil, Nat.reduceEqDiff, Int.reduceEq, Int.reduceMod, Int.reduceDiv, Int.reduceGT, or_self, or_false, gEq_int, w5, en, e1, e2, ex, hm.out]
        · refine .inr ⟨m1, d1, ?_⟩
          simp only [fDef, List.length_cons, List.length_nil, Nat.reduceAdd, Nat.reduceSub, List.replicate, List.cons_append, List.nil_append, fSeq, fIfS, fTst, fTAnd, fTOr, fTNot, fBin, fUn, fIx, fVar, fC, sl, ixd0, ixd1, ixd2, ixd3, ixd4, ixl0, ixl1, ixl2, ixl3, ixl4, ixl5, ixl6, ixl7, ixn0, ixn1, ixn2, gLt, gLe, gGt, gGe, gCmp, gIs, gIsNot, gIsB, M.isNone, M.int, M.bool, fSet, fRet, fRetN, fNx, fNot, fAnd, fOr, fIf, fCp, fMv, M.dat, wipeM, backM, Option.getD_some, Option.getD_none, gAdd, gSub, gMulL, gMulR, gMod, gDiv, gp6, gp12, gp13, gp18, gNeg, fPut, fApp, fPop, fDrop, M.lst?, fAsg, fGT, fGcons, fGN, fGnil, fTup, fLst, fACons, fANil, allD, fCall, fRVal, fRSlot, fRNil, amsOf, putBack, gLen, gTuple, gInt, gMax2, gMin2, Option.bind_some, Option.bind_none, Option.bind_eq_bind, List.getElem?_cons_zero, List.getElem?_cons_succ, List.set_cons_zero, List.set_cons_succ, outM, List.map_cons, List.map_nil, szl, Int.cast_ofNat_Int, if_true, if_false, ite_true, ite_false, Bool.false_eq_true, decide_true, decide_false, Bool.not_true, Bool.not_false, Int.reduceNeg, List.length_map, reduceIte, Nat.reduceLeDiff, Nat.reduceLT, Nat.reduceMul, Int.reduceLE, Int.reduceLT, Int.reduceToNat, Int.toNat_one, Int.toNat_zero, Int.reduceAdd, Int.reduceSub, Int.reduceMul, Int.reducePow, Nat.reducePow, Int.zero_add, Nat.zero_add, Nat.lt_add_one, Int.zero_le_ofNat, Option.some.injEq, reduceCtorEq, Prod.mk.injEq, O.nx.injEq, List.cons.injEq, M.d.injEq, PyData.int.injEq, and_self, true_and, and_true, List.append_assoc, List.mem_cons, List.not_mem_nil, Nat.reduceEqDiff, Int.reduceEq, Int.reduceMod, Int.reduceDiv, Int.reduceGT, or_self, or_false, gEq_int, w5, en, e1, hr]
    · refine .inr ⟨m, hm, ?_⟩
      simp only [fDef, List.length_cons, List.length_nil, Nat.reduceAdd, Nat.reduceSub, List.replicate, List.cons_append, List.nil_append, fSeq, fIfS, fTst, fTAnd, fTOr, fTNot, fBin, fUn, fIx, fVar, fC, sl, ixd0, ixd1, ixd2, ixd3, ixd4, ixl0, ixl1, ixl2, ixl3, ixl4, ixl5, ixl6, ixl7, ixn0, ixn1, ixn2, gLt, gLe, gGt, gGe, gCmp, gIs, gIsNot, gIsB, M.isNone, M.int, M.bool, fSet, fRet, fRetN, fNx, fNot, fAnd, fOr, fIf, fCp, fMv, M.dat, wipeM, backM, Option.getD_some, Option.getD_none, gAdd, gSub, gMulL, gMulR, gMod, gDiv, gp6, gp12, gp13, gp18, gNeg, fPut, fApp, fPop, fDrop, M.lst?, fAsg, fGT, fGcons, fGN, fGnil, fTup, fLst, fACons, fANil, allD, fCall, fRVal, fRSlot, fRNil, amsOf, putBack, gLen, gTuple, gInt, gMax2, gMin2, Option.bind_some, Option.bind_none, Option.bind_eq_bind, List.getElem?_cons_zero, List.getElem?_cons_succ, List.set_cons_zero, List.set_cons_succ, outM, List.map_cons, List.map_nil, szl, Int.cast_ofNat_Int, if_true, if_false, ite_true, ite_false, Bool.false_eq_true, decide_true, decide_false, Bool.not_true, Bool.not_false, Int.reduceNeg, List.length_map, reduceIte, Nat.reduceLeDiff, Nat.reduceLT, Nat.reduceMul, Int.reduceLE, Int.reduceLT, Int.reduceToNat, Int.toNat_one, Int.toNat_zero, Int.reduceAdd, Int.reduceSub, Int.reduceMul, Int.reducePow, Nat.reducePow, Int.zero_add, Nat.zero_add, Nat.lt_add_one, Int.zero_le_ofNat, Option.some.injEq, reduceCtorEq, Prod.mk.injEq, O.nx.injEq, List.cons.injEq, M.d.injEq, PyData.int.injEq, and_self, true_and, and_true, List.append_assoc, List.mem_cons, List.not_mem_nil, Nat.reduceEqDiff, Int.reduceEq, Int.reduceMod, Int.reduceDiv, Int.reduceGT, or_self, or_false, gEq_int, w5]
  simp only [dI] at first
  rcases first with ⟨x, m', d, hx, _, e⟩ | ⟨m1, d1, e1⟩
  · exact ⟨x, m', d, hok x hx, e⟩
  · obtain ⟨one0, m2, d2, o0, o1, e2⟩ := sp_draw d1 (k := many) (by omega) (by omega)
    simp only [dI] at e2
    -- the place from which
    have second : ∃ one, 0 ≤ one ∧ one < many ∧ fIfS (fTAnd (fTst (fBin gEq (fVar 1) (fC (.int 2)))) (fTst (fBin gNe (fVar 3) (fLst (fANil))))) (fSet 4 (fCp (fIx (fIx (fVar 3) (fUn gNeg (fC (.int 1)))) (fC (.int 2))))) (fNx)
        [some m2, some (.d (.int way)), some (.d (.int many)), some (.lst ((ms.map Me.data).map M.d)), some (.d (.int one0)), none, none, none, none, none] = some (.nx [some m2, some (.d (.int way)), some (.d (.int many)), some (.lst ((ms.map Me.data).map M.d)), some (.d (.int one)), none, none, none, none, none]) := by
      by_cases w2 : way = 2
      · by_cases hne : ms = []
        · rw [show ms.isEmpty = true from by simp [hne]] at en
          exact ⟨one0, o0, o1, by simp only [fDef, List.length_cons, List.length_nil, Nat.reduceAdd, Nat.reduceSub, List.replicate, List.cons_append, List.nil_append, fSeq, fIfS, fTst, fTAnd, fTOr, fTNot, fBin, fUn, fIx, fVar, fC, sl, ixd0, ixd1, ixd2, ixd3, ixd4, ixl0, ixl1, ixl2, ixl3, ixl4, ixl5, ixl6, ixl7, ixn0, ixn1, ixn2, gLt, gLe, gGt, gGe, gCmp, gIs, gIsNot, gIsB, M.isNone, M.int, M.bool, fSet, fRet, fRetN, fNx, fNot, fAnd, fOr, fIf, fCp, fMv, M.dat, wipeM, backM, Option.getD_some, Option.getD_none, gAdd, gSub, gMulL, gMulR, gMod, gDiv, gp6, gp12, gp13, gp18, gNeg, fPut, fApp, fPop, fDrop, M.lst?, fAsg, fGT, fGcons, fGN, fGnil, fTup, fLst, fACons, fANil, allD, fCall, fRVal, fRSlot, fRNil, amsOf, putBack, gLen, gTuple, gInt, gMax2, gMin2, Option.bind_some, Option.bind_none, Option.bind_eq_bind, List.getElem?_cons_zero, List.getElem?_cons_succ, List.set_cons_zero, List.set_cons_succ, outM, List.map_cons, List.map_nil, szl, Int.cast_ofNat_Int, if_true, if_false, ite_true, ite_false, Bool.false_eq_true, decide_true, decide_false, Bool.not_true, Bool.not_false, Int.reduceNeg, List.length_map, reduceIte, Nat.reduceLeDiff, Nat.reduceLT, Nat.reduceMul, Int.reduceLE, Int.reduceLT, Int.reduceToNat, Int.toNat_one, Int.toNat_zero, Int.reduceAdd, Int.reduceSub, Int.reduceMul, Int.reducePow, Nat.reducePow, Int.zero_add, Nat.zero_add, Nat.lt_add_one, Int.zero_le_ofNat, Option.some.injEq, reduceCtorEq, Prod.mk.injEq, O.nx.injEq, List.cons.injEq, M.d.injEq, PyData.int.injEq, and_self, true_and, and_true, List.append_assoc, List.mem_cons, List.not_mem_nil, Nat.reduceEqDiff, Int.reduceEq, Int.reduceMod, Int.reduceDiv, Int.reduceGT, or_self, or_false, gEq_int, w2, en]⟩
        · rw [show ms.isEmpty = false from by simpa using hne] at en
          obtain ⟨x, hx, ex⟩ := ix_lastM hne
          have ok := hok x hx
          exact ⟨x.q, ok.2.2.1, ok.2.2.2.1, by simp only [fDef, List.length_cons, List.length_nil, Nat.reduceAdd, Nat.reduceSub, List.replicate, List.cons_append, List.nil_append, fSeq, fIfS, fTst, fTAnd, fTOr, fTNot, fBin, fUn, fIx, fVar, fC, sl, ixd0, ixd1, ixd2, ixd3, ixd4, ixl0, ixl1, ixl2, ixl3, ixl4, ixl5, ixl6, ixl7, ixn0, ixn1, ixn2, gLt, gLe, gGt, gGe, gCmp, gIs, gIsNot, gIsB, M.isNone, M.int, M.bool, fSet, fRet, fRetN, fNx, fNot, fAnd, fOr, fIf, fCp, fMv, M.dat, wipeM, backM, Option.getD_some, Option.getD_none, gAdd, gSub, gMulL, gMulR, gMod, gDiv, gp6, gp12, gp13, gp18, gNeg, fPut, fApp, fPop, fDrop, M.lst?, fAsg, fGT, fGcons, fGN, fGnil, fTup, fLst, fACons, fANil, allD, fCall, fRVal, fRSlot, fRNil, amsOf, putBack, gLen, gTuple, gInt, gMax2, gMin2, Option.bind_some, Option.bind_none, Option.bind_eq_bind, List.getElem?_cons_zero, List.getElem?_cons_succ, List.set_cons_zero, List.set_cons_succ, outM, List.map_cons, List.map_nil, szl, Int.cast_ofNat_Int, if_true, if_false, ite_true, ite_false, Bool.false_eq_true, decide_true, decide_false, Bool.not_true, Bool.not_false, Int.reduceNeg, List.length_map, reduceIte, Nat.reduceLeDiff, Nat.reduceLT, Nat.reduceMul, Int.reduceLE, Int.reduceLT, Int.reduceToNat, Int.toNat_one, Int.toNat_zero, Int.reduceAdd, Int.reduceSub, Int.reduceMul, Int.reducePow, Nat.reducePow, Int.zero_add, Nat.zero_add, Nat.lt_add_one, Int.zero_le_ofNat, Option.some.injEq, reduceCtorEq, Prod.mk.injEq, O.nx.injEq, List.cons.injEq, M.d.injEq, PyData.int.injEq, and_self, true_and, and_true, List.append_assoc, List.mem_cons, List.not_mem_nil, Nat.reduceEqDiff, Int.reduceEq, Int.reduceMod, Int.reduceDiv, Int.reduceGT, or_self, or_false, gEq_int, w2, en, ex, Me.data]⟩
      · exact ⟨one0, o0, o1, by simp only [fDef, List.length_cons, List.length_nil, Nat.reduceAdd, Nat.reduceSub, List.replicate, List.cons_append, List.nil_append, fSeq, fIfS, fTst, fTAnd, fTOr, fTNot, fBin, fUn, fIx, fVar, fC, sl, ixd0, ixd1, ixd2, ixd3, ixd4, ixl0, ixl1, ixl2, ixl3, ixl4, ixl5, ixl6, ixl7, ixn0, ixn1, ixn2, gLt, gLe, gGt, gGe, gCmp, gIs, gIsNot, gIsB, M.isNone, M.int, M.bool, fSet, fRet, fRetN, fNx, fNot, fAnd, fOr, fIf, fCp, fMv, M.dat, wipeM, backM, Option.getD_some, Option.getD_none, gAdd, gSub, gMulL, gMulR, gMod, gDiv, gp6, gp12, gp13, gp18, gNeg, fPut, fApp, fPop, fDrop, M.lst?, fAsg, fGT, fGcons, fGN, fGnil, fTup, fLst, fACons, fANil, allD, fCall, fRVal, fRSlot, fRNil, amsOf, putBack, gLen, gTuple, gInt, gMax2, gMin2, Option.bind_some, Option.bind_none, Option.bind_eq_bind, List.getElem?_cons_zero, List.getElem?_cons_succ, List.set_cons_zero, List.set_cons_succ, outM, List.map_cons, List.map_nil, szl, Int.cast_ofNat_Int, if_true, if_false, ite_true, ite_false, Bool.false_eq_true, decide_true, decide_false, Bool.not_true, Bool.not_false, Int.reduceNeg, List.length_map, reduceIte, Nat.reduceLeDiff, Nat.reduceLT, Nat.reduceMul, Int.reduceLE, Int.reduceLT, Int.reduceToNat, Int.toNat_one, Int.toNat_zero, Int.reduceAdd, Int.reduceSub, Int.reduceMul, Int.reducePow, Nat.reducePow, Int.zero_add, Nat.zero_add, Nat.lt_add_one, Int.zero_le_ofNat, Option.some.injEq, reduceCtorEq, Prod.mk.injEq, O.nx.injEq, List.cons.injEq, M.d.injEq, PyData.int.injEq, and_self, true_and, and_true, List.append_assoc, List.mem_cons, List.not_mem_nil, Nat.reduceEqDiff, Int.reduceEq, Int.reduceMod, Int.reduceDiv, Int.reduceGT, or_self, or_false, gEq_int, w2]⟩
    obtain ⟨one, p0, p1, e3⟩ := second
    have s2 : fSet 4 (fCall [some 0, none] d__law_draw (fRSlot 0 (fRVal (fCp (fVar 2)) (fRNil)))) [some m1, some (.d (.int way)), some (.d (.int many)), some (.lst ((ms.map Me.data).map M.d)), none, none, none, none, none, none] =
        some (.nx [some m2, some (.d (.int way)), some (.d (.int many)), some (.lst ((ms.map Me.data).map M.d)), some (.d (.int one0)), none, none, none, none, none]) := by simp only [fDef, List.length_cons, List.length_nil, Nat.reduceAdd, Nat.reduceSub, List.replicate, List.cons_append, List.nil_append, fSeq, fIfS, fTst, fTAnd, fTOr, fTNot, fBin, fUn, fIx, fVar, fC, sl, ixd0, ixd1, ixd2, ixd3, ixd4, ixl0, ixl1, ixl2, ixl3, ixl4, ixl5, ixl6, ixl7, ixn0, ixn1, ixn2, gLt, gLe, gGt, gGe, gCmp, gIs, gIsNot, gIsB, M.isNone, M.int, M.bool, fSet, fRet, fRetN, fNx, fNot, fAnd, fOr, fIf, fCp, fMv, M.dat, wipeM, backM, Option.getD_some, Option.getD_none, gAdd, gSub, gMulL, gMulR, gMod, gDiv, gp6, gp12, gp13, gp18, gNeg, fPut, fApp, fPop, fDrop, M.lst?, fAsg, fGT, fGcons, fGN, fGnil, fTup, fLst, fACons, fANil, allD, fCall, fRVal, fRSlot, fRNil, amsOf, putBack, gLen, gTuple, gInt, gMax2, gMin2, Option.bind_some, Option.bind_none, Option.bind_eq_bind, List.getElem?_cons_zero, List.getElem?_cons_succ, List.set_cons_zero, List.set_cons_succ, outM, List.map_cons, List.map_nil, szl, Int.cast_ofNat_Int, if_true, if_false, ite_true, ite_false, Bool.false_eq_true, decide_true, decide_false, Bool.not_true, Bool.not_false, Int.reduceNeg, List.length_map, reduceIte, Nat.reduceLeDiff, Nat.reduceLT, Nat.reduceMul, Int.reduceLE, Int.reduceLT, Int.reduceToNat, Int.toNat_one, Int.toNat_zero, Int.reduceAdd, Int.reduceSub, Int.reduceMul, Int.reducePow, Nat.reducePow, Int.zero_add, Nat.zero_add, Nat.lt_add_one, Int.zero_le_ofNat, Option.some.injEq, reduceCtorEq, Prod.mk.injEq, O.nx.injEq, List.cons.injEq, M.d.injEq, PyData.int.injEq, and_self, true_and, and_true, List.append_assoc, List.mem_cons, List.not_mem_nil, Nat.reduceEqDiff, Int.reduceEq, Int.reduceMod, Int.reduceDiv, Int.reduceGT, or_self, or_false, e2]
    obtain ⟨k, m3, d3, k0, k1, e4⟩ := sp_draw d2 (k := many - 1) (by omega) (by omega)
    obtain ⟨q0, q1, q2⟩ := mod_ne p0 p1 (k := k + 1) (by omega) (by omega)
    have ea : one + 1 + k = one + (k + 1) := by omega
    have hmany : 0 < many := by omega
    obtain ⟨w, m4, d4, w0, w1, e5⟩ := sp_draw d3 (k := 2) (by omega) (by omega)
    obtain ⟨bg, m5, d5, b0, e6⟩ := sp_begin d4 way hl
    obtain ⟨lo, m6, d6, l0, l1, e7⟩ := sp_draw d5 (k := if way = 3 then 2 else 8) (by split <;> omega) (by split <;> omega)
    obtain ⟨wb, hwb⟩ : ∃ wb : Bool, gIx (.lst [.d (.str "to"), .d (.str "both")]) w = some (.d (.str (wordD wb))) := by
      obtain rfl | rfl : w = 0 ∨ w = 1 := by omega
      · exact ⟨false, ixl0⟩
      · exact ⟨true, ixl1⟩
    have e8 : gIx (.lst [.d (.int 8), .d (.int 2)]) (if decide (way = 3) = true then 1 else 0) = some (.d (.int (if way = 3 then 2 else 8))) := by
      by_cases w3 : way = 3
      · simp only [w3, decide_true, if_true]
        exact ixl1
      · simp only [w3, decide_false, Bool.false_eq_true, if_false]
        exact ixl0
    simp only [dI] at e4 e5 e6 e7
    have hq : (one + 1 + k) % many = (one + (k + 1)) % many := by rw [ea]
    generalize (one + (k + 1)) % many = q at q0 q1 q2 hq
    by_cases w4 : way = 4
    · obtain ⟨f, m7, d7, f0, f1, e9⟩ := sp_draw d6 (k := 3) (by omega) (by omega)
      obtain ⟨g1, m8, d8, g10, _, e10⟩ := sp_far d7 (k := 9999999999940) (by omega)
      obtain ⟨g2, m9, d9, g20, _, e11⟩ := sp_far d8 (k := 5000000000000) (by omega)
      obtain ⟨g3, m10, d10, g30, _, e12⟩ := sp_far d9 (k := 9999999999900) (by omega)
      obtain ⟨g4, m11, d11, g40, _, e13⟩ := sp_far d10 (k := 4999999999900) (by omega)
      simp only [dI] at e9 e10 e11 e12 e13
      obtain ⟨s, hs0, hs⟩ : ∃ s, 0 ≤ s ∧ gIx (.lst [.d (.int g1), .d (.int bg), .d (.int g2)]) f = some (.d (.int s)) := by
        obtain rfl | rfl | rfl : f = 0 ∨ f = 1 ∨ f = 2 := by omega
        · exact ⟨g1, g10, ixl0⟩
        · exact ⟨bg, b0, ixl1⟩
        · exact ⟨g2, g20, ixl2⟩
      obtain ⟨l, hl0, hl⟩ : ∃ l, 1 ≤ l ∧ gIx (.lst [.d (.int (1 + lo)), .d (.int (1 + g3)), .d (.int (1 + g4))]) f = some (.d (.int l)) := by
        obtain rfl | rfl | rfl : f = 0 ∨ f = 1 ∨ f = 2 := by omega
        · exact ⟨_, by omega, ixl0⟩
        · exact ⟨_, by omega, ixl1⟩
        · exact ⟨_, by omega, ixl2⟩
      refine ⟨⟨wb, one, q, s, l⟩, m11, d11, ⟨p0, p1, q0, q1, q2, hs0, hl0⟩, ?_⟩
      have q4 : decide (way = 4) = true := decide_eq_true w4
      simp only [d__law_meeting, b__law_meeting, fSeq, fDef, List.length_cons, List.length_nil, Nat.reduceAdd, Nat.reduceSub, List.replicate, List.cons_append, List.nil_append, if_true, e1, s2, e3, Option.bind_some]
      simp only [fDef, List.length_cons, List.length_nil, Nat.reduceAdd, Nat.reduceSub, List.replicate, List.cons_append, List.nil_append, fSeq, fIfS, fTst, fTAnd, fTOr, fTNot, fBin, fUn, fIx, fVar, fC, sl, ixd0, ixd1, ixd2, ixd3, ixd4, ixl0, ixl1, ixl2, ixl3, ixl4, ixl5, ixl6, ixl7, ixn0, ixn1, ixn2, gLt, gLe, gGt, gGe, gCmp, gIs, gIsNot, gIsB, M.isNone, M.int, M.bool, fSet, fRet, fRetN, fNx, fNot, fAnd, fOr, fIf, fCp, fMv, M.dat, wipeM, backM, Option.getD_some, Option.getD_none, gAdd, gSub, gMulL, gMulR, gMod, gDiv, gp6, gp12, gp13, gp18, gNeg, fPut, fApp, fPop, fDrop, M.lst?, fAsg, fGT, fGcons, fGN, fGnil, fTup, fLst, fACons, fANil, allD, fCall, fRVal, fRSlot, fRNil, amsOf, putBack, gLen, gTuple, gInt, gMax2, gMin2, Option.bind_some, Option.bind_none, Option.bind_eq_bind, List.getElem?_cons_zero, List.getElem?_cons_succ, List.set_cons_zero, List.set_cons_succ, outM, List.map_cons, List.map_nil, szl, Int.cast_ofNat_Int, if_true, if_false, ite_true, ite_false, Bool.false_eq_true, decide_true, decide_false, Bool.not_true, Bool.not_false, Int.reduceNeg, List.length_map, reduceIte, Nat.reduceLeDiff, Nat.reduceLT, Nat.reduceMul, Int.reduceLE, Int.reduceLT, Int.reduceToNat, Int.toNat_one, Int.toNat_zero, Int.reduceAdd, Int.reduceSub, Int.reduceMul, Int.reducePow, Nat.reducePow, Int.zero_add, Nat.zero_add, Nat.lt_add_one, Int.zero_le_ofNat, Option.some.injEq, reduceCtorEq, Prod.mk.injEq, O.nx.injEq, List.cons.injEq, M.d.injEq, PyData.int.injEq, and_self, true_and, and_true, List.append_assoc, List.mem_cons, List.not_mem_nil, Nat.reduceEqDiff, Int.reduceEq, Int.reduceMod, Int.reduceDiv, Int.reduceGT, or_self, or_false, gEq_int, e4, hmany, hq, e5, hwb, e6, e8, e7, q4, e9, e10, e11, e12, e13, hs, hl, Me.data, hm.out]
    · refine ⟨⟨wb, one, q, bg, 1 + lo⟩, m6, d6, ⟨p0, p1, q0, q1, q2, b0, by simp only; omega⟩, ?_⟩
      simp only [d__law_meeting, b__law_meeting, fSeq, fDef, List.length_cons, List.length_nil, Nat.reduceAdd, Nat.reduceSub, List.replicate, List.cons_append, List.nil_append, if_true, e1, s2, e3, Option.bind_some]
      simp only [fDef, List.length_cons, List.length_nil, Nat.reduceAdd, Nat.reduceSub, List.replicate, List.cons_append, List.nil_append, fSeq, fIfS, fTst, fTAnd, fTOr, fTNot, fBin, fUn, fIx, fVar, fC, sl, ixd0, ixd1, ixd2, ixd3, ixd4, ixl0, ixl1, ixl2, ixl3, ixl4, ixl5, ixl6, ixl7, ixn0, ixn1, ixn2, gLt, gLe, gGt, gGe, gCmp, gIs, gIsNot, gIsB, M.isNone, M.int, M.bool, fSet, fRet, fRetN, fNx, fNot, fAnd, fOr, fIf, fCp, fMv, M.dat, wipeM, backM, Option.getD_some, Option.getD_none, gAdd, gSub, gMulL, gMulR, gMod, gDiv, gp6, gp12, gp13, gp18, gNeg, fPut, fApp, fPop, fDrop, M.lst?, fAsg, fGT, fGcons, fGN, fGnil, fTup, fLst, fACons, fANil, allD, fCall, fRVal, fRSlot, fRNil, amsOf, putBack, gLen, gTuple, gInt, gMax2, gMin2, Option.bind_some, Option.bind_none, Option.bind_eq_bind, List.getElem?_cons_zero, List.getElem?_cons_succ, List.set_cons_zero, List.set_cons_succ, outM, List.map_cons, List.map_nil, szl, Int.cast_ofNat_Int, if_true, if_false, ite_true, ite_false, Bool.false_eq_true, decide_true, decide_false, Bool.not_true, Bool.not_false, Int.reduceNeg, List.length_map, reduceIte, Nat.reduceLeDiff, Nat.reduceLT, Nat.reduceMul, Int.reduceLE, Int.reduceLT, Int.reduceToNat, Int.toNat_one, Int.toNat_zero, Int.reduceAdd, Int.reduceSub, Int.reduceMul, Int.reducePow, Nat.reducePow, Int.zero_add, Nat.zero_add, Nat.lt_add_one, Int.zero_le_ofNat, Option.some.injEq, reduceCtorEq, Prod.mk.injEq, O.nx.injEq, List.cons.injEq, M.d.injEq, PyData.int.injEq, and_self, true_and, and_true, List.append_assoc, List.mem_cons, List.not_mem_nil, Nat.reduceEqDiff, Int.reduceEq, Int.reduceMod, Int.reduceDiv, Int.reduceGT, or_self, or_false, gEq_int, e4, hmany, hq, e5, hwb, e6, e8, e7, w4, Me.data, hm.out]
end DL
namespace DL
open L2 PySem.Spec PySem PyProof.Rows

theorem gInt_b (b : Bool) : gInt (.d (.bool b)) = some (.d (.int (if b = true then 1 else 0))) := rfl
theorem app_m (ms : List Me) (x : Me) : (ms.map Me.data).map M.d ++ [M.d x.data] = ((ms ++ [x]).map Me.data).map M.d := by simp
theorem L_net {m : M} (hm : Deck m) {way great many count : Int} {l : Option M} (h2 : 2 ≤ many) (h3 : many ≤ 1000) (c0 : 0 ≤ count) (c1 : count ≤ 40) :
    ∃ (m' : M) (ms : List Me) (j : Option M), Deck m' ∧ (∀ x ∈ ms, okM many x) ∧ ms.length ≤ 40 ∧ L__law_net_1 [some m, l, some (dI way), some (dI great), some (dI many), some (dI count), some (.lst []), none] =
      some (.nx [some m', l, some (dI way), some (dI great), some (dI many), some (dI count), some (.lst ((ms.map Me.data).map M.d)), j]) := by
  have := for_inv (enc := PyData.int) (g := fGN 7) (f := B__law_net_1)
    (fun pre ρ => ∃ (m' : M) (ms : List Me) (j : Option M), Deck m' ∧ (∀ x ∈ ms, okM many x) ∧ ms.length = pre.length ∧ ρ = [some m', l, some (dI way), some (dI great), some (dI many), some (dI count), some (.lst ((ms.map Me.data).map M.d)), j])
    ((List.range count.toNat).map fun i : Nat => 0 + (i : Int)) [] ?_ _ ⟨m, [], none, hm, by simp, rfl, rfl⟩
  · obtain ⟨ρ', e, m', ms, j, h, ok, hl, rfl⟩ := this
    refine ⟨m', ms, j, h, ok, ?_, for_of (ds := rangeD 0 count.toNat) ?_ (by rw [rangeD_map]; exact e)⟩
    · simp at hl
      omega
    · have m1 : decide (1 < many) = true := decide_eq_true (by omega)
      have b1 : -4611686018427387904 ≤ count := by omega
      have b2 : count < 4611686018427387904 := by omega
      simp only [fR1, fDef, List.length_cons, List.length_nil, Nat.reduceAdd, Nat.reduceSub, List.replicate, List.cons_append, List.nil_append, fSeq, fIfS, fTst, fTAnd, fTOr, fTNot, fBin, fUn, fIx, fVar, fC, sl, ixd0, ixd1, ixd2, ixd3, ixd4, ixl0, ixl1, ixl2, ixl3, ixl4, ixl5, ixl6, ixl7, ixn0, ixn1, ixn2, gLt, gLe, gGt, gGe, gCmp, gIs, gIsNot, gIsB, M.isNone, M.int, M.bool, fSet, fRet, fRetN, fNx, fNot, fAnd, fOr, fIf, fCp, fMv, M.dat, wipeM, backM, Option.getD_some, Option.getD_none, gAdd, gSub, gMulL, gMulR, gMod, gDiv, gp6, gp12, gp13, gp18, gNeg, fPut, fApp, fPop, fDrop, M.lst?, fAsg, fGT, fGcons, fGN, fGnil, fTup, fLst, fACons, fANil, allD, fCall, fRVal, fRSlot, fRNil, amsOf, putBack, gLen, gTuple, gInt, gMax2, gMin2, Option.bind_some, Option.bind_none, Option.bind_eq_bind, List.getElem?_cons_zero, List.getElem?_cons_succ, List.set_cons_zero, List.set_cons_succ, outM, List.map_cons, List.map_nil, szl, Int.cast_ofNat_Int, if_true, if_false, ite_true, ite_false, Bool.false_eq_true, decide_true, decide_false, Bool.not_true, Bool.not_false, Int.reduceNeg, List.length_map, reduceIte, Nat.reduceLeDiff, Nat.reduceLT, Nat.reduceMul, Int.reduceLE, Int.reduceLT, Int.reduceToNat, Int.toNat_one, Int.toNat_zero, Int.reduceAdd, Int.reduceSub, Int.reduceMul, Int.reducePow, Nat.reducePow, Int.zero_add, Nat.zero_add, Nat.lt_add_one, Int.zero_le_ofNat, Option.some.injEq, reduceCtorEq, Prod.mk.injEq, O.nx.injEq, List.cons.injEq, M.d.injEq, PyData.int.injEq, and_self, true_and, and_true, List.append_assoc, List.mem_cons, List.not_mem_nil, Nat.reduceEqDiff, Int.reduceEq, Int.reduceMod, Int.reduceDiv, Int.reduceGT, or_self, or_false, m1, b1, b2, Int.mul_one]
  · rintro pre i suf e ρ ⟨m', ms, j, h, ok, hl, rfl⟩
    have hlen : pre.length < 1000 := by
      have := congrArg List.length e
      simp at this
      omega
    obtain ⟨x, m2, d2, okx, em⟩ := sp_meet2 h way many (ms := ms) (by omega) h2 h3 ok
    simp only [dI] at em
    have hz : ms.length < 16777216 := by omega
    refine ⟨_, [some m2, l, some (dI way), some (dI great), some (dI many), some (dI count), some (.lst (((ms ++ [x]).map Me.data).map M.d)), some (.d (.int i))], rfl, .inl ?_, m2, ms ++ [x], _, d2, ?_, by simp [hl], rfl⟩
    · simp only [B__law_net_1, fDef, List.length_cons, List.length_nil, Nat.reduceAdd, Nat.reduceSub, List.replicate, List.cons_append, List.nil_append, fSeq, fIfS, fTst, fTAnd, fTOr, fTNot, fBin, fUn, fIx, fVar, fC, sl, ixd0, ixd1, ixd2, ixd3, ixd4, ixl0, ixl1, ixl2, ixl3, ixl4, ixl5, ixl6, ixl7, ixn0, ixn1, ixn2, gLt, gLe, gGt, gGe, gCmp, gIs, gIsNot, gIsB, M.isNone, M.int, M.bool, fSet, fRet, fRetN, fNx, fNot, fAnd, fOr, fIf, fCp, fMv, M.dat, wipeM, backM, Option.getD_some, Option.getD_none, gAdd, gSub, gMulL, gMulR, gMod, gDiv, gp6, gp12, gp13, gp18, gNeg, fPut, fApp, fPop, fDrop, M.lst?, fAsg, fGT, fGcons, fGN, fGnil, fTup, fLst, fACons, fANil, allD, fCall, fRVal, fRSlot, fRNil, amsOf, putBack, gLen, gTuple, gInt, gMax2, gMin2, Option.bind_some, Option.bind_none, Option.bind_eq_bind, List.getElem?_cons_zero, List.getElem?_cons_succ, List.set_cons_zero, List.set_cons_succ, outM, List.map_cons, List.map_nil, szl, Int.cast_ofNat_Int, if_true, if_false, ite_true, ite_false, Bool.false_eq_true, decide_true, decide_false, Bool.not_true, Bool.not_false, Int.reduceNeg, List.length_map, reduceIte, Nat.reduceLeDiff, Nat.reduceLT, Nat.reduceMul, Int.reduceLE, Int.reduceLT, Int.reduceToNat, Int.toNat_one, Int.toNat_zero, Int.reduceAdd, Int.reduceSub, Int.reduceMul, Int.reducePow, Nat.reducePow, Int.zero_add, Nat.zero_add, Nat.lt_add_one, Int.zero_le_ofNat, Option.some.injEq, reduceCtorEq, Prod.mk.injEq, O.nx.injEq, List.cons.injEq, M.d.injEq, PyData.int.injEq, and_self, true_and, and_true, List.append_assoc, List.mem_cons, List.not_mem_nil, Nat.reduceEqDiff, Int.reduceEq, Int.reduceMod, Int.reduceDiv, Int.reduceGT, or_self, or_false, em, hz]
      simp only [app_m]
    · intro y hy
      rcases List.mem_append.mp hy with hy | hy
      · exact ok y hy
      · rw [List.mem_singleton.mp hy]
        exact okx
theorem okN_of {many : Int} {ms : List Me} (h1 : 1 ≤ many) (h2 : many ≤ 1000) (hl : ms.length ≤ 1000) (ok : ∀ x ∈ ms, okM many x) : okN many ms := ⟨h1, h2, hl, ok⟩
theorem sp_net {m : M} (hm : Deck m) : ∃ m' many ms, Deck m' ∧ 2 ≤ many ∧ okN many ms ∧ ms.length ≤ 40 ∧ d__law_net [some m, some (dI 2)] = some (.d (netD many ms), [some m', some (dI 2)]) := by
  obtain ⟨r1, m1, d1, r10, r11, e1⟩ := sp_draw hm (k := 8) (by omega) (by omega)
  obtain ⟨r2, m2, d2, r20, r21, e2⟩ := sp_draw d1 (k := 8) (by omega) (by omega)
  obtain ⟨r3, m3, d3, r30, r31, e3⟩ := sp_draw d2 (k := 5) (by omega) (by omega)
  obtain ⟨r4, m4, d4, r40, r41, e4⟩ := sp_draw d3 (k := 13) (by omega) (by omega)
  obtain ⟨r5, m5, d5, r50, r51, e5⟩ := sp_draw d4 (k := 9) (by omega) (by omega)
  simp only [dI] at e1 e2 e3 e4 e5
  obtain ⟨way, hway⟩ : ∃ way, gIx (.lst [.d (.int 0), .d (.int 1), .d (.int 2), .d (.int 3), .d (.int 4), .d (.int 5), .d (.int 1), .d (.int 2)]) r1 = some (.d (.int way)) := by
    obtain rfl | rfl | rfl | rfl | rfl | rfl | rfl | rfl : r1 = 0 ∨ r1 = 1 ∨ r1 = 2 ∨ r1 = 3 ∨ r1 = 4 ∨ r1 = 5 ∨ r1 = 6 ∨ r1 = 7 := by omega
    · exact ⟨_, ixl0⟩
    · exact ⟨_, ixl1⟩
    · exact ⟨_, ixl2⟩
    · exact ⟨_, ixl3⟩
    · exact ⟨_, ixl4⟩
    · exact ⟨_, ixl5⟩
    · exact ⟨_, ixl6⟩
    · exact ⟨_, ixl7⟩
  obtain ⟨great, hg⟩ : ∃ great : Int, great = if decide (r2 = 5) = true then 1 else 0 := ⟨_, rfl⟩
  obtain ⟨many, hm2, hm10, hmany⟩ : ∃ many : Int, 2 ≤ many ∧ many ≤ 10 ∧ gIx (.lst [.d (.int (2 + r3)), .d (.int 10)]) great = some (.d (.int many)) := by
    by_cases h : r2 = 5
    · exact ⟨10, by omega, by omega, by rw [hg]; simp only [h, decide_true, if_true]; exact ixl1⟩
    · exact ⟨2 + r3, by omega, by omega, by rw [hg]; simp only [h, decide_false, Bool.false_eq_true, if_false]; exact ixl0⟩
  obtain ⟨count, hc0, hc1, hcount⟩ : ∃ count : Int, 0 ≤ count ∧ count ≤ 40 ∧ gIx (.lst [.d (.int r4), .d (.int (40 - r5))]) great = some (.d (.int count)) := by
    by_cases h : r2 = 5
    · exact ⟨40 - r5, by omega, by omega, by rw [hg]; simp only [h, decide_true, if_true]; exact ixl1⟩
    · exact ⟨r4, by omega, by omega, by rw [hg]; simp only [h, decide_false, Bool.false_eq_true, if_false]; exact ixl0⟩
  obtain ⟨m', ms, j, h', ok, hl, eL⟩ := L_net (way := way) (great := great) (l := some (dI 2)) d5 hm2 (by omega) hc0 hc1
  simp only [dI] at eL
  refine ⟨m', many, ms, h', hm2, okN_of (by omega) (by omega) (by omega) ok, hl, ?_⟩
  simp only [d__law_net, b__law_net, fDef, List.length_cons, List.length_nil, Nat.reduceAdd, Nat.reduceSub, List.replicate, List.cons_append, List.nil_append, fSeq, fIfS, fTst, fTAnd, fTOr, fTNot, fBin, fUn, fIx, fVar, fC, sl, ixd0, ixd1, ixd2, ixd3, ixd4, ixl0, ixl1, ixl2, ixl3, ixl4, ixl5, ixl6, ixl7, ixn0, ixn1, ixn2, gLt, gLe, gGt, gGe, gCmp, gIs, gIsNot, gIsB, M.isNone, M.int, M.bool, fSet, fRet, fRetN, fNx, fNot, fAnd, fOr, fIf, fCp, fMv, M.dat, wipeM, backM, Option.getD_some, Option.getD_none, gAdd, gSub, gMulL, gMulR, gMod, gDiv, gp6, gp12, gp13, gp18, gNeg, fPut, fApp, fPop, fDrop, M.lst?, fAsg, fGT, fGcons, fGN, fGnil, fTup, fLst, fACons, fANil, allD, fCall, fRVal, fRSlot, fRNil, amsOf, putBack, gLen, gTuple, gInt, gMax2, gMin2, Option.bind_some, Option.bind_none, Option.bind_eq_bind, List.getElem?_cons_zero, List.getElem?_cons_succ, List.set_cons_zero, List.set_cons_succ, outM, List.map_cons, List.map_nil, szl, Int.cast_ofNat_Int, if_true, if_false, ite_true, ite_false, Bool.false_eq_true, decide_true, decide_false, Bool.not_true, Bool.not_false, Int.reduceNeg, List.length_map, reduceIte, Nat.reduceLeDiff, Nat.reduceLT, Nat.reduceMul, Int.reduceLE, Int.reduceLT, Int.reduceToNat, Int.toNat_one, Int.toNat_zero, Int.reduceAdd, Int.reduceSub, Int.reduceMul, Int.reducePow, Nat.reducePow, Int.zero_add, Nat.zero_add, Nat.lt_add_one, Int.zero_le_ofNat, Option.some.injEq, reduceCtorEq, Prod.mk.injEq, O.nx.injEq, List.cons.injEq, M.d.injEq, PyData.int.injEq, and_self, true_and, and_true, List.append_assoc, List.mem_cons, List.not_mem_nil, Nat.reduceEqDiff, Int.reduceEq, Int.reduceMod, Int.reduceDiv, Int.reduceGT, or_self, or_false, gEq_int, e1, hway, e2, gInt_b, ← hg, e3, e4, e5, hmany, hcount, eL, allD_map, hm.out, netD]
/-! ### small -/
theorem cut4 (xs : List PyData) : cut xs none (some 4) = xs.take 4 := by
  unfold cut
  rw [HT.sIx_none, show (4 : Int) = ((4 : Nat) : Int) from rfl, HT.sIx_nat]
  simp only [List.drop_zero, Nat.sub_zero]
  by_cases h : 4 ≤ xs.length
  · rw [Nat.min_eq_left h]
  · rw [Nat.min_eq_right (by omega), List.take_of_length_le (Nat.le_refl _), List.take_of_length_le (by omega)]
def smallM (many : Int) (x : Me) : Me := ⟨x.b, x.p % many, if x.p % many = x.q % many then (x.p % many + 1) % many else x.q % many, x.s, x.l⟩
theorem small_ok {many : Int} (h2 : 2 ≤ many) {x : Me} (hs : 0 ≤ x.s) (hl : 1 ≤ x.l) : okM many (smallM many x) := by
  have a0 := Int.emod_nonneg x.p (show many ≠ 0 by omega)
  have a1 := Int.emod_lt_of_pos x.p (show 0 < many by omega)
  have b0 := Int.emod_nonneg x.q (show many ≠ 0 by omega)
  have b1 := Int.emod_lt_of_pos x.q (show 0 < many by omega)
  obtain ⟨c0, c1, c2⟩ := mod_ne a0 a1 (k := 1) (by omega) (by omega)
  unfold smallM
  refine ⟨a0, a1, ?_, ?_, ?_, hs, hl⟩ <;> simp only <;> split <;> omega
theorem sp_small {many0 many : Int} {ms : List Me} (N : okN many0 ms) (h2 : 2 ≤ many) (h3 : many ≤ 1000) :
    ∃ ms', okN many ms' ∧ ms'.length ≤ 4 ∧ d__law_small [some (.d (netD many0 ms)), some (dI many), some (dI 4)] = some (.d (netD many ms'), [some (.d (netD many0 ms)), some (dI many), some (dI 4)]) := by
  have ht : ∀ x ∈ ms.take 4, 0 ≤ x.s ∧ 1 ≤ x.l := fun x hx => by
    have := N.ok x (List.mem_of_mem_take hx)
    omega
  have h4 : (ms.take 4).length ≤ 4 := by rw [List.length_take]; omega
  have hpos : 0 < many := by omega
  have eL : ∃ k4 k5 k6 k7 k8, L__law_small_1 [some (.d (netD many0 ms)), some (dI many), some (dI 4), some (.lst []), none, none, none, none, none] =
      some (.nx [some (.d (netD many0 ms)), some (dI many), some (dI 4), some (.lst ((((ms.take 4).map (smallM many)).map Me.data).map M.d)), k4, k5, k6, k7, k8]) := by
    have := for_inv (enc := Me.data) (g := fGT 5 (fGcons (fGN 4) (fGcons (fGN 5) (fGcons (fGN 6) (fGcons (fGN 7) (fGcons (fGN 8) (fGnil))))))) (f := B__law_small_1)
      (fun pre ρ => ∃ k4 k5 k6 k7 k8, ρ = [some (.d (netD many0 ms)), some (dI many), some (dI 4), some (.lst (((pre.map (smallM many)).map Me.data).map M.d)), k4, k5, k6, k7, k8]) (ms.take 4) [] ?_ _ ⟨none, none, none, none, none, rfl⟩
    · obtain ⟨ρ', e, k4, k5, k6, k7, k8, rfl⟩ := this
      refine ⟨k4, k5, k6, k7, k8, for_of (ds := (ms.take 4).map Me.data) ?_ e⟩
      simp only [fIS, fCut, fSo, fNo, gCut, fDef, List.length_cons, List.length_nil, Nat.reduceAdd, Nat.reduceSub, List.replicate, List.cons_append, List.nil_append, fSeq, fIfS, fTst, fTAnd, fTOr, fTNot, fBin, fUn, fIx, fVar, fC, sl, ixd0, ixd1, ixd2, ixd3, ixd4, ixl0, ixl1, ixl2, ixl3, ixl4, ixl5, ixl6, ixl7, ixn0, ixn1, ixn2, gLt, gLe, gGt, gGe, gCmp, gIs, gIsNot, gIsB, M.isNone, M.int, M.bool, fSet, fRet, fRetN, fNx, fNot, fAnd, fOr, fIf, fCp, fMv, M.dat, wipeM, backM, Option.getD_some, Option.getD_none, gAdd, gSub, gMulL, gMulR, gMod, gDiv, gp6, gp12, gp13, gp18, gNeg, fPut, fApp, fPop, fDrop, M.lst?, fAsg, fGT, fGcons, fGN, fGnil, fTup, fLst, fACons, fANil, allD, fCall, fRVal, fRSlot, fRNil, amsOf, putBack, gLen, gTuple, gInt, gMax2, gMin2, Option.bind_some, Option.bind_none, Option.bind_eq_bind, List.getElem?_cons_zero, List.getElem?_cons_succ, List.set_cons_zero, List.set_cons_succ, outM, List.map_cons, List.map_nil, szl, Int.cast_ofNat_Int, if_true, if_false, ite_true, ite_false, Bool.false_eq_true, decide_true, decide_false, Bool.not_true, Bool.not_false, Int.reduceNeg, List.length_map, reduceIte, Nat.reduceLeDiff, Nat.reduceLT, Nat.reduceMul, Int.reduceLE, Int.reduceLT, Int.reduceToNat, Int.toNat_one, Int.toNat_zero, Int.reduceAdd, Int.reduceSub, Int.reduceMul, Int.reducePow, Nat.reducePow, Int.zero_add, Nat.zero_add, Nat.lt_add_one, Int.zero_le_ofNat, Option.some.injEq, reduceCtorEq, Prod.mk.injEq, O.nx.injEq, List.cons.injEq, M.d.injEq, PyData.int.injEq, and_self, true_and, and_true, List.append_assoc, List.mem_cons, List.not_mem_nil, Nat.reduceEqDiff, Int.reduceEq, Int.reduceMod, Int.reduceDiv, Int.reduceGT, or_self, or_false, netD, cut4, M.its, List.map_take]
    · rintro pre x suf e ρ ⟨k4, k5, k6, k7, k8, rfl⟩
      have hlen : pre.length < 16777216 := by
        have := congrArg List.length e
        simp only [List.nil_append, List.length_append, List.length_cons] at this
        omega
      obtain ⟨b, p, q, s, l⟩ := x
      refine ⟨[some (.d (netD many0 ms)), some (dI many), some (dI 4), some (.lst (((pre.map (smallM many)).map Me.data).map M.d)), some (.d (.str (wordD b))), some (dI p), some (dI q), some (dI s), some (dI l)], [some (.d (netD many0 ms)), some (dI many), some (dI 4), some (.lst ((((pre ++ [(⟨b, p, q, s, l⟩ : Me)]).map (smallM many)).map Me.data).map M.d)), some (.d (.str (wordD b))), some (dI (p % many)), some (dI (if p % many = q % many then (p % many + 1) % many else q % many)), some (dI s), some (dI l)], rfl, .inl ?_, _, _, _, _, _, rfl⟩
      by_cases h : p % many = q % many
      · simp only [B__law_small_1, fDef, List.length_cons, List.length_nil, Nat.reduceAdd, Nat.reduceSub, List.replicate, List.cons_append, List.nil_append, fSeq, fIfS, fTst, fTAnd, fTOr, fTNot, fBin, fUn, fIx, fVar, fC, sl, ixd0, ixd1, ixd2, ixd3, ixd4, ixl0, ixl1, ixl2, ixl3, ixl4, ixl5, ixl6, ixl7, ixn0, ixn1, ixn2, gLt, gLe, gGt, gGe, gCmp, gIs, gIsNot, gIsB, M.isNone, M.int, M.bool, fSet, fRet, fRetN, fNx, fNot, fAnd, fOr, fIf, fCp, fMv, M.dat, wipeM, backM, Option.getD_some, Option.getD_none, gAdd, gSub, gMulL, gMulR, gMod, gDiv, gp6, gp12, gp13, gp18, gNeg, fPut, fApp, fPop, fDrop, M.lst?, fAsg, fGT, fGcons, fGN, fGnil, fTup, fLst, fACons, fANil, allD, fCall, fRVal, fRSlot, fRNil, amsOf, putBack, gLen, gTuple, gInt, gMax2, gMin2, Option.bind_some, Option.bind_none, Option.bind_eq_bind, List.getElem?_cons_zero, List.getElem?_cons_succ, List.set_cons_zero, List.set_cons_succ, outM, List.map_cons, List.map_nil, szl, Int.cast_ofNat_Int, if_true, if_false, ite_true, ite_false, Bool.false_eq_true, decide_true, decide_false, Bool.not_true, Bool.not_false, Int.reduceNeg, List.length_map, reduceIte, Nat.reduceLeDiff, Nat.reduceLT, Nat.reduceMul, Int.reduceLE, Int.reduceLT, Int.reduceToNat, Int.toNat_one, Int.toNat_zero, Int.reduceAdd, Int.reduceSub, Int.reduceMul, Int.reducePow, Nat.reducePow, Int.zero_add, Nat.zero_add, Nat.lt_add_one, Int.zero_le_ofNat, Option.some.injEq, reduceCtorEq, Prod.mk.injEq, O.nx.injEq, List.cons.injEq, M.d.injEq, PyData.int.injEq, and_self, true_and, and_true, List.append_assoc, List.mem_cons, List.not_mem_nil, Nat.reduceEqDiff, Int.reduceEq, Int.reduceMod, Int.reduceDiv, Int.reduceGT, or_self, or_false, hpos, gEq_int, h, hlen]
        simp [smallM, Me.data, h]
      · simp only [B__law_small_1, fDef, List.length_cons, List.length_nil, Nat.reduceAdd, Nat.reduceSub, List.replicate, List.cons_append, List.nil_append, fSeq, fIfS, fTst, fTAnd, fTOr, fTNot, fBin, fUn, fIx, fVar, fC, sl, ixd0, ixd1, ixd2, ixd3, ixd4, ixl0, ixl1, ixl2, ixl3, ixl4, ixl5, ixl6, ixl7, ixn0, ixn1, ixn2, gLt, gLe, gGt, gGe, gCmp, gIs, gIsNot, gIsB, M.isNone, M.int, M.bool, fSet, fRet, fRetN, fNx, fNot, fAnd, fOr, fIf, fCp, fMv, M.dat, wipeM, backM, Option.getD_some, Option.getD_none, gAdd, gSub, gMulL, gMulR, gMod, gDiv, gp6, gp12, gp13, gp18, gNeg, fPut, fApp, fPop, fDrop, M.lst?, fAsg, fGT, fGcons, fGN, fGnil, fTup, fLst, fACons, fANil, allD, fCall, fRVal, fRSlot, fRNil, amsOf, putBack, gLen, gTuple, gInt, gMax2, gMin2, Option.bind_some, Option.bind_none, Option.bind_eq_bind, List.getElem?_cons_zero, List.getElem?_cons_succ, List.set_cons_zero, List.set_cons_succ, outM, List.map_cons, List.map_nil, szl, Int.cast_ofNat_Int, if_true, if_false, ite_true, ite_false, Bool.false_eq_true, decide_true, decide_false, Bool.not_true, Bool.not_false, Int.reduceNeg, List.length_map, reduceIte, Nat.reduceLeDiff, Nat.reduceLT, Nat.reduceMul, Int.reduceLE, Int.reduceLT, Int.reduceToNat, Int.toNat_one, Int.toNat_zero, Int.reduceAdd, Int.reduceSub, Int.reduceMul, Int.reducePow, Nat.reducePow, Int.zero_add, Nat.zero_add, Nat.lt_add_one, Int.zero_le_ofNat, Option.some.injEq, reduceCtorEq, Prod.mk.injEq, O.nx.injEq, List.cons.injEq, M.d.injEq, PyData.int.injEq, and_self, true_and, and_true, List.append_assoc, List.mem_cons, List.not_mem_nil, Nat.reduceEqDiff, Int.reduceEq, Int.reduceMod, Int.reduceDiv, Int.reduceGT, or_self, or_false, hpos, gEq_int, h, hlen]
        simp [smallM, Me.data, h]
  obtain ⟨k4, k5, k6, k7, k8, eL⟩ := eL
  refine ⟨(ms.take 4).map (smallM many), okN_of (by omega) h3 (by rw [List.length_map]; omega) fun x hx => ?_, by rw [List.length_map]; exact h4, ?_⟩
  · obtain ⟨y, hy, rfl⟩ := List.mem_map.mp hx
    exact small_ok h2 (ht y hy).1 (ht y hy).2
  · simp only [dI, netD] at eL
    simp only [d__law_small, b__law_small, fDef, List.length_cons, List.length_nil, Nat.reduceAdd, Nat.reduceSub, List.replicate, List.cons_append, List.nil_append, fSeq, fIfS, fTst, fTAnd, fTOr, fTNot, fBin, fUn, fIx, fVar, fC, sl, ixd0, ixd1, ixd2, ixd3, ixd4, ixl0, ixl1, ixl2, ixl3, ixl4, ixl5, ixl6, ixl7, ixn0, ixn1, ixn2, gLt, gLe, gGt, gGe, gCmp, gIs, gIsNot, gIsB, M.isNone, M.int, M.bool, fSet, fRet, fRetN, fNx, fNot, fAnd, fOr, fIf, fCp, fMv, M.dat, wipeM, backM, Option.getD_some, Option.getD_none, gAdd, gSub, gMulL, gMulR, gMod, gDiv, gp6, gp12, gp13, gp18, gNeg, fPut, fApp, fPop, fDrop, M.lst?, fAsg, fGT, fGcons, fGN, fGnil, fTup, fLst, fACons, fANil, allD, fCall, fRVal, fRSlot, fRNil, amsOf, putBack, gLen, gTuple, gInt, gMax2, gMin2, Option.bind_some, Option.bind_none, Option.bind_eq_bind, List.getElem?_cons_zero, List.getElem?_cons_succ, List.set_cons_zero, List.set_cons_succ, outM, List.map_cons, List.map_nil, szl, Int.cast_ofNat_Int, if_true, if_false, ite_true, ite_false, Bool.false_eq_true, decide_true, decide_false, Bool.not_true, Bool.not_false, Int.reduceNeg, List.length_map, reduceIte, Nat.reduceLeDiff, Nat.reduceLT, Nat.reduceMul, Int.reduceLE, Int.reduceLT, Int.reduceToNat, Int.toNat_one, Int.toNat_zero, Int.reduceAdd, Int.reduceSub, Int.reduceMul, Int.reducePow, Nat.reducePow, Int.zero_add, Nat.zero_add, Nat.lt_add_one, Int.zero_le_ofNat, Option.some.injEq, reduceCtorEq, Prod.mk.injEq, O.nx.injEq, List.cons.injEq, M.d.injEq, PyData.int.injEq, and_self, true_and, and_true, List.append_assoc, List.mem_cons, List.not_mem_nil, Nat.reduceEqDiff, Int.reduceEq, Int.reduceMod, Int.reduceDiv, Int.reduceGT, or_self, or_false, netD, eL, allD_map]
end DL
namespace DL
open L2 PySem.Spec PySem PyProof.Rows

theorem seqIx {i : Int} {n : Nat} (h0 : 0 ≤ i) (h1 : i < (n : Int)) : seqIndex? i n = some i.toNat := by
  have h2 : ¬ i < 0 := by omega
  unfold seqIndex?
  simp [h2, h0, h1]
theorem okM_erase {many : Int} {ms : List Me} (ok : ∀ x ∈ ms, okM many x) (j : Nat) : ∀ x ∈ ms.eraseIdx j, okM many x := fun x hx => ok x (List.mem_of_mem_eraseIdx hx)
theorem map_erase {α β : Type} (f : α → β) : ∀ (l : List α) (j : Nat), (l.map f).eraseIdx j = (l.eraseIdx j).map f
  | [], _ => rfl
  | _ :: _, 0 => rfl
  | _ :: l, j + 1 => by simp [map_erase f l j]
/-! ### other -/
theorem sp_other {m : M} (hm : Deck m) {many : Int} {ms : List Me} (N : okN many ms) (h2 : 2 ≤ many) (hl4 : ms.length ≤ 4) :
    ∃ m' ms', Deck m' ∧ okN many ms' ∧ ms'.length ≤ 4 ∧ d__law_other [some m, some (.d (netD many ms))] = some (.d (netD many ms'), [some m', some (.d (netD many ms))]) := by
  obtain ⟨kind, m1, d1, k0, k1, e1⟩ := sp_draw hm (k := 7) (by omega) (by omega)
  simp only [dI] at e1
  have en := gEq_nil ms
  by_cases hk : kind = 0 ∨ ms = []
  · obtain ⟨m2, many0, ms0, d2, _, N0, _, e2⟩ := sp_net d1
    obtain ⟨ms', N', hl', e3⟩ := sp_small (many := many) N0 h2 N.few
    simp only [dI] at e2 e3
    refine ⟨m2, ms', d2, N', hl', ?_⟩
    rcases hk with rfl | rfl
    · simp only [d__law_other, b__law_other, fDef, List.length_cons, List.length_nil, Nat.reduceAdd, Nat.reduceSub, List.replicate, List.cons_append, List.nil_append, fSeq, fIfS, fTst, fTAnd, fTOr, fTNot, fBin, fUn, fIx, fVar, fC, sl, ixd0, ixd1, ixd2, ixd3, ixd4, ixl0, ixl1, ixl2, ixl3, ixl4, ixl5, ixl6, ixl7, ixn0, ixn1, ixn2, gLt, gLe, gGt, gGe, gCmp, gIs, gIsNot, gIsB, M.isNone, M.int, M.bool, fSet, fRet, fRetN, fNx, fNot, fAnd, fOr, fIf, fCp, fMv, M.dat, wipeM, backM, Option.getD_some, Option.getD_none, gAdd, gSub, gMulL, gMulR, gMod, gDiv, gp6, gp12, gp13, gp18, gNeg, fPut, fApp, fPop, fDrop, M.lst?, fAsg, fGT, fGcons, fGN, fGnil, fTup, fLst, fACons, fANil, allD, fCall, fRVal, fRSlot, fRNil, amsOf, putBack, gLen, gTuple, gInt, gMax2, gMin2, Option.bind_some, Option.bind_none, Option.bind_eq_bind, List.getElem?_cons_zero, List.getElem?_cons_succ, List.set_cons_zero, List.set_cons_succ, outM, List.map_cons, List.map_nil, szl, Int.cast_ofNat_Int, if_true, if_false, ite_true, ite_false, Bool.false_eq_true, decide_true, decide_false, Bool.not_true, Bool.not_false, Int.reduceNeg, List.length_map, reduceIte, Nat.reduceLeDiff, Nat.reduceLT, Nat.reduceMul, Int.reduceLE, Int.reduceLT, Int.reduceToNat, Int.toNat_one, Int.toNat_zero, Int.reduceAdd, Int.reduceSub, Int.reduceMul, Int.reducePow, Nat.reducePow, Int.zero_add, Nat.zero_add, Nat.lt_add_one, Int.zero_le_ofNat, Option.some.injEq, reduceCtorEq, Prod.mk.injEq, O.nx.injEq, List.cons.injEq, M.d.injEq, PyData.int.injEq, and_self, true_and, and_true, List.append_assoc, List.mem_cons, List.not_mem_nil, Nat.reduceEqDiff, Int.reduceEq, Int.reduceMod, Int.reduceDiv, Int.reduceGT, or_self, or_false, e1, gList, netD, gEq_int, e2] 
      simp only [netD] at e3
      simp only [fDef, List.length_cons, List.length_nil, Nat.reduceAdd, Nat.reduceSub, List.replicate, List.cons_append, List.nil_append, fSeq, fIfS, fTst, fTAnd, fTOr, fTNot, fBin, fUn, fIx, fVar, fC, sl, ixd0, ixd1, ixd2, ixd3, ixd4, ixl0, ixl1, ixl2, ixl3, ixl4, ixl5, ixl6, ixl7, ixn0, ixn1, ixn2, gLt, gLe, gGt, gGe, gCmp, gIs, gIsNot, gIsB, M.isNone, M.int, M.bool, fSet, fRet, fRetN, fNx, fNot, fAnd, fOr, fIf, fCp, fMv, M.dat, wipeM, backM, Option.getD_some, Option.getD_none, gAdd, gSub, gMulL, gMulR, gMod, gDiv, gp6, gp12, gp13, gp18, gNeg, fPut, fApp, fPop, fDrop, M.lst?, fAsg, fGT, fGcons, fGN, fGnil, fTup, fLst, fACons, fANil, allD, fCall, fRVal, fRSlot, fRNil, amsOf, putBack, gLen, gTuple, gInt, gMax2, gMin2, Option.bind_some, Option.bind_none, Option.bind_eq_bind, List.getElem?_cons_zero, List.getElem?_cons_succ, List.set_cons_zero, List.set_cons_succ, outM, List.map_cons, List.map_nil, szl, Int.cast_ofNat_Int, if_true, if_false, ite_true, ite_false, Bool.false_eq_true, decide_true, decide_false, Bool.not_true, Bool.not_false, Int.reduceNeg, List.length_map, reduceIte, Nat.reduceLeDiff, Nat.reduceLT, Nat.reduceMul, Int.reduceLE, Int.reduceLT, Int.reduceToNat, Int.toNat_one, Int.toNat_zero, Int.reduceAdd, Int.reduceSub, Int.reduceMul, Int.reducePow, Nat.reducePow, Int.zero_add, Nat.zero_add, Nat.lt_add_one, Int.zero_le_ofNat, Option.some.injEq, reduceCtorEq, Prod.mk.injEq, O.nx.injEq, List.cons.injEq, M.d.injEq, PyData.int.injEq, and_self, true_and, and_true, List.append_assoc, List.mem_cons, List.not_mem_nil, Nat.reduceEqDiff, Int.reduceEq, Int.reduceMod, Int.reduceDiv, Int.reduceGT, or_self, or_false, e3, hm.out, netD]
    · simp only [netD] at e2 e3
      by_cases hk0 : kind = 0
      · subst hk0
        simp only [d__law_other, b__law_other, fDef, List.length_cons, List.length_nil, Nat.reduceAdd, Nat.reduceSub, List.replicate, List.cons_append, List.nil_append, fSeq, fIfS, fTst, fTAnd, fTOr, fTNot, fBin, fUn, fIx, fVar, fC, sl, ixd0, ixd1, ixd2, ixd3, ixd4, ixl0, ixl1, ixl2, ixl3, ixl4, ixl5, ixl6, ixl7, ixn0, ixn1, ixn2, gLt, gLe, gGt, gGe, gCmp, gIs, gIsNot, gIsB, M.isNone, M.int, M.bool, fSet, fRet, fRetN, fNx, fNot, fAnd, fOr, fIf, fCp, fMv, M.dat, wipeM, backM, Option.getD_some, Option.getD_none, gAdd, gSub, gMulL, gMulR, gMod, gDiv, gp6, gp12, gp13, gp18, gNeg, fPut, fApp, fPop, fDrop, M.lst?, fAsg, fGT, fGcons, fGN, fGnil, fTup, fLst, fACons, fANil, allD, fCall, fRVal, fRSlot, fRNil, amsOf, putBack, gLen, gTuple, gInt, gMax2, gMin2, Option.bind_some, Option.bind_none, Option.bind_eq_bind, List.getElem?_cons_zero, List.getElem?_cons_succ, List.set_cons_zero, List.set_cons_succ, outM, List.map_cons, List.map_nil, szl, Int.cast_ofNat_Int, if_true, if_false, ite_true, ite_false, Bool.false_eq_true, decide_true, decide_false, Bool.not_true, Bool.not_false, Int.reduceNeg, List.length_map, reduceIte, Nat.reduceLeDiff, Nat.reduceLT, Nat.reduceMul, Int.reduceLE, Int.reduceLT, Int.reduceToNat, Int.toNat_one, Int.toNat_zero, Int.reduceAdd, Int.reduceSub, Int.reduceMul, Int.reducePow, Nat.reducePow, Int.zero_add, Nat.zero_add, Nat.lt_add_one, Int.zero_le_ofNat, Option.some.injEq, reduceCtorEq, Prod.mk.injEq, O.nx.injEq, List.cons.injEq, M.d.injEq, PyData.int.injEq, and_self, true_and, and_true, List.append_assoc, List.mem_cons, List.not_mem_nil, Nat.reduceEqDiff, Int.reduceEq, Int.reduceMod, Int.reduceDiv, Int.reduceGT, or_self, or_false, e1, gList, netD, gEq_int, e2, e3, hm.out]
      · simp only [List.map_nil, List.isEmpty_nil] at en
        simp only [d__law_other, b__law_other, fDef, List.length_cons, List.length_nil, Nat.reduceAdd, Nat.reduceSub, List.replicate, List.cons_append, List.nil_append, fSeq, fIfS, fTst, fTAnd, fTOr, fTNot, fBin, fUn, fIx, fVar, fC, sl, ixd0, ixd1, ixd2, ixd3, ixd4, ixl0, ixl1, ixl2, ixl3, ixl4, ixl5, ixl6, ixl7, ixn0, ixn1, ixn2, gLt, gLe, gGt, gGe, gCmp, gIs, gIsNot, gIsB, M.isNone, M.int, M.bool, fSet, fRet, fRetN, fNx, fNot, fAnd, fOr, fIf, fCp, fMv, M.dat, wipeM, backM, Option.getD_some, Option.getD_none, gAdd, gSub, gMulL, gMulR, gMod, gDiv, gp6, gp12, gp13, gp18, gNeg, fPut, fApp, fPop, fDrop, M.lst?, fAsg, fGT, fGcons, fGN, fGnil, fTup, fLst, fACons, fANil, allD, fCall, fRVal, fRSlot, fRNil, amsOf, putBack, gLen, gTuple, gInt, gMax2, gMin2, Option.bind_some, Option.bind_none, Option.bind_eq_bind, List.getElem?_cons_zero, List.getElem?_cons_succ, List.set_cons_zero, List.set_cons_succ, outM, List.map_cons, List.map_nil, szl, Int.cast_ofNat_Int, if_true, if_false, ite_true, ite_false, Bool.false_eq_true, decide_true, decide_false, Bool.not_true, Bool.not_false, Int.reduceNeg, List.length_map, reduceIte, Nat.reduceLeDiff, Nat.reduceLT, Nat.reduceMul, Int.reduceLE, Int.reduceLT, Int.reduceToNat, Int.toNat_one, Int.toNat_zero, Int.reduceAdd, Int.reduceSub, Int.reduceMul, Int.reducePow, Nat.reducePow, Int.zero_add, Nat.zero_add, Nat.lt_add_one, Int.zero_le_ofNat, Option.some.injEq, reduceCtorEq, Prod.mk.injEq, O.nx.injEq, List.cons.injEq, M.d.injEq, PyData.int.injEq, and_self, true_and, and_true, List.append_assoc, List.mem_cons, List.not_mem_nil, Nat.reduceEqDiff, Int.reduceEq, Int.reduceMod, Int.reduceDiv, Int.reduceGT, or_self, or_false, e1, gList, netD, gEq_int, hk0, en, e2, e3, hm.out]
  · have hk0 : ¬ kind = 0 := fun z => hk (.inl z)
    have hne : ms ≠ [] := fun z => hk (.inr z)
    rw [show ms.isEmpty = false from by simpa using hne] at en
    have hp : 0 < ms.length := List.length_pos_iff.mpr hne
    obtain ⟨i, m2, d2, i0, i1, e2⟩ := sp_draw d1 (k := (ms.length : Int)) (by omega) (by omega)
    obtain ⟨by', m3, d3, b0, b1, e3⟩ := sp_draw d2 (k := 2) (by omega) (by omega)
    simp only [dI] at e2 e3
    have ix := seqIx (n := ms.length) i0 i1
    have hi : i.toNat < ms.length := by omega
    have okx := N.ok ms[i.toNat] (List.getElem_mem hi)
    have eg : (ms.map Me.data)[i.toNat]? = some (ms[i.toNat]).data := by rw [List.getElem?_map, List.getElem?_eq_getElem hi]; rfl
    have er := map_erase Me.data ms i.toNat
    have hel : (ms.eraseIdx i.toNat).length ≤ 3 := by rw [List.length_eraseIdx]; split <;> omega
    have lo : -9223372036854775808 ≤ i := by omega
    have hi' : i < 9223372036854775808 := by omega
    generalize ms[i.toNat] = x at okx eg
    obtain ⟨b, p, q, s, l⟩ := x
    obtain ⟨a1, a2, a3, a4, a5, a6, a7⟩ := okx
    simp only at a1 a2 a3 a4 a5 a6 a7
    have okr := okM_erase (many := many) (ms := ms) N.ok i.toNat
    generalize hr : ms.eraseIdx i.toNat = rest at er hel okr
    by_cases hk1 : kind = 1
    · refine ⟨m3, rest, d3, okN_of N.pos N.few (by omega) okr, by omega, ?_⟩
      simp only [d__law_other, b__law_other, fDef, List.length_cons, List.length_nil, Nat.reduceAdd, Nat.reduceSub, List.replicate, List.cons_append, List.nil_append, fSeq, fIfS, fTst, fTAnd, fTOr, fTNot, fBin, fUn, fIx, fVar, fC, sl, ixd0, ixd1, ixd2, ixd3, ixd4, ixl0, ixl1, ixl2, ixl3, ixl4, ixl5, ixl6, ixl7, ixn0, ixn1, ixn2, gLt, gLe, gGt, gGe, gCmp, gIs, gIsNot, gIsB, M.isNone, M.int, M.bool, fSet, fRet, fRetN, fNx, fNot, fAnd, fOr, fIf, fCp, fMv, M.dat, wipeM, backM, Option.getD_some, Option.getD_none, gAdd, gSub, gMulL, gMulR, gMod, gDiv, gp6, gp12, gp13, gp18, gNeg, fPut, fApp, fPop, fDrop, M.lst?, fAsg, fGT, fGcons, fGN, fGnil, fTup, fLst, fACons, fANil, allD, fCall, fRVal, fRSlot, fRNil, amsOf, putBack, gLen, gTuple, gInt, gMax2, gMin2, Option.bind_some, Option.bind_none, Option.bind_eq_bind, List.getElem?_cons_zero, List.getElem?_cons_succ, List.set_cons_zero, List.set_cons_succ, outM, List.map_cons, List.map_nil, szl, Int.cast_ofNat_Int, if_true, if_false, ite_true, ite_false, Bool.false_eq_true, decide_true, decide_false, Bool.not_true, Bool.not_false, Int.reduceNeg, List.length_map, reduceIte, Nat.reduceLeDiff, Nat.reduceLT, Nat.reduceMul, Int.reduceLE, Int.reduceLT, Int.reduceToNat, Int.toNat_one, Int.toNat_zero, Int.reduceAdd, Int.reduceSub, Int.reduceMul, Int.reducePow, Nat.reducePow, Int.zero_add, Nat.zero_add, Nat.lt_add_one, Int.zero_le_ofNat, Option.some.injEq, reduceCtorEq, Prod.mk.injEq, O.nx.injEq, List.cons.injEq, M.d.injEq, PyData.int.injEq, and_self, true_and, and_true, List.append_assoc, List.mem_cons, List.not_mem_nil, Nat.reduceEqDiff, Int.reduceEq, Int.reduceMod, Int.reduceDiv, Int.reduceGT, or_self, or_false, e1, gList, netD, gEq_int, hk0, en, e2, ix, lo, hi', eg, er, allD_map, Me.data, e3, hk1, hm.out]
    · obtain ⟨y, oky, hy⟩ : ∃ y : Me, okM many y ∧ gIx (.lst [.d (.tuple [.str "to", .int p, .int q, .int s, .int l]), .d (.tuple [.str (wordD b), .int p, .int q, .int (s + by'), .int (l + 1 - by')]), .d (.tuple [.str "both", .int p, .int q, .int s, .int l]),
          .d (.tuple [.str (wordD b), .int q, .int p, .int s, .int l]), .d (.tuple [.str (wordD b), .int p, .int q, .int (if s - by' > 0 then s - by' else 0), .int (l + 1 + by')])]) (kind - 2) = some (.d y.data) := by
        obtain rfl | rfl | rfl | rfl | rfl : kind = 2 ∨ kind = 3 ∨ kind = 4 ∨ kind = 5 ∨ kind = 6 := by omega
        · exact ⟨⟨false, p, q, s, l⟩, ⟨a1, a2, a3, a4, a5, a6, a7⟩, ixl0⟩
        · exact ⟨⟨b, p, q, s + by', l + 1 - by'⟩, ⟨a1, a2, a3, a4, a5, by simp only; omega, by simp only; omega⟩, ixl1⟩
        · exact ⟨⟨true, p, q, s, l⟩, ⟨a1, a2, a3, a4, a5, a6, a7⟩, ixl2⟩
        · exact ⟨⟨b, q, p, s, l⟩, ⟨a3, a4, a1, a2, Ne.symm a5, a6, a7⟩, ixl3⟩
        · exact ⟨⟨b, p, q, if s - by' > 0 then s - by' else 0, l + 1 + by'⟩, ⟨a1, a2, a3, a4, a5, by simp only; split <;> omega, by simp only; omega⟩, ixl4⟩
      have hz : rest.length < 16777216 := by omega
      refine ⟨m3, rest ++ [y], d3, okN_of N.pos N.few (by simp; omega) (fun z hz => ?_), by simp; omega, ?_⟩
      · rcases List.mem_append.mp hz with hz | hz
        · exact okr z hz
        · rw [List.mem_singleton.mp hz]
          exact oky
      · simp only [d__law_other, b__law_other, fDef, List.length_cons, List.length_nil, Nat.reduceAdd, Nat.reduceSub, List.replicate, List.cons_append, List.nil_append, fSeq, fIfS, fTst, fTAnd, fTOr, fTNot, fBin, fUn, fIx, fVar, fC, sl, ixd0, ixd1, ixd2, ixd3, ixd4, ixl0, ixl1, ixl2, ixl3, ixl4, ixl5, ixl6, ixl7, ixn0, ixn1, ixn2, gLt, gLe, gGt, gGe, gCmp, gIs, gIsNot, gIsB, M.isNone, M.int, M.bool, fSet, fRet, fRetN, fNx, fNot, fAnd, fOr, fIf, fCp, fMv, M.dat, wipeM, backM, Option.getD_some, Option.getD_none, gAdd, gSub, gMulL, gMulR, gMod, gDiv, gp6, gp12, gp13, gp18, gNeg, fPut, fApp, fPop, fDrop, M.lst?, fAsg, fGT, fGcons, fGN, fGnil, fTup, fLst, fACons, fANil, allD, fCall, fRVal, fRSlot, fRNil, amsOf, putBack, gLen, gTuple, gInt, gMax2, gMin2, Option.bind_some, Option.bind_none, Option.bind_eq_bind, List.getElem?_cons_zero, List.getElem?_cons_succ, List.set_cons_zero, List.set_cons_succ, outM, List.map_cons, List.map_nil, szl, Int.cast_ofNat_Int, if_true, if_false, ite_true, ite_false, Bool.false_eq_true, decide_true, decide_false, Bool.not_true, Bool.not_false, Int.reduceNeg, List.length_map, reduceIte, Nat.reduceLeDiff, Nat.reduceLT, Nat.reduceMul, Int.reduceLE, Int.reduceLT, Int.reduceToNat, Int.toNat_one, Int.toNat_zero, Int.reduceAdd, Int.reduceSub, Int.reduceMul, Int.reducePow, Nat.reducePow, Int.zero_add, Nat.zero_add, Nat.lt_add_one, Int.zero_le_ofNat, Option.some.injEq, reduceCtorEq, Prod.mk.injEq, O.nx.injEq, List.cons.injEq, M.d.injEq, PyData.int.injEq, and_self, true_and, and_true, List.append_assoc, List.mem_cons, List.not_mem_nil, Nat.reduceEqDiff, Int.reduceEq, Int.reduceMod, Int.reduceDiv, Int.reduceGT, or_self, or_false, e1, gList, netD, gEq_int, hk0, en, e2, ix, lo, hi', eg, er, allD_map, Me.data, e3, hk1, hm.out]
        simp only [fDef, List.length_cons, List.length_nil, Nat.reduceAdd, Nat.reduceSub, List.replicate, List.cons_append, List.nil_append, fSeq, fIfS, fTst, fTAnd, fTOr, fTNot, fBin, fUn, fIx, fVar, fC, sl, ixd0, ixd1, ixd2, ixd3, ixd4, ixl0, ixl1, ixl2, ixl3, ixl4, ixl5, ixl6, ixl7, ixn0, ixn1, ixn2, gLt, gLe, gGt, gGe, gCmp, gIs, gIsNot, gIsB, M.isNone, M.int, M.bool, fSet, fRet, fRetN, fNx, fNot, fAnd, fOr, fIf, fCp, fMv, M.dat, wipeM, backM, Option.getD_some, Option.getD_none, gAdd, gSub, gMulL, gMulR, gMod, gDiv, gp6, gp12, gp13, gp18, gNeg, fPut, fApp, fPop, fDrop, M.lst?, fAsg, fGT, fGcons, fGN, fGnil, fTup, fLst, fACons, fANil, allD, fCall, fRVal, fRSlot, fRNil, amsOf, putBack, gLen, gTuple, gInt, gMax2, gMin2, Option.bind_some, Option.bind_none, Option.bind_eq_bind, List.getElem?_cons_zero, List.getElem?_cons_succ, List.set_cons_zero, List.set_cons_succ, outM, List.map_cons, List.map_nil, szl, Int.cast_ofNat_Int, if_true, if_false, ite_true, ite_false, Bool.false_eq_true, decide_true, decide_false, Bool.not_true, Bool.not_false, Int.reduceNeg, List.length_map, reduceIte, Nat.reduceLeDiff, Nat.reduceLT, Nat.reduceMul, Int.reduceLE, Int.reduceLT, Int.reduceToNat, Int.toNat_one, Int.toNat_zero, Int.reduceAdd, Int.reduceSub, Int.reduceMul, Int.reducePow, Nat.reducePow, Int.zero_add, Nat.zero_add, Nat.lt_add_one, Int.zero_le_ofNat, Option.some.injEq, reduceCtorEq, Prod.mk.injEq, O.nx.injEq, List.cons.injEq, M.d.injEq, PyData.int.injEq, and_self, true_and, and_true, List.append_assoc, List.mem_cons, List.not_mem_nil, Nat.reduceEqDiff, Int.reduceEq, Int.reduceMod, Int.reduceDiv, Int.reduceGT, or_self, or_false, hy, hz, app_m, allD_map, hm.out]
end DL
namespace DL
open L2 PySem.Spec PySem PyProof.Rows

/-! ### step -/
def stepM (m : Me) (pl : Int) : Option (Int × Int × Int) := if pl = m.p then some (m.q, m.s, m.s + m.l) else if m.b = true ∧ pl = m.q then some (m.p, m.s, m.s + m.l) else none
def stepD : Option (Int × Int × Int) → PyData
  | none => .none
  | some (a, b, c) => .tuple [.int a, .int b, .int c]
theorem sp_step (many : Int) {ms : List Me} {i : Nat} {x : Me} (hx : ms[i]? = some x) (pl : Int) : d__law_step [some (.d (netD many ms)), some (dI (i : Int)), some (dI pl)] = some (.d (stepD (stepM x pl)), [some (.d (netD many ms)), some (dI (i : Int)), some (dI pl)]) := by
  have e : gIx (.d (.tuple (ms.map Me.data))) (i : Int) = some (.d x.data) := ix_at (by rw [List.getElem?_map, hx]; rfl)
  obtain ⟨b, p, q, s, l⟩ := x
  simp only [dI]
  by_cases h1 : pl = p
  · simp only [d__law_step, b__law_step, fDef, List.length_cons, List.length_nil, Nat.reduceAdd, Nat.reduceSub, List.replicate, List.cons_append, List.nil_append, fSeq, fIfS, fTst, fTAnd, fTOr, fTNot, fBin, fUn, fIx, fVar, fC, sl, ixd0, ixd1, ixd2, ixd3, ixd4, ixl0, ixl1, ixl2, ixl3, ixl4, ixl5, ixl6, ixl7, ixn0, ixn1, ixn2, gLt, gLe, gGt, gGe, gCmp, gIs, gIsNot, gIsB, M.isNone, M.int, M.bool, fSet, fRet, fRetN, fNx, fNot, fAnd, fOr, fIf, fCp, fMv, M.dat, wipeM, backM, Option.getD_some, Option.getD_none, gAdd, gSub, gMulL, gMulR, gMod, gDiv, gp6, gp12, gp13, gp18, gNeg, fPut, fApp, fPop, fDrop, M.lst?, fAsg, fGT, fGcons, fGN, fGnil, fTup, fLst, fACons, fANil, allD, fCall, fRVal, fRSlot, fRNil, amsOf, putBack, gLen, gTuple, gInt, gMax2, gMin2, Option.bind_some, Option.bind_none, Option.bind_eq_bind, List.getElem?_cons_zero, List.getElem?_cons_succ, List.set_cons_zero, List.set_cons_succ, outM, List.map_cons, List.map_nil, szl, Int.cast_ofNat_Int, if_true, if_false, ite_true, ite_false, Bool.false_eq_true, decide_true, decide_false, Bool.not_true, Bool.not_false, Int.reduceNeg, List.length_map, reduceIte, Nat.reduceLeDiff, Nat.reduceLT, Nat.reduceMul, Int.reduceLE, Int.reduceLT, Int.reduceToNat, Int.toNat_one, Int.toNat_zero, Int.reduceAdd, Int.reduceSub, Int.reduceMul, Int.reducePow, Nat.reducePow, Int.zero_add, Nat.zero_add, Nat.lt_add_one, Int.zero_le_ofNat, Option.some.injEq, reduceCtorEq, Prod.mk.injEq, O.nx.injEq, List.cons.injEq, M.d.injEq, PyData.int.injEq, and_self, true_and, and_true, List.append_assoc, List.mem_cons, List.not_mem_nil, Nat.reduceEqDiff, Int.reduceEq, Int.reduceMod, Int.reduceDiv, Int.reduceGT, or_self, or_false, netD, e, Me.data, gEq_int, h1, stepM, stepD]
  · cases b with
    | false => simp only [d__law_step, b__law_step, fDef, List.length_cons, List.length_nil, Nat.reduceAdd, Nat.reduceSub, List.replicate, List.cons_append, List.nil_append, fSeq, fIfS, fTst, fTAnd, fTOr, fTNot, fBin, fUn, fIx, fVar, fC, sl, ixd0, ixd1, ixd2, ixd3, ixd4, ixl0, ixl1, ixl2, ixl3, ixl4, ixl5, ixl6, ixl7, ixn0, ixn1, ixn2, gLt, gLe, gGt, gGe, gCmp, gIs, gIsNot, gIsB, M.isNone, M.int, M.bool, fSet, fRet, fRetN, fNx, fNot, fAnd, fOr, fIf, fCp, fMv, M.dat, wipeM, backM, Option.getD_some, Option.getD_none, gAdd, gSub, gMulL, gMulR, gMod, gDiv, gp6, gp12, gp13, gp18, gNeg, fPut, fApp, fPop, fDrop, M.lst?, fAsg, fGT, fGcons, fGN, fGnil, fTup, fLst, fACons, fANil, allD, fCall, fRVal, fRSlot, fRNil, amsOf, putBack, gLen, gTuple, gInt, gMax2, gMin2, Option.bind_some, Option.bind_none, Option.bind_eq_bind, List.getElem?_cons_zero, List.getElem?_cons_succ, List.set_cons_zero, List.set_cons_succ, outM, List.map_cons, List.map_nil, szl, Int.cast_ofNat_Int, if_true, if_false, ite_true, ite_false, Bool.false_eq_true, decide_true, decide_false, Bool.not_true, Bool.not_false, Int.reduceNeg, List.length_map, reduceIte, Nat.reduceLeDiff, Nat.reduceLT, Nat.reduceMul, Int.reduceLE, Int.reduceLT, Int.reduceToNat, Int.toNat_one, Int.toNat_zero, Int.reduceAdd, Int.reduceSub, Int.reduceMul, Int.reducePow, Nat.reducePow, Int.zero_add, Nat.zero_add, Nat.lt_add_one, Int.zero_le_ofNat, Option.some.injEq, reduceCtorEq, Prod.mk.injEq, O.nx.injEq, List.cons.injEq, M.d.injEq, PyData.int.injEq, and_self, true_and, and_true, List.append_assoc, List.mem_cons, List.not_mem_nil, Nat.reduceEqDiff, Int.reduceEq, Int.reduceMod, Int.reduceDiv, Int.reduceGT, or_self, or_false, netD, e, Me.data, gEq_int, h1, stepM, stepD, wd_both, false_and]
    | true =>
      by_cases h2 : pl = q
      · have h1' : ¬ q = p := fun z => h1 (h2.trans z)
        simp only [d__law_step, b__law_step, fDef, List.length_cons, List.length_nil, Nat.reduceAdd, Nat.reduceSub, List.replicate, List.cons_append, List.nil_append, fSeq, fIfS, fTst, fTAnd, fTOr, fTNot, fBin, fUn, fIx, fVar, fC, sl, ixd0, ixd1, ixd2, ixd3, ixd4, ixl0, ixl1, ixl2, ixl3, ixl4, ixl5, ixl6, ixl7, ixn0, ixn1, ixn2, gLt, gLe, gGt, gGe, gCmp, gIs, gIsNot, gIsB, M.isNone, M.int, M.bool, fSet, fRet, fRetN, fNx, fNot, fAnd, fOr, fIf, fCp, fMv, M.dat, wipeM, backM, Option.getD_some, Option.getD_none, gAdd, gSub, gMulL, gMulR, gMod, gDiv, gp6, gp12, gp13, gp18, gNeg, fPut, fApp, fPop, fDrop, M.lst?, fAsg, fGT, fGcons, fGN, fGnil, fTup, fLst, fACons, fANil, allD, fCall, fRVal, fRSlot, fRNil, amsOf, putBack, gLen, gTuple, gInt, gMax2, gMin2, Option.bind_some, Option.bind_none, Option.bind_eq_bind, List.getElem?_cons_zero, List.getElem?_cons_succ, List.set_cons_zero, List.set_cons_succ, outM, List.map_cons, List.map_nil, szl, Int.cast_ofNat_Int, if_true, if_false, ite_true, ite_false, Bool.false_eq_true, decide_true, decide_false, Bool.not_true, Bool.not_false, Int.reduceNeg, List.length_map, reduceIte, Nat.reduceLeDiff, Nat.reduceLT, Nat.reduceMul, Int.reduceLE, Int.reduceLT, Int.reduceToNat, Int.toNat_one, Int.toNat_zero, Int.reduceAdd, Int.reduceSub, Int.reduceMul, Int.reducePow, Nat.reducePow, Int.zero_add, Nat.zero_add, Nat.lt_add_one, Int.zero_le_ofNat, Option.some.injEq, reduceCtorEq, Prod.mk.injEq, O.nx.injEq, List.cons.injEq, M.d.injEq, PyData.int.injEq, and_self, true_and, and_true, List.append_assoc, List.mem_cons, List.not_mem_nil, Nat.reduceEqDiff, Int.reduceEq, Int.reduceMod, Int.reduceDiv, Int.reduceGT, or_self, or_false, netD, e, Me.data, gEq_int, h1', stepM, stepD, wd_both, h2]
      · simp only [d__law_step, b__law_step, fDef, List.length_cons, List.length_nil, Nat.reduceAdd, Nat.reduceSub, List.replicate, List.cons_append, List.nil_append, fSeq, fIfS, fTst, fTAnd, fTOr, fTNot, fBin, fUn, fIx, fVar, fC, sl, ixd0, ixd1, ixd2, ixd3, ixd4, ixl0, ixl1, ixl2, ixl3, ixl4, ixl5, ixl6, ixl7, ixn0, ixn1, ixn2, gLt, gLe, gGt, gGe, gCmp, gIs, gIsNot, gIsB, M.isNone, M.int, M.bool, fSet, fRet, fRetN, fNx, fNot, fAnd, fOr, fIf, fCp, fMv, M.dat, wipeM, backM, Option.getD_some, Option.getD_none, gAdd, gSub, gMulL, gMulR, gMod, gDiv, gp6, gp12, gp13, gp18, gNeg, fPut, fApp, fPop, fDrop, M.lst?, fAsg, fGT, fGcons, fGN, fGnil, fTup, fLst, fACons, fANil, allD, fCall, fRVal, fRSlot, fRNil, amsOf, putBack, gLen, gTuple, gInt, gMax2, gMin2, Option.bind_some, Option.bind_none, Option.bind_eq_bind, List.getElem?_cons_zero, List.getElem?_cons_succ, List.set_cons_zero, List.set_cons_succ, outM, List.map_cons, List.map_nil, szl, Int.cast_ofNat_Int, if_true, if_false, ite_true, ite_false, Bool.false_eq_true, decide_true, decide_false, Bool.not_true, Bool.not_false, Int.reduceNeg, List.length_map, reduceIte, Nat.reduceLeDiff, Nat.reduceLT, Nat.reduceMul, Int.reduceLE, Int.reduceLT, Int.reduceToNat, Int.toNat_one, Int.toNat_zero, Int.reduceAdd, Int.reduceSub, Int.reduceMul, Int.reducePow, Nat.reducePow, Int.zero_add, Nat.zero_add, Nat.lt_add_one, Int.zero_le_ofNat, Option.some.injEq, reduceCtorEq, Prod.mk.injEq, O.nx.injEq, List.cons.injEq, M.d.injEq, PyData.int.injEq, and_self, true_and, and_true, List.append_assoc, List.mem_cons, List.not_mem_nil, Nat.reduceEqDiff, Int.reduceEq, Int.reduceMod, Int.reduceDiv, Int.reduceGT, or_self, or_false, netD, e, Me.data, gEq_int, h1, stepM, stepD, wd_both, h2]

/-! ### ways -/
def prD (x : Int × Int) : PyData := .tuple [.int x.1, .int x.2]
def kid (t : Int) : Option (Int × Int × Int) → List (Int × Int)
  | none => []
  | some (q, s, e) => if t ≤ s then [(q, e)] else []
def kids (ms : List Me) (x : Int × Int) : List (Int × Int) := ms.flatMap fun m => kid x.2 (stepM m x.1)
theorem kid_len (t : Int) (r : Option (Int × Int × Int)) : (kid t r).length ≤ 1 := by
  rcases r with _ | ⟨q, s, e⟩
  · simp [kid]
  · simp only [kid]
    split <;> simp
theorem kids_len (x : Int × Int) : ∀ ms : List Me, (kids ms x).length ≤ ms.length
  | [] => by simp [kids]
  | m :: ms => by
    have := kids_len x ms
    have := kid_len x.2 (stepM m x.1)
    unfold kids at *
    simp only [List.flatMap_cons, List.length_append, List.length_cons]
    omega
theorem range_split {β : Type} {f : Nat → β} {n : Nat} {pre : List β} {y : β} {suf : List β} (h : (List.range n).map f = pre ++ y :: suf) : pre.length < n ∧ y = f pre.length := by
  have hl := congrArg List.length h
  simp only [List.length_map, List.length_range, List.length_append, List.length_cons] at hl
  have hlt : pre.length < n := by omega
  have hg := congrArg (fun l => l[pre.length]?) h
  simp only [List.getElem?_map, List.getElem?_append_right (Nat.le_refl _), Nat.sub_self, List.getElem?_cons_zero] at hg
  rw [List.getElem?_range hlt] at hg
  exact ⟨hlt, by simpa using hg.symm⟩
theorem app_p (L : List (Int × Int)) (x : Int × Int) : (L.map prD).map M.d ++ [M.d (prD x)] = ((L ++ [x]).map prD).map M.d := by simp
theorem fR1_ok {f : FE} {ρ ρ' : MS} {n : Int} (h : f ρ = some (.d (.int n), ρ')) (h0 : 0 ≤ n) (h1 : n ≤ 100000) : fR1 f ρ = some (rangeD 0 n.toNat, ρ') := by
  unfold fR1
  rw [h]
  simp only [Option.bind_some, M.int]
  rw [if_pos ⟨by omega, by omega⟩]
theorem L_ways (many : Int) (ms : List Me) (hl : ms.length ≤ 1000) (a b c : Option M) (q t : Int) (L : List (Int × Int)) (hL : L.length ≤ 100000) (j5 j8 : Option M) : ∃ k5 k8,
    L__law_ways_1 [some (.d (netD many ms)), a, b, some (.lst ((L.map prD).map M.d)), c, j5, some (dI q), some (dI t), j8] =
      some (.nx [some (.d (netD many ms)), a, b, some (.lst (((L ++ kids ms (q, t)).map prD).map M.d)), c, k5, some (dI q), some (dI t), k8]) := by
  have := for_inv (enc := PyData.int) (g := fGN 5) (f := B__law_ways_1)
    (fun pre ρ => ∃ k5 k8, ρ = [some (.d (netD many ms)), a, b, some (.lst (((L ++ kids (ms.take pre.length) (q, t)).map prD).map M.d)), c, k5, some (dI q), some (dI t), k8])
    ((List.range ms.length).map fun i : Nat => 0 + (i : Int)) [] ?_ _ ⟨j5, j8, rfl⟩
  · obtain ⟨ρ', e, k5, k8, rfl⟩ := this
    refine ⟨k5, k8, for_of (ρ1 := [some (.d (netD many ms)), a, b, some (.lst ((L.map prD).map M.d)), c, j5, some (dI q), some (dI t), j8]) (ds := rangeD 0 ms.length) ?_ ?_⟩
    · have e9 : fUn gLen (fIx (fVar 0) (fC (.int 1))) [some (.d (netD many ms)), a, b, some (.lst ((L.map prD).map M.d)), c, j5, some (dI q), some (dI t), j8] = some (.d (.int (ms.length : Int)), [some (.d (netD many ms)), a, b, some (.lst ((L.map prD).map M.d)), c, j5, some (dI q), some (dI t), j8]) := by
        simp only [fDef, List.length_cons, List.length_nil, Nat.reduceAdd, Nat.reduceSub, List.replicate, List.cons_append, List.nil_append, fSeq, fIfS, fTst, fTAnd, fTOr, fTNot, fBin, fUn, fIx, fVar, fC, sl, ixd0, ixd1, ixd2, ixd3, ixd4, ixl0, ixl1, ixl2, ixl3, ixl4, ixl5, ixl6, ixl7, ixn0, ixn1, ixn2, gLt, gLe, gGt, gGe, gCmp, gIs, gIsNot, gIsB, M.isNone, M.int, M.bool, fSet, fRet, fRetN, fNx, fNot, fAnd, fOr, fIf, fCp, fMv, M.dat, wipeM, backM, Option.getD_some, Option.getD_none, gAdd, gSub, gMulL, gMulR, gMod, gDiv, gp6, gp12, gp13, gp18, gNeg, fPut, fApp, fPop, fDrop, M.lst?, fAsg, fGT, fGcons, fGN, fGnil, fTup, fLst, fACons, fANil, allD, fCall, fRVal, fRSlot, fRNil, amsOf, putBack, gLen, gTuple, gInt, gMax2, gMin2, Option.bind_some, Option.bind_none, Option.bind_eq_bind, List.getElem?_cons_zero, List.getElem?_cons_succ, List.set_cons_zero, List.set_cons_succ, outM, List.map_cons, List.map_nil, szl, Int.cast_ofNat_Int, if_true, if_false, ite_true, ite_false, Bool.false_eq_true, decide_true, decide_false, Bool.not_true, Bool.not_false, Int.reduceNeg, List.length_map, reduceIte, Nat.reduceLeDiff, Nat.reduceLT, Nat.reduceMul, Int.reduceLE, Int.reduceLT, Int.reduceToNat, Int.toNat_one, Int.toNat_zero, Int.reduceAdd, Int.reduceSub, Int.reduceMul, Int.reducePow, Nat.reducePow, Int.zero_add, Nat.zero_add, Nat.lt_add_one, Int.zero_le_ofNat, Option.some.injEq, reduceCtorEq, Prod.mk.injEq, O.nx.injEq, List.cons.injEq, M.d.injEq, PyData.int.injEq, and_self, true_and, and_true, List.append_assoc, List.mem_cons, List.not_mem_nil, Nat.reduceEqDiff, Int.reduceEq, Int.reduceMod, Int.reduceDiv, Int.reduceGT, or_self, or_false, netD]
      rw [fR1_ok e9 (by omega) (by omega), Int.toNat_natCast]
    · rw [rangeD_map]
      have h0 : L ++ kids (ms.take ([] : List Int).length) (q, t) = L := by simp [kids]
      have h1 : ms.take ([] ++ (List.range ms.length).map fun i : Nat => (0 : Int) + (i : Int)).length = ms := by
        rw [List.nil_append, List.length_map, List.length_range, List.take_length]
      rw [h0, h1] at e
      exact e
  · rintro pre i suf e ρ ⟨k5, k8, rfl⟩
    obtain ⟨hlt, rfl⟩ := range_split (by simpa only [List.nil_append] using e)
    have hx : ms[pre.length]? = some ms[pre.length] := List.getElem?_eq_getElem hlt
    have es := sp_step many hx q
    have hk : kids (ms.take (pre ++ [(0 : Int) + (pre.length : Int)]).length) (q, t) = kids (ms.take pre.length) (q, t) ++ kid t (stepM ms[pre.length] q) := by
      rw [List.length_append, List.length_cons, List.length_nil, Nat.zero_add, List.take_add_one, hx]
      unfold kids
      rw [List.flatMap_append]
      simp
    rw [hk]
    have hz : (L ++ kids (ms.take pre.length) (q, t)).length < 16777216 := by
      have := kids_len (q, t) (ms.take pre.length)
      rw [List.length_take] at this
      rw [List.length_append]
      omega
    rw [← List.append_assoc]
    generalize hLL : L ++ kids (ms.take pre.length) (q, t) = LL at hz
    simp only [dI, Int.zero_add] at es ⊢
    rcases hs : stepM ms[pre.length] q with _ | ⟨q', s', e'⟩
    · rw [hs] at es
      simp only [kid, List.append_nil]
      refine ⟨_, [some (.d (netD many ms)), a, b, some (.lst ((LL.map prD).map M.d)), c, some (.d (.int (pre.length : Int))), some (.d (.int q)), some (.d (.int t)), some (.d .none)], rfl, .inl ?_, _, _, rfl⟩
      simp only [B__law_ways_1, fDef, List.length_cons, List.length_nil, Nat.reduceAdd, Nat.reduceSub, List.replicate, List.cons_append, List.nil_append, fSeq, fIfS, fTst, fTAnd, fTOr, fTNot, fBin, fUn, fIx, fVar, fC, sl, ixd0, ixd1, ixd2, ixd3, ixd4, ixl0, ixl1, ixl2, ixl3, ixl4, ixl5, ixl6, ixl7, ixn0, ixn1, ixn2, gLt, gLe, gGt, gGe, gCmp, gIs, gIsNot, gIsB, M.isNone, M.int, M.bool, fSet, fRet, fRetN, fNx, fNot, fAnd, fOr, fIf, fCp, fMv, M.dat, wipeM, backM, Option.getD_some, Option.getD_none, gAdd, gSub, gMulL, gMulR, gMod, gDiv, gp6, gp12, gp13, gp18, gNeg, fPut, fApp, fPop, fDrop, M.lst?, fAsg, fGT, fGcons, fGN, fGnil, fTup, fLst, fACons, fANil, allD, fCall, fRVal, fRSlot, fRNil, amsOf, putBack, gLen, gTuple, gInt, gMax2, gMin2, Option.bind_some, Option.bind_none, Option.bind_eq_bind, List.getElem?_cons_zero, List.getElem?_cons_succ, List.set_cons_zero, List.set_cons_succ, outM, List.map_cons, List.map_nil, szl, Int.cast_ofNat_Int, if_true, if_false, ite_true, ite_false, Bool.false_eq_true, decide_true, decide_false, Bool.not_true, Bool.not_false, Int.reduceNeg, List.length_map, reduceIte, Nat.reduceLeDiff, Nat.reduceLT, Nat.reduceMul, Int.reduceLE, Int.reduceLT, Int.reduceToNat, Int.toNat_one, Int.toNat_zero, Int.reduceAdd, Int.reduceSub, Int.reduceMul, Int.reducePow, Nat.reducePow, Int.zero_add, Nat.zero_add, Nat.lt_add_one, Int.zero_le_ofNat, Option.some.injEq, reduceCtorEq, Prod.mk.injEq, O.nx.injEq, List.cons.injEq, M.d.injEq, PyData.int.injEq, and_self, true_and, and_true, List.append_assoc, List.mem_cons, List.not_mem_nil, Nat.reduceEqDiff, Int.reduceEq, Int.reduceMod, Int.reduceDiv, Int.reduceGT, or_self, or_false, es, stepD]
    · rw [hs] at es
      by_cases hts : t ≤ s'
      · simp only [kid, if_pos hts]
        refine ⟨_, [some (.d (netD many ms)), a, b, some (.lst (((LL ++ [(q', e')]).map prD).map M.d)), c, some (.d (.int (pre.length : Int))), some (.d (.int q)), some (.d (.int t)), some (.d (.tuple [.int q', .int s', .int e']))], rfl, .inl ?_, _, _, rfl⟩
        have ep : M.d (.tuple [.int q', .int e']) = M.d (prD (q', e')) := rfl
        simp only [B__law_ways_1, fDef, List.length_cons, List.length_nil, Nat.reduceAdd, Nat.reduceSub, List.replicate, List.cons_append, List.nil_append, fSeq, fIfS, fTst, fTAnd, fTOr, fTNot, fBin, fUn, fIx, fVar, fC, sl, ixd0, ixd1, ixd2, ixd3, ixd4, ixl0, ixl1, ixl2, ixl3, ixl4, ixl5, ixl6, ixl7, ixn0, ixn1, ixn2, gLt, gLe, gGt, gGe, gCmp, gIs, gIsNot, gIsB, M.isNone, M.int, M.bool, fSet, fRet, fRetN, fNx, fNot, fAnd, fOr, fIf, fCp, fMv, M.dat, wipeM, backM, Option.getD_some, Option.getD_none, gAdd, gSub, gMulL, gMulR, gMod, gDiv, gp6, gp12, gp13, gp18, gNeg, fPut, fApp, fPop, fDrop, M.lst?, fAsg, fGT, fGcons, fGN, fGnil, fTup, fLst, fACons, fANil, allD, fCall, fRVal, fRSlot, fRNil, amsOf, putBack, gLen, gTuple, gInt, gMax2, gMin2, Option.bind_some, Option.bind_none, Option.bind_eq_bind, List.getElem?_cons_zero, List.getElem?_cons_succ, List.set_cons_zero, List.set_cons_succ, outM, List.map_cons, List.map_nil, szl, Int.cast_ofNat_Int, if_true, if_false, ite_true, ite_false, Bool.false_eq_true, decide_true, decide_false, Bool.not_true, Bool.not_false, Int.reduceNeg, List.length_map, reduceIte, Nat.reduceLeDiff, Nat.reduceLT, Nat.reduceMul, Int.reduceLE, Int.reduceLT, Int.reduceToNat, Int.toNat_one, Int.toNat_zero, Int.reduceAdd, Int.reduceSub, Int.reduceMul, Int.reducePow, Nat.reducePow, Int.zero_add, Nat.zero_add, Nat.lt_add_one, Int.zero_le_ofNat, Option.some.injEq, reduceCtorEq, Prod.mk.injEq, O.nx.injEq, List.cons.injEq, M.d.injEq, PyData.int.injEq, and_self, true_and, and_true, List.append_assoc, List.mem_cons, List.not_mem_nil, Nat.reduceEqDiff, Int.reduceEq, Int.reduceMod, Int.reduceDiv, Int.reduceGT, or_self, or_false, es, stepD, hts, hz]
        simp only [ep, app_p]
      · simp only [kid, if_neg hts, List.append_nil]
        refine ⟨_, [some (.d (netD many ms)), a, b, some (.lst ((LL.map prD).map M.d)), c, some (.d (.int (pre.length : Int))), some (.d (.int q)), some (.d (.int t)), some (.d (.tuple [.int q', .int s', .int e']))], rfl, .inl ?_, _, _, rfl⟩
        simp only [B__law_ways_1, fDef, List.length_cons, List.length_nil, Nat.reduceAdd, Nat.reduceSub, List.replicate, List.cons_append, List.nil_append, fSeq, fIfS, fTst, fTAnd, fTOr, fTNot, fBin, fUn, fIx, fVar, fC, sl, ixd0, ixd1, ixd2, ixd3, ixd4, ixl0, ixl1, ixl2, ixl3, ixl4, ixl5, ixl6, ixl7, ixn0, ixn1, ixn2, gLt, gLe, gGt, gGe, gCmp, gIs, gIsNot, gIsB, M.isNone, M.int, M.bool, fSet, fRet, fRetN, fNx, fNot, fAnd, fOr, fIf, fCp, fMv, M.dat, wipeM, backM, Option.getD_some, Option.getD_none, gAdd, gSub, gMulL, gMulR, gMod, gDiv, gp6, gp12, gp13, gp18, gNeg, fPut, fApp, fPop, fDrop, M.lst?, fAsg, fGT, fGcons, fGN, fGnil, fTup, fLst, fACons, fANil, allD, fCall, fRVal, fRSlot, fRNil, amsOf, putBack, gLen, gTuple, gInt, gMax2, gMin2, Option.bind_some, Option.bind_none, Option.bind_eq_bind, List.getElem?_cons_zero, List.getElem?_cons_succ, List.set_cons_zero, List.set_cons_succ, outM, List.map_cons, List.map_nil, szl, Int.cast_ofNat_Int, if_true, if_false, ite_true, ite_false, Bool.false_eq_true, decide_true, decide_false, Bool.not_true, Bool.not_false, Int.reduceNeg, List.length_map, reduceIte, Nat.reduceLeDiff, Nat.reduceLT, Nat.reduceMul, Int.reduceLE, Int.reduceLT, Int.reduceToNat, Int.toNat_one, Int.toNat_zero, Int.reduceAdd, Int.reduceSub, Int.reduceMul, Int.reducePow, Nat.reducePow, Int.zero_add, Nat.zero_add, Nat.lt_add_one, Int.zero_le_ofNat, Option.some.injEq, reduceCtorEq, Prod.mk.injEq, O.nx.injEq, List.cons.injEq, M.d.injEq, PyData.int.injEq, and_self, true_and, and_true, List.append_assoc, List.mem_cons, List.not_mem_nil, Nat.reduceEqDiff, Int.reduceEq, Int.reduceMod, Int.reduceDiv, Int.reduceGT, or_self, or_false, es, stepD, hts]
/-! the measure -/
def wt : Nat → Nat
  | 0 => 1
  | n + 1 => 1 + 4 * wt n
def cntS (ms : List Me) (t : Int) : Nat := (ms.filter fun m => decide (t ≤ m.s)).length
def sumW (ms : List Me) (L : List (Int × Int)) : Nat := (L.map fun x => wt (cntS ms x.2)).sum
theorem wt_pos : ∀ n, 1 ≤ wt n
  | 0 => Nat.le_refl _
  | n + 1 => by unfold wt; omega
theorem wt_mono : ∀ {a b : Nat}, a ≤ b → wt a ≤ wt b
  | 0, b, _ => wt_pos b
  | a + 1, 0, h => absurd h (by omega)
  | a + 1, b + 1, h => by
    have := wt_mono (a := a) (b := b) (by omega)
    unfold wt
    omega
theorem cntS_anti {t t' : Int} (h : t ≤ t') : ∀ ms : List Me, cntS ms t' ≤ cntS ms t
  | [] => Nat.le_refl _
  | m :: ms => by
    have ih := cntS_anti h ms
    unfold cntS at *
    simp only [List.filter_cons]
    by_cases a : t' ≤ m.s
    · have b : t ≤ m.s := by omega
      simp only [a, b, decide_true, if_true, List.length_cons]; omega
    · by_cases b : t ≤ m.s
      · simp only [a, b, decide_true, decide_false, if_true, List.length_cons]; simp; omega
      · simp only [a, b, decide_false]; simpa using ih
theorem cntS_lt {t t' : Int} : ∀ {ms : List Me} {m : Me}, m ∈ ms → t ≤ m.s → m.s < t' → cntS ms t' < cntS ms t
  | [], _, h, _, _ => by cases h
  | u :: ms, m, h, h1, h2 => by
    have mono := cntS_anti (show t ≤ t' by omega) ms
    have ih : m ∈ ms → cntS ms t' < cntS ms t := fun h => cntS_lt h h1 h2
    unfold cntS at *
    simp only [List.filter_cons]
    rcases List.mem_cons.mp h with rfl | h
    · have a : ¬ t' ≤ m.s := by omega
      simp only [a, h1, decide_true, decide_false, if_true, List.length_cons]; simp; omega
    · have := ih h
      by_cases a : t' ≤ u.s
      · have b : t ≤ u.s := by omega
        simp only [a, b, decide_true, if_true, List.length_cons]; omega
      · by_cases b : t ≤ u.s
        · simp only [a, b, decide_true, decide_false, if_true, List.length_cons]; simp; omega
        · simp only [a, b, decide_false]; simpa using this
theorem kid_mem {m : Me} {q t : Int} {y : Int × Int} : y ∈ kid t (stepM m q) ↔ ∃ s e, stepM m q = some (y.1, s, e) ∧ t ≤ s ∧ y.2 = e := by
  rcases h : stepM m q with _ | ⟨q', s', e'⟩
  · simp [kid]
  · simp only [kid]
    split
    · rename_i hts
      rw [List.mem_singleton]
      constructor
      · rintro rfl
        exact ⟨s', e', rfl, hts, rfl⟩
      · rintro ⟨s, e, z, _, ez⟩
        cases z
        rw [← ez]
    · rename_i hts
      constructor
      · intro z; cases z
      · rintro ⟨s, e, z, hh, _⟩
        cases z
        exact absurd hh hts
theorem stepM_se {m : Me} {q a s e : Int} (h : stepM m q = some (a, s, e)) : s = m.s ∧ e = m.s + m.l := by
  unfold stepM at h
  split at h
  · simp at h; omega
  · split at h
    · simp at h; omega
    · cases h
theorem kids_sum {ms0 : List Me} (hl0 : ∀ m ∈ ms0, 1 ≤ m.l) (q t : Int) : ∀ ms : List Me, (∀ m ∈ ms, m ∈ ms0) → sumW ms0 (kids ms (q, t)) ≤ ms.length * (wt (cntS ms0 t - 1)) ∧ (kids ms (q, t) ≠ [] → 1 ≤ cntS ms0 t)
  | [], _ => ⟨by simp [kids, sumW], fun h => absurd rfl h⟩
  | m :: ms, hs => by
    obtain ⟨ih1, ih2⟩ := kids_sum hl0 q t ms fun x hx => hs x (by simp [hx])
    have hm := hs m (by simp)
    have hk : ∀ y ∈ kid t (stepM m q), wt (cntS ms0 y.2) ≤ wt (cntS ms0 t - 1) ∧ 1 ≤ cntS ms0 t := fun y hy => by
      obtain ⟨s, e, h1, h2, h3⟩ := kid_mem.mp hy
      obtain ⟨rfl, rfl⟩ := stepM_se h1
      have := hl0 m hm
      have lt := cntS_lt (t := t) (t' := y.2) hm h2 (by omega)
      exact ⟨wt_mono (by omega), by omega⟩
    have hlen := kid_len t (stepM m q)
    unfold kids sumW at *
    simp only [List.flatMap_cons, List.map_append, List.sum_append, List.length_cons]
    constructor
    · have : ((kid t (stepM m q)).map fun x => wt (cntS ms0 x.2)).sum ≤ wt (cntS ms0 t - 1) := by
        match hh : kid t (stepM m q), hlen with
        | [], _ => simp
        | [y], _ => simpa using (hk y (by rw [hh]; simp)).1
      rw [Nat.add_mul, Nat.one_mul]
      simp only at ih1 this ⊢
      omega
    · intro hne
      cases hh : kid t (stepM m q) with
      | nil =>
        rw [hh] at hne
        exact ih2 (by simpa using hne)
      | cons y r => exact (hk y (by rw [hh]; simp)).2
theorem kids_less {ms : List Me} (hl0 : ∀ m ∈ ms, 1 ≤ m.l) (h4 : ms.length ≤ 4) (q t : Int) : sumW ms (kids ms (q, t)) < wt (cntS ms t) := by
  obtain ⟨h1, h2⟩ := kids_sum hl0 q t ms fun _ h => h
  by_cases hk : kids ms (q, t) = []
  · rw [hk]
    have := wt_pos (cntS ms t)
    simp [sumW]
    omega
  · have := h2 hk
    obtain ⟨n, hn⟩ : ∃ n, cntS ms t = n + 1 := ⟨cntS ms t - 1, by omega⟩
    rw [hn] at h1 ⊢
    simp only [Nat.add_sub_cancel] at h1
    have : ms.length * wt n ≤ 4 * wt n := Nat.mul_le_mul_right _ h4
    unfold wt
    omega
theorem sumW_len (ms : List Me) : ∀ L : List (Int × Int), L.length ≤ sumW ms L
  | [] => Nat.zero_le _
  | x :: L => by
    have := sumW_len ms L
    have := wt_pos (cntS ms x.2)
    unfold sumW at *
    simp only [List.map_cons, List.sum_cons, List.length_cons]
    omega
theorem cntS_len (ms : List Me) (t : Int) : cntS ms t ≤ ms.length := List.length_filter_le _ _
/-- what the steps of a net are, from a place -/
theorem kids_mem {ms : List Me} (hne : ∀ m ∈ ms, m.p ≠ m.q) {q t : Int} {y : Int × Int} : y ∈ kids ms (q, t) ↔ ∃ u ∈ stepsL ms, u.p = q ∧ t ≤ u.s ∧ y = (u.q, u.e) := by
  unfold kids
  rw [List.mem_flatMap]
  constructor
  · rintro ⟨m, hm, hy⟩
    obtain ⟨s, e, h1, h2, h3⟩ := kid_mem.mp hy
    obtain ⟨i, hi⟩ := List.getElem?_of_mem hm
    unfold stepM at h1
    split at h1
    · rename_i hq
      simp at h1
      exact ⟨_, mem_steps.mpr ⟨i, m, hi, .inl rfl⟩, hq.symm, by simp only; omega, Prod.ext (by simp only; omega) (by simp only; omega)⟩
    · split at h1
      · rename_i hq
        simp at h1
        exact ⟨_, mem_steps.mpr ⟨i, m, hi, .inr ⟨hq.1, rfl⟩⟩, hq.2.symm, by simp only; omega, Prod.ext (by simp only; omega) (by simp only; omega)⟩
      · cases h1
  · rintro ⟨u, hu, h1, h2, rfl⟩
    obtain ⟨i, m, hi, h⟩ := mem_steps.mp hu
    have hm := List.mem_of_getElem? hi
    have hn := hne m hm
    refine ⟨m, hm, kid_mem.mpr ?_⟩
    rcases h with rfl | ⟨hb, rfl⟩
    · simp only at h1 h2
      exact ⟨m.s, m.s + m.l, by unfold stepM; rw [if_pos h1.symm], h2, rfl⟩
    · simp only at h1 h2
      exact ⟨m.s, m.s + m.l, by unfold stepM; rw [if_neg (fun z => hn (z.symm.trans h1.symm)), if_pos ⟨hb, h1.symm⟩], h2, rfl⟩
end DL
namespace DL
open L2 PySem.Spec PySem PyProof.Rows

theorem fSeq_nx {f g : FS} {ρ ρ' : MS} {o : Option O} (h : f ρ = some (.nx ρ')) (h2 : g ρ' = o) : fSeq f g ρ = o := by
  unfold fSeq
  rw [h]
  exact h2
theorem fDef_rt {n N : Nat} {as : List Nat} {f : FS} {ms ρ : MS} {m : M} {r : MS} (hl : ms.length = n) (h : f (ms ++ List.replicate (N - n) none) = some (.rt m ρ)) (hr : outM as 0 ms ρ = r) : fDef n N as f ms = some (m, r) := by
  unfold fDef
  rw [if_pos hl, h, ← hr]
  rfl
theorem fCall_ok {js : List (Option Nat)} {F : FF} {g : FR} {ρ ρ1 ρ2 : MS} {ms : List (Option M)} {ams : List M} {r : M} {outs : MS} (hg : g ρ = some (ms, ρ1)) (ha : amsOf js ms ρ1 = some ams) (hF : F (ams.map some) = some (r, outs)) (hp : putBack js outs ρ1 = ρ2) : fCall js F g ρ = some (r, ρ2) := by
  unfold fCall
  rw [hg]
  simp only [Option.bind_some]
  rw [ha]
  simp only [Option.bind_some]
  rw [hF, ← hp]
  rfl
theorem gIx_P {L : List (Int × Int)} {k : Nat} {x : Int × Int} (h : L[k]? = some x) : gIx (.lst ((L.map prD).map M.d)) (k : Int) = some (.d (prD x)) := by
  simp only [gIx, atI_nat, List.getElem?_map, h, Option.map_some]
theorem W_ways {many : Int} {ms : List Me} (N : okN many ms) (h4 : ms.length ≤ 4) (p t : Int) (a b : Option M) : ∃ (L : List (Int × Int)) (k4 k5 k6 k7 k8 : Option M), L.length ≤ 341 ∧ (∀ q z, (q, z) ∈ L ↔ Way (· ∈ stepsL ms) p t q z) ∧
    W__law_ways_1 [some (.d (netD many ms)), a, b, some (.lst (([(p, t)].map prD).map M.d)), some (dI 0), none, none, none, none] = some (.nx [some (.d (netD many ms)), a, b, some (.lst ((L.map prD).map M.d)), k4, k5, k6, k7, k8]) := by
  have hne : ∀ m ∈ ms, m.p ≠ m.q := fun m hm => (N.ok m hm).2.2.2.2.1
  have hl1 : ∀ m ∈ ms, 1 ≤ m.l := fun m hm => (N.ok m hm).2.2.2.2.2.2
  have w0 : sumW ms [(p, t)] ≤ 341 := by
    have h1 : wt (cntS ms t) ≤ wt 4 := wt_mono (Nat.le_trans (cntS_len ms t) h4)
    have h2 : wt 4 = 341 := by decide
    simp [sumW]
    omega
  have := whl_inv (t := T__law_ways_1) (f := B__law_ways_2)
    (fun μ ρ => ∃ (L : List (Int × Int)) (k : Nat) (K : Int) (k5 k6 k7 k8 : Option M), K = (k : Int) ∧ k ≤ L.length ∧ sumW ms (L.drop k) = μ ∧ k + μ ≤ 341 ∧ (p, t) ∈ L ∧ (∀ x ∈ L, Way (· ∈ stepsL ms) p t x.1 x.2) ∧ (∀ x ∈ L.take k, ∀ y ∈ kids ms x, y ∈ L) ∧
      ρ = [some (.d (netD many ms)), a, b, some (.lst ((L.map prD).map M.d)), some (dI K), k5, k6, k7, k8])
    (fun ρ => ∃ (L : List (Int × Int)) (k4 k5 k6 k7 k8 : Option M), L.length ≤ 341 ∧ (∀ q z, (q, z) ∈ L ↔ Way (· ∈ stepsL ms) p t q z) ∧ ρ = [some (.d (netD many ms)), a, b, some (.lst ((L.map prD).map M.d)), k4, k5, k6, k7, k8])
    ?_ 4000 (sumW ms [(p, t)]) _ (by omega) ⟨[(p, t)], 0, 0, none, none, none, none, rfl, Nat.zero_le _, rfl, by omega, by simp, fun x hx => by rw [List.mem_singleton.mp hx]; exact .nil _ _, by simp, rfl⟩
  · obtain ⟨ρ', e, L, k4, k5, k6, k7, k8, h1, h2, rfl⟩ := this
    exact ⟨L, k4, k5, k6, k7, k8, h1, h2, e⟩
  · rintro μ ρ ⟨L, k, K, k5, k6, k7, k8, hK, hk, hμ, hb, hst, hs, hc, rfl⟩
    have hlen : L.length ≤ 341 := by
      have := sumW_len ms (L.drop k)
      rw [List.length_drop] at this
      omega
    refine ⟨decide (K < (L.length : Int)), [some (.d (netD many ms)), a, b, some (.lst ((L.map prD).map M.d)), some (dI K), k5, k6, k7, k8], by simp only [T__law_ways_1, fDef, List.length_cons, List.length_nil, Nat.reduceAdd, Nat.reduceSub, List.replicate, List.cons_append, List.nil_append, fSeq, fIfS, fTst, fTAnd, fTOr, fTNot, fBin, fUn, fIx, fVar, fC, sl, ixd0, ixd1, ixd2, ixd3, ixd4, ixl0, ixl1, ixl2, ixl3, ixl4, ixl5, ixl6, ixl7, ixn0, ixn1, ixn2, gLt, gLe, gGt, gGe, gCmp, gIs, gIsNot, gIsB, M.isNone, M.int, M.bool, fSet, fRet, fRetN, fNx, fNot, fAnd, fOr, fIf, fCp, fMv, M.dat, wipeM, backM, Option.getD_some, Option.getD_none, gAdd, gSub, gMulL, gMulR, gMod, gDiv, gp6, gp12, gp13, gp18, gNeg, fPut, fApp, fPop, fDrop, M.lst?, fAsg, fGT, fGcons, fGN, fGnil, fTup, fLst, fACons, fANil, allD, fCall, fRVal, fRSlot, fRNil, amsOf, putBack, gLen, gTuple, gInt, gMax2, gMin2, Option.bind_some, Option.bind_none, Option.bind_eq_bind, List.getElem?_cons_zero, List.getElem?_cons_succ, List.set_cons_zero, List.set_cons_succ, outM, List.map_cons, List.map_nil, szl, Int.cast_ofNat_Int, if_true, if_false, ite_true, ite_false, Bool.false_eq_true, decide_true, decide_false, Bool.not_true, Bool.not_false, Int.reduceNeg, List.length_map, reduceIte, Nat.reduceLeDiff, Nat.reduceLT, Nat.reduceMul, Int.reduceLE, Int.reduceLT, Int.reduceToNat, Int.toNat_one, Int.toNat_zero, Int.reduceAdd, Int.reduceSub, Int.reduceMul, Int.reducePow, Nat.reducePow, Int.zero_add, Nat.zero_add, Nat.lt_add_one, Int.zero_le_ofNat, Option.some.injEq, reduceCtorEq, Prod.mk.injEq, O.nx.injEq, List.cons.injEq, M.d.injEq, PyData.int.injEq, and_self, true_and, and_true, List.append_assoc, List.mem_cons, List.not_mem_nil, Nat.reduceEqDiff, Int.reduceEq, Int.reduceMod, Int.reduceDiv, Int.reduceGT, or_self, or_false], fun z => ?_, fun z => ?_⟩
    · have hkl : k = L.length := by
        have : ¬ K < (L.length : Int) := by simpa using z
        omega
      refine ⟨L, _, k5, k6, k7, k8, hlen, fun q z => ⟨fun h => hs (q, z) h, fun w => ?_⟩, rfl⟩
      rw [hkl, List.take_length] at hc
      clear hμ hb
      induction w with
      | nil => exact hst
      | @snoc q0 t' u w hu e l ih => exact hc (q0, t') ih (u.q, u.e) ((kids_mem hne).mpr ⟨u, hu, e, l, rfl⟩)
    · have hkl : k < L.length := by
        have : K < (L.length : Int) := by simpa using z
        omega
      have hx : L[k]? = some L[k] := List.getElem?_eq_getElem hkl
      have hmem : L[k] ∈ L := List.getElem_mem hkl
      have hdrop : L.drop k = L[k] :: L.drop (k + 1) := by rw [List.drop_eq_getElem_cons hkl]
      have htake : (L ++ kids ms L[k]).take (k + 1) = L.take k ++ [L[k]] := by
        rw [List.take_append_of_le_length (by omega), List.take_add_one, hx]
        rfl
      generalize hxx : L[k] = x at hx hmem hdrop htake
      obtain ⟨q, t'⟩ := x
      have ix := gIx_P hx
      rw [← hK] at ix
      have less := kids_less hl1 h4 q t'
      obtain ⟨j5, j8, eL⟩ := L_ways many ms (by omega) a b (some (dI K)) q t' L (by omega) k5 k8
      have hsum : sumW ms ((L ++ kids ms (q, t')).drop (k + 1)) = sumW ms (L.drop (k + 1)) + sumW ms (kids ms (q, t')) := by
        rw [List.drop_append_of_le_length (by omega)]
        unfold sumW
        rw [List.map_append, List.sum_append]
      have hsum2 : μ = wt (cntS ms t') + sumW ms (L.drop (k + 1)) := by
        rw [← hμ, hdrop]
        unfold sumW
        rw [List.map_cons, List.sum_cons]
      simp only [prD] at ix
      refine ⟨[some (.d (netD many ms)), a, b, some (.lst (((L ++ kids ms (q, t')).map prD).map M.d)), some (dI (K + 1)), j5, some (dI q), some (dI t'), j8], sumW ms ((L ++ kids ms (q, t')).drop (k + 1)), ?_, ?_, L ++ kids ms (q, t'), k + 1, K + 1, j5, some (dI q), some (dI t'), j8, by omega, ?_, rfl, ?_, ?_, ?_, ?_, rfl⟩
      · simp only [dI] at eL
        refine fSeq_nx (ρ' := [some (.d (netD many ms)), a, b, some (.lst ((L.map prD).map M.d)), some (dI K), k5, some (dI q), some (dI t'), k8]) ?_ (fSeq_nx eL ?_)
        · simp only [fDef, List.length_cons, List.length_nil, Nat.reduceAdd, Nat.reduceSub, List.replicate, List.cons_append, List.nil_append, fSeq, fIfS, fTst, fTAnd, fTOr, fTNot, fBin, fUn, fIx, fVar, fC, sl, ixd0, ixd1, ixd2, ixd3, ixd4, ixl0, ixl1, ixl2, ixl3, ixl4, ixl5, ixl6, ixl7, ixn0, ixn1, ixn2, gLt, gLe, gGt, gGe, gCmp, gIs, gIsNot, gIsB, M.isNone, M.int, M.bool, fSet, fRet, fRetN, fNx, fNot, fAnd, fOr, fIf, fCp, fMv, M.dat, wipeM, backM, Option.getD_some, Option.getD_none, gAdd, gSub, gMulL, gMulR, gMod, gDiv, gp6, gp12, gp13, gp18, gNeg, fPut, fApp, fPop, fDrop, M.lst?, fAsg, fGT, fGcons, fGN, fGnil, fTup, fLst, fACons, fANil, allD, fCall, fRVal, fRSlot, fRNil, amsOf, putBack, gLen, gTuple, gInt, gMax2, gMin2, Option.bind_some, Option.bind_none, Option.bind_eq_bind, List.getElem?_cons_zero, List.getElem?_cons_succ, List.set_cons_zero, List.set_cons_succ, outM, List.map_cons, List.map_nil, szl, Int.cast_ofNat_Int, if_true, if_false, ite_true, ite_false, Bool.false_eq_true, decide_true, decide_false, Bool.not_true, Bool.not_false, Int.reduceNeg, List.length_map, reduceIte, Nat.reduceLeDiff, Nat.reduceLT, Nat.reduceMul, Int.reduceLE, Int.reduceLT, Int.reduceToNat, Int.toNat_one, Int.toNat_zero, Int.reduceAdd, Int.reduceSub, Int.reduceMul, Int.reducePow, Nat.reducePow, Int.zero_add, Nat.zero_add, Nat.lt_add_one, Int.zero_le_ofNat, Option.some.injEq, reduceCtorEq, Prod.mk.injEq, O.nx.injEq, List.cons.injEq, M.d.injEq, PyData.int.injEq, and_self, true_and, and_true, List.append_assoc, List.mem_cons, List.not_mem_nil, Nat.reduceEqDiff, Int.reduceEq, Int.reduceMod, Int.reduceDiv, Int.reduceGT, or_self, or_false, ix]
        · simp only [fDef, List.length_cons, List.length_nil, Nat.reduceAdd, Nat.reduceSub, List.replicate, List.cons_append, List.nil_append, fSeq, fIfS, fTst, fTAnd, fTOr, fTNot, fBin, fUn, fIx, fVar, fC, sl, ixd0, ixd1, ixd2, ixd3, ixd4, ixl0, ixl1, ixl2, ixl3, ixl4, ixl5, ixl6, ixl7, ixn0, ixn1, ixn2, gLt, gLe, gGt, gGe, gCmp, gIs, gIsNot, gIsB, M.isNone, M.int, M.bool, fSet, fRet, fRetN, fNx, fNot, fAnd, fOr, fIf, fCp, fMv, M.dat, wipeM, backM, Option.getD_some, Option.getD_none, gAdd, gSub, gMulL, gMulR, gMod, gDiv, gp6, gp12, gp13, gp18, gNeg, fPut, fApp, fPop, fDrop, M.lst?, fAsg, fGT, fGcons, fGN, fGnil, fTup, fLst, fACons, fANil, allD, fCall, fRVal, fRSlot, fRNil, amsOf, putBack, gLen, gTuple, gInt, gMax2, gMin2, Option.bind_some, Option.bind_none, Option.bind_eq_bind, List.getElem?_cons_zero, List.getElem?_cons_succ, List.set_cons_zero, List.set_cons_succ, outM, List.map_cons, List.map_nil, szl, Int.cast_ofNat_Int, if_true, if_false, ite_true, ite_false, Bool.false_eq_true, decide_true, decide_false, Bool.not_true, Bool.not_false, Int.reduceNeg, List.length_map, reduceIte, Nat.reduceLeDiff, Nat.reduceLT, Nat.reduceMul, Int.reduceLE, Int.reduceLT, Int.reduceToNat, Int.toNat_one, Int.toNat_zero, Int.reduceAdd, Int.reduceSub, Int.reduceMul, Int.reducePow, Nat.reducePow, Int.zero_add, Nat.zero_add, Nat.lt_add_one, Int.zero_le_ofNat, Option.some.injEq, reduceCtorEq, Prod.mk.injEq, O.nx.injEq, List.cons.injEq, M.d.injEq, PyData.int.injEq, and_self, true_and, and_true, List.append_assoc, List.mem_cons, List.not_mem_nil, Nat.reduceEqDiff, Int.reduceEq, Int.reduceMod, Int.reduceDiv, Int.reduceGT, or_self, or_false]
      · omega
      · rw [List.length_append]
        omega
      · omega
      · simp [hst]
      · intro y hy
        rcases List.mem_append.mp hy with hy | hy
        · exact hs y hy
        · obtain ⟨u, hu, e, l, rfl⟩ := (kids_mem hne).mp hy
          exact .snoc (hs (q, t') hmem) hu e l
      · rw [htake]
        intro y hy z hz
        rcases List.mem_append.mp hy with hy | hy
        · exact List.mem_append_left _ (hc y hy z hz)
        · rw [List.mem_singleton.mp hy] at hz
          exact List.mem_append_right _ hz
theorem sp_ways {many : Int} {ms : List Me} (N : okN many ms) (h4 : ms.length ≤ 4) (p t : Int) : ∃ L : List (Int × Int), L.length ≤ 341 ∧ (∀ q z, (q, z) ∈ L ↔ Way (· ∈ stepsL ms) p t q z) ∧
    d__law_ways [some (.d (netD many ms)), some (dI p), some (dI t)] = some (.lst ((L.map prD).map M.d), [some (.d (netD many ms)), some (dI p), some (dI t)]) := by
  obtain ⟨L, k4, k5, k6, k7, k8, h1, h2, e⟩ := W_ways N h4 p t (some (dI p)) (some (dI t))
  refine ⟨L, h1, h2, ?_⟩
  refine fDef_rt rfl (fSeq_nx (ρ' := [some (.d (netD many ms)), some (dI p), some (dI t), some (.lst (([(p, t)].map prD).map M.d)), none, none, none, none, none]) ?_ (fSeq_nx (ρ' := [some (.d (netD many ms)), some (dI p), some (dI t), some (.lst (([(p, t)].map prD).map M.d)), some (dI 0), none, none, none, none]) ?_ (fSeq_nx e ?_))) (ρ := [some (.d (netD many ms)), some (dI p), some (dI t), none, k4, k5, k6, k7, k8]) ?_
  · simp only [fDef, List.length_cons, List.length_nil, Nat.reduceAdd, Nat.reduceSub, List.replicate, List.cons_append, List.nil_append, fSeq, fIfS, fTst, fTAnd, fTOr, fTNot, fBin, fUn, fIx, fVar, fC, sl, ixd0, ixd1, ixd2, ixd3, ixd4, ixl0, ixl1, ixl2, ixl3, ixl4, ixl5, ixl6, ixl7, ixn0, ixn1, ixn2, gLt, gLe, gGt, gGe, gCmp, gIs, gIsNot, gIsB, M.isNone, M.int, M.bool, fSet, fRet, fRetN, fNx, fNot, fAnd, fOr, fIf, fCp, fMv, M.dat, wipeM, backM, Option.getD_some, Option.getD_none, gAdd, gSub, gMulL, gMulR, gMod, gDiv, gp6, gp12, gp13, gp18, gNeg, fPut, fApp, fPop, fDrop, M.lst?, fAsg, fGT, fGcons, fGN, fGnil, fTup, fLst, fACons, fANil, allD, fCall, fRVal, fRSlot, fRNil, amsOf, putBack, gLen, gTuple, gInt, gMax2, gMin2, Option.bind_some, Option.bind_none, Option.bind_eq_bind, List.getElem?_cons_zero, List.getElem?_cons_succ, List.set_cons_zero, List.set_cons_succ, outM, List.map_cons, List.map_nil, szl, Int.cast_ofNat_Int, if_true, if_false, ite_true, ite_false, Bool.false_eq_true, decide_true, decide_false, Bool.not_true, Bool.not_false, Int.reduceNeg, List.length_map, reduceIte, Nat.reduceLeDiff, Nat.reduceLT, Nat.reduceMul, Int.reduceLE, Int.reduceLT, Int.reduceToNat, Int.toNat_one, Int.toNat_zero, Int.reduceAdd, Int.reduceSub, Int.reduceMul, Int.reducePow, Nat.reducePow, Int.zero_add, Nat.zero_add, Nat.lt_add_one, Int.zero_le_ofNat, Option.some.injEq, reduceCtorEq, Prod.mk.injEq, O.nx.injEq, List.cons.injEq, M.d.injEq, PyData.int.injEq, and_self, true_and, and_true, List.append_assoc, List.mem_cons, List.not_mem_nil, Nat.reduceEqDiff, Int.reduceEq, Int.reduceMod, Int.reduceDiv, Int.reduceGT, or_self, or_false, prD]
  · simp only [fDef, List.length_cons, List.length_nil, Nat.reduceAdd, Nat.reduceSub, List.replicate, List.cons_append, List.nil_append, fSeq, fIfS, fTst, fTAnd, fTOr, fTNot, fBin, fUn, fIx, fVar, fC, sl, ixd0, ixd1, ixd2, ixd3, ixd4, ixl0, ixl1, ixl2, ixl3, ixl4, ixl5, ixl6, ixl7, ixn0, ixn1, ixn2, gLt, gLe, gGt, gGe, gCmp, gIs, gIsNot, gIsB, M.isNone, M.int, M.bool, fSet, fRet, fRetN, fNx, fNot, fAnd, fOr, fIf, fCp, fMv, M.dat, wipeM, backM, Option.getD_some, Option.getD_none, gAdd, gSub, gMulL, gMulR, gMod, gDiv, gp6, gp12, gp13, gp18, gNeg, fPut, fApp, fPop, fDrop, M.lst?, fAsg, fGT, fGcons, fGN, fGnil, fTup, fLst, fACons, fANil, allD, fCall, fRVal, fRSlot, fRNil, amsOf, putBack, gLen, gTuple, gInt, gMax2, gMin2, Option.bind_some, Option.bind_none, Option.bind_eq_bind, List.getElem?_cons_zero, List.getElem?_cons_succ, List.set_cons_zero, List.set_cons_succ, outM, List.map_cons, List.map_nil, szl, Int.cast_ofNat_Int, if_true, if_false, ite_true, ite_false, Bool.false_eq_true, decide_true, decide_false, Bool.not_true, Bool.not_false, Int.reduceNeg, List.length_map, reduceIte, Nat.reduceLeDiff, Nat.reduceLT, Nat.reduceMul, Int.reduceLE, Int.reduceLT, Int.reduceToNat, Int.toNat_one, Int.toNat_zero, Int.reduceAdd, Int.reduceSub, Int.reduceMul, Int.reducePow, Nat.reducePow, Int.zero_add, Nat.zero_add, Nat.lt_add_one, Int.zero_le_ofNat, Option.some.injEq, reduceCtorEq, Prod.mk.injEq, O.nx.injEq, List.cons.injEq, M.d.injEq, PyData.int.injEq, and_self, true_and, and_true, List.append_assoc, List.mem_cons, List.not_mem_nil, Nat.reduceEqDiff, Int.reduceEq, Int.reduceMod, Int.reduceDiv, Int.reduceGT, or_self, or_false]
  · simp only [fDef, List.length_cons, List.length_nil, Nat.reduceAdd, Nat.reduceSub, List.replicate, List.cons_append, List.nil_append, fSeq, fIfS, fTst, fTAnd, fTOr, fTNot, fBin, fUn, fIx, fVar, fC, sl, ixd0, ixd1, ixd2, ixd3, ixd4, ixl0, ixl1, ixl2, ixl3, ixl4, ixl5, ixl6, ixl7, ixn0, ixn1, ixn2, gLt, gLe, gGt, gGe, gCmp, gIs, gIsNot, gIsB, M.isNone, M.int, M.bool, fSet, fRet, fRetN, fNx, fNot, fAnd, fOr, fIf, fCp, fMv, M.dat, wipeM, backM, Option.getD_some, Option.getD_none, gAdd, gSub, gMulL, gMulR, gMod, gDiv, gp6, gp12, gp13, gp18, gNeg, fPut, fApp, fPop, fDrop, M.lst?, fAsg, fGT, fGcons, fGN, fGnil, fTup, fLst, fACons, fANil, allD, fCall, fRVal, fRSlot, fRNil, amsOf, putBack, gLen, gTuple, gInt, gMax2, gMin2, Option.bind_some, Option.bind_none, Option.bind_eq_bind, List.getElem?_cons_zero, List.getElem?_cons_succ, List.set_cons_zero, List.set_cons_succ, outM, List.map_cons, List.map_nil, szl, Int.cast_ofNat_Int, if_true, if_false, ite_true, ite_false, Bool.false_eq_true, decide_true, decide_false, Bool.not_true, Bool.not_false, Int.reduceNeg, List.length_map, reduceIte, Nat.reduceLeDiff, Nat.reduceLT, Nat.reduceMul, Int.reduceLE, Int.reduceLT, Int.reduceToNat, Int.toNat_one, Int.toNat_zero, Int.reduceAdd, Int.reduceSub, Int.reduceMul, Int.reducePow, Nat.reducePow, Int.zero_add, Nat.zero_add, Nat.lt_add_one, Int.zero_le_ofNat, Option.some.injEq, reduceCtorEq, Prod.mk.injEq, O.nx.injEq, List.cons.injEq, M.d.injEq, PyData.int.injEq, and_self, true_and, and_true, List.append_assoc, List.mem_cons, List.not_mem_nil, Nat.reduceEqDiff, Int.reduceEq, Int.reduceMod, Int.reduceDiv, Int.reduceGT, or_self, or_false]
  · simp only [fDef, List.length_cons, List.length_nil, Nat.reduceAdd, Nat.reduceSub, List.replicate, List.cons_append, List.nil_append, fSeq, fIfS, fTst, fTAnd, fTOr, fTNot, fBin, fUn, fIx, fVar, fC, sl, ixd0, ixd1, ixd2, ixd3, ixd4, ixl0, ixl1, ixl2, ixl3, ixl4, ixl5, ixl6, ixl7, ixn0, ixn1, ixn2, gLt, gLe, gGt, gGe, gCmp, gIs, gIsNot, gIsB, M.isNone, M.int, M.bool, fSet, fRet, fRetN, fNx, fNot, fAnd, fOr, fIf, fCp, fMv, M.dat, wipeM, backM, Option.getD_some, Option.getD_none, gAdd, gSub, gMulL, gMulR, gMod, gDiv, gp6, gp12, gp13, gp18, gNeg, fPut, fApp, fPop, fDrop, M.lst?, fAsg, fGT, fGcons, fGN, fGnil, fTup, fLst, fACons, fANil, allD, fCall, fRVal, fRSlot, fRNil, amsOf, putBack, gLen, gTuple, gInt, gMax2, gMin2, Option.bind_some, Option.bind_none, Option.bind_eq_bind, List.getElem?_cons_zero, List.getElem?_cons_succ, List.set_cons_zero, List.set_cons_succ, outM, List.map_cons, List.map_nil, szl, Int.cast_ofNat_Int, if_true, if_false, ite_true, ite_false, Bool.false_eq_true, decide_true, decide_false, Bool.not_true, Bool.not_false, Int.reduceNeg, List.length_map, reduceIte, Nat.reduceLeDiff, Nat.reduceLT, Nat.reduceMul, Int.reduceLE, Int.reduceLT, Int.reduceToNat, Int.toNat_one, Int.toNat_zero, Int.reduceAdd, Int.reduceSub, Int.reduceMul, Int.reducePow, Nat.reducePow, Int.zero_add, Nat.zero_add, Nat.lt_add_one, Int.zero_le_ofNat, Option.some.injEq, reduceCtorEq, Prod.mk.injEq, O.nx.injEq, List.cons.injEq, M.d.injEq, PyData.int.injEq, and_self, true_and, and_true, List.append_assoc, List.mem_cons, List.not_mem_nil, Nat.reduceEqDiff, Int.reduceEq, Int.reduceMod, Int.reduceDiv, Int.reduceGT, or_self, or_false]
/-! ### answers -/
theorem gNe_ints (ns : List Int) : gNe (.lst (ns.map fun n => M.d (.int n))) (.lst []) = some (.d (.bool (!ns.isEmpty))) := by
  letI : Decidable (PyData.list (ns.map .int) = .list []) := if h : ns = [] then isTrue (by rw [h]; rfl) else isFalse (by simpa using h)
  have e : (ns.map fun n => M.d (.int n)) = (ns.map PyData.int).map M.d := by rw [List.map_map]; rfl
  have ok : okE (.list (ns.map .int)) := okE_ints ns
  rw [e, gNe_ok (m := .lst ((ns.map PyData.int).map M.d)) (n := .lst []) (d := .list (ns.map .int)) (e := .list []) (by simp only [M.py, pyAll_map, Option.bind_some]) (by simp [M.py, pyAll]) ok (okE_ints [])]
  cases ns with
  | nil => simp
  | cons x r => simp
theorem sp_answers {many : Int} {ms : List Me} (N : okN many ms) (h4 : ms.length ≤ 4) (p t q by' : Int) : ∃ b : Bool, d__law_answers [some (.d (netD many ms)), some (.d (.tuple [.int p, .int t, .int q, .int by']))] = some (.d (.bool b), [some (.d (netD many ms)), some (.d (.tuple [.int p, .int t, .int q, .int by']))]) ∧
    (b = true ↔ ∃ z, z ≤ by' ∧ Way (· ∈ stepsL ms) p t q z) := by
  obtain ⟨L, hl, hL, e⟩ := sp_ways N h4 p t
  have c : C__law_answers_1 [some (.d (netD many ms)), some (.d (.tuple [.int p, .int t, .int q, .int by'])), some (dI p), some (dI t), some (dI q), some (dI by'), none, none] =
      some (.lst ((L.filter fun x => decide (x.1 = q) && decide (x.2 ≤ by')).map fun x => .d (.int x.2)), [some (.d (netD many ms)), some (.d (.tuple [.int p, .int t, .int q, .int by'])), some (dI p), some (dI t), some (dI q), some (dI by'), none, none]) := by
    refine lc_spec (enc := prD) (ys := L) (ρ1 := [some (.d (netD many ms)), some (.d (.tuple [.int p, .int t, .int q, .int by'])), some (dI p), some (dI t), some (dI q), some (dI by'), none, none]) (fun x => decide (x.1 = q) && decide (x.2 ≤ by')) (fun x => .d (.int x.2)) ?_ ?_ (by rw [szl]; omega) rfl
    · have e9 : fCall [none, none, none] d__law_ways (fRVal (fCp (fVar 0)) (fRVal (fCp (fVar 2)) (fRVal (fCp (fVar 3)) (fRNil)))) [some (.d (netD many ms)), some (.d (.tuple [.int p, .int t, .int q, .int by'])), some (dI p), some (dI t), some (dI q), some (dI by'), none, none] =
          some (.lst ((L.map prD).map M.d), [some (.d (netD many ms)), some (.d (.tuple [.int p, .int t, .int q, .int by'])), some (dI p), some (dI t), some (dI q), some (dI by'), none, none]) :=
        fCall_ok rfl rfl e rfl
      unfold fIS
      rw [e9]
      simp only [Option.bind_some, M.its, allD_map]
    · intro x _
      refine ⟨[some (.d (netD many ms)), some (.d (.tuple [.int p, .int t, .int q, .int by'])), some (dI p), some (dI t), some (dI q), some (dI by'), some (dI x.2), some (dI x.1)], [some (.d (netD many ms)), some (.d (.tuple [.int p, .int t, .int q, .int by'])), some (dI p), some (dI t), some (dI q), some (dI by'), some (dI x.2), some (dI x.1)], rfl, ?_, fun _ => rfl, fun _ => ⟨[some (.d (netD many ms)), some (.d (.tuple [.int p, .int t, .int q, .int by'])), some (dI p), some (dI t), some (dI q), some (dI by'), some (dI x.2), some (dI x.1)], ?_, rfl⟩⟩
      · by_cases h : x.1 = q
        · simp only [fDef, List.length_cons, List.length_nil, Nat.reduceAdd, Nat.reduceSub, List.replicate, List.cons_append, List.nil_append, fSeq, fIfS, fTst, fTAnd, fTOr, fTNot, fBin, fUn, fIx, fVar, fC, sl, ixd0, ixd1, ixd2, ixd3, ixd4, ixl0, ixl1, ixl2, ixl3, ixl4, ixl5, ixl6, ixl7, ixn0, ixn1, ixn2, gLt, gLe, gGt, gGe, gCmp, gIs, gIsNot, gIsB, M.isNone, M.int, M.bool, fSet, fRet, fRetN, fNx, fNot, fAnd, fOr, fIf, fCp, fMv, M.dat, wipeM, backM, Option.getD_some, Option.getD_none, gAdd, gSub, gMulL, gMulR, gMod, gDiv, gp6, gp12, gp13, gp18, gNeg, fPut, fApp, fPop, fDrop, M.lst?, fAsg, fGT, fGcons, fGN, fGnil, fTup, fLst, fACons, fANil, allD, fCall, fRVal, fRSlot, fRNil, amsOf, putBack, gLen, gTuple, gInt, gMax2, gMin2, Option.bind_some, Option.bind_none, Option.bind_eq_bind, List.getElem?_cons_zero, List.getElem?_cons_succ, List.set_cons_zero, List.set_cons_succ, outM, List.map_cons, List.map_nil, szl, Int.cast_ofNat_Int, if_true, if_false, ite_true, ite_false, Bool.false_eq_true, decide_true, decide_false, Bool.not_true, Bool.not_false, Int.reduceNeg, List.length_map, reduceIte, Nat.reduceLeDiff, Nat.reduceLT, Nat.reduceMul, Int.reduceLE, Int.reduceLT, Int.reduceToNat, Int.toNat_one, Int.toNat_zero, Int.reduceAdd, Int.reduceSub, Int.reduceMul, Int.reducePow, Nat.reducePow, Int.zero_add, Nat.zero_add, Nat.lt_add_one, Int.zero_le_ofNat, Option.some.injEq, reduceCtorEq, Prod.mk.injEq, O.nx.injEq, List.cons.injEq, M.d.injEq, PyData.int.injEq, and_self, true_and, and_true, List.append_assoc, List.mem_cons, List.not_mem_nil, Nat.reduceEqDiff, Int.reduceEq, Int.reduceMod, Int.reduceDiv, Int.reduceGT, or_self, or_false, gEq_int, h, Bool.true_and]
        · simp only [fDef, List.length_cons, List.length_nil, Nat.reduceAdd, Nat.reduceSub, List.replicate, List.cons_append, List.nil_append, fSeq, fIfS, fTst, fTAnd, fTOr, fTNot, fBin, fUn, fIx, fVar, fC, sl, ixd0, ixd1, ixd2, ixd3, ixd4, ixl0, ixl1, ixl2, ixl3, ixl4, ixl5, ixl6, ixl7, ixn0, ixn1, ixn2, gLt, gLe, gGt, gGe, gCmp, gIs, gIsNot, gIsB, M.isNone, M.int, M.bool, fSet, fRet, fRetN, fNx, fNot, fAnd, fOr, fIf, fCp, fMv, M.dat, wipeM, backM, Option.getD_some, Option.getD_none, gAdd, gSub, gMulL, gMulR, gMod, gDiv, gp6, gp12, gp13, gp18, gNeg, fPut, fApp, fPop, fDrop, M.lst?, fAsg, fGT, fGcons, fGN, fGnil, fTup, fLst, fACons, fANil, allD, fCall, fRVal, fRSlot, fRNil, amsOf, putBack, gLen, gTuple, gInt, gMax2, gMin2, Option.bind_some, Option.bind_none, Option.bind_eq_bind, List.getElem?_cons_zero, List.getElem?_cons_succ, List.set_cons_zero, List.set_cons_succ, outM, List.map_cons, List.map_nil, szl, Int.cast_ofNat_Int, if_true, if_false, ite_true, ite_false, Bool.false_eq_true, decide_true, decide_false, Bool.not_true, Bool.not_false, Int.reduceNeg, List.length_map, reduceIte, Nat.reduceLeDiff, Nat.reduceLT, Nat.reduceMul, Int.reduceLE, Int.reduceLT, Int.reduceToNat, Int.toNat_one, Int.toNat_zero, Int.reduceAdd, Int.reduceSub, Int.reduceMul, Int.reducePow, Nat.reducePow, Int.zero_add, Nat.zero_add, Nat.lt_add_one, Int.zero_le_ofNat, Option.some.injEq, reduceCtorEq, Prod.mk.injEq, O.nx.injEq, List.cons.injEq, M.d.injEq, PyData.int.injEq, and_self, true_and, and_true, List.append_assoc, List.mem_cons, List.not_mem_nil, Nat.reduceEqDiff, Int.reduceEq, Int.reduceMod, Int.reduceDiv, Int.reduceGT, or_self, or_false, gEq_int, h, Bool.false_and]
      · simp only [fDef, List.length_cons, List.length_nil, Nat.reduceAdd, Nat.reduceSub, List.replicate, List.cons_append, List.nil_append, fSeq, fIfS, fTst, fTAnd, fTOr, fTNot, fBin, fUn, fIx, fVar, fC, sl, ixd0, ixd1, ixd2, ixd3, ixd4, ixl0, ixl1, ixl2, ixl3, ixl4, ixl5, ixl6, ixl7, ixn0, ixn1, ixn2, gLt, gLe, gGt, gGe, gCmp, gIs, gIsNot, gIsB, M.isNone, M.int, M.bool, fSet, fRet, fRetN, fNx, fNot, fAnd, fOr, fIf, fCp, fMv, M.dat, wipeM, backM, Option.getD_some, Option.getD_none, gAdd, gSub, gMulL, gMulR, gMod, gDiv, gp6, gp12, gp13, gp18, gNeg, fPut, fApp, fPop, fDrop, M.lst?, fAsg, fGT, fGcons, fGN, fGnil, fTup, fLst, fACons, fANil, allD, fCall, fRVal, fRSlot, fRNil, amsOf, putBack, gLen, gTuple, gInt, gMax2, gMin2, Option.bind_some, Option.bind_none, Option.bind_eq_bind, List.getElem?_cons_zero, List.getElem?_cons_succ, List.set_cons_zero, List.set_cons_succ, outM, List.map_cons, List.map_nil, szl, Int.cast_ofNat_Int, if_true, if_false, ite_true, ite_false, Bool.false_eq_true, decide_true, decide_false, Bool.not_true, Bool.not_false, Int.reduceNeg, List.length_map, reduceIte, Nat.reduceLeDiff, Nat.reduceLT, Nat.reduceMul, Int.reduceLE, Int.reduceLT, Int.reduceToNat, Int.toNat_one, Int.toNat_zero, Int.reduceAdd, Int.reduceSub, Int.reduceMul, Int.reducePow, Nat.reducePow, Int.zero_add, Nat.zero_add, Nat.lt_add_one, Int.zero_le_ofNat, Option.some.injEq, reduceCtorEq, Prod.mk.injEq, O.nx.injEq, List.cons.injEq, M.d.injEq, PyData.int.injEq, and_self, true_and, and_true, List.append_assoc, List.mem_cons, List.not_mem_nil, Nat.reduceEqDiff, Int.reduceEq, Int.reduceMod, Int.reduceDiv, Int.reduceGT, or_self, or_false]
  have en := gNe_ints ((L.filter fun x => decide (x.1 = q) && decide (x.2 ≤ by')).map (·.2))
  rw [List.map_map] at en
  refine ⟨!((L.filter fun x => decide (x.1 = q) && decide (x.2 ≤ by')).map (·.2)).isEmpty, ?_, ?_⟩
  · simp only [dI] at c
    have en' : gNe (.lst ((L.filter fun x => decide (x.1 = q) && decide (x.2 ≤ by')).map fun x => M.d (.int x.2))) (.lst []) = _ := en
    refine fDef_rt rfl (fSeq_nx (ρ' := [some (.d (netD many ms)), some (.d (.tuple [.int p, .int t, .int q, .int by'])), some (.d (.int p)), some (.d (.int t)), some (.d (.int q)), some (.d (.int by')), none, none]) ?_ ?_) (ρ := [some (.d (netD many ms)), some (.d (.tuple [.int p, .int t, .int q, .int by'])), some (.d (.int p)), some (.d (.int t)), some (.d (.int q)), some (.d (.int by')), none, none]) ?_
    · simp only [fDef, List.length_cons, List.length_nil, Nat.reduceAdd, Nat.reduceSub, List.replicate, List.cons_append, List.nil_append, fSeq, fIfS, fTst, fTAnd, fTOr, fTNot, fBin, fUn, fIx, fVar, fC, sl, ixd0, ixd1, ixd2, ixd3, ixd4, ixl0, ixl1, ixl2, ixl3, ixl4, ixl5, ixl6, ixl7, ixn0, ixn1, ixn2, gLt, gLe, gGt, gGe, gCmp, gIs, gIsNot, gIsB, M.isNone, M.int, M.bool, fSet, fRet, fRetN, fNx, fNot, fAnd, fOr, fIf, fCp, fMv, M.dat, wipeM, backM, Option.getD_some, Option.getD_none, gAdd, gSub, gMulL, gMulR, gMod, gDiv, gp6, gp12, gp13, gp18, gNeg, fPut, fApp, fPop, fDrop, M.lst?, fAsg, fGT, fGcons, fGN, fGnil, fTup, fLst, fACons, fANil, allD, fCall, fRVal, fRSlot, fRNil, amsOf, putBack, gLen, gTuple, gInt, gMax2, gMin2, Option.bind_some, Option.bind_none, Option.bind_eq_bind, List.getElem?_cons_zero, List.getElem?_cons_succ, List.set_cons_zero, List.set_cons_succ, outM, List.map_cons, List.map_nil, szl, Int.cast_ofNat_Int, if_true, if_false, ite_true, ite_false, Bool.false_eq_true, decide_true, decide_false, Bool.not_true, Bool.not_false, Int.reduceNeg, List.length_map, reduceIte, Nat.reduceLeDiff, Nat.reduceLT, Nat.reduceMul, Int.reduceLE, Int.reduceLT, Int.reduceToNat, Int.toNat_one, Int.toNat_zero, Int.reduceAdd, Int.reduceSub, Int.reduceMul, Int.reducePow, Nat.reducePow, Int.zero_add, Nat.zero_add, Nat.lt_add_one, Int.zero_le_ofNat, Option.some.injEq, reduceCtorEq, Prod.mk.injEq, O.nx.injEq, List.cons.injEq, M.d.injEq, PyData.int.injEq, and_self, true_and, and_true, List.append_assoc, List.mem_cons, List.not_mem_nil, Nat.reduceEqDiff, Int.reduceEq, Int.reduceMod, Int.reduceDiv, Int.reduceGT, or_self, or_false]
    · simp only [fDef, List.length_cons, List.length_nil, Nat.reduceAdd, Nat.reduceSub, List.replicate, List.cons_append, List.nil_append, fSeq, fIfS, fTst, fTAnd, fTOr, fTNot, fBin, fUn, fIx, fVar, fC, sl, ixd0, ixd1, ixd2, ixd3, ixd4, ixl0, ixl1, ixl2, ixl3, ixl4, ixl5, ixl6, ixl7, ixn0, ixn1, ixn2, gLt, gLe, gGt, gGe, gCmp, gIs, gIsNot, gIsB, M.isNone, M.int, M.bool, fSet, fRet, fRetN, fNx, fNot, fAnd, fOr, fIf, fCp, fMv, M.dat, wipeM, backM, Option.getD_some, Option.getD_none, gAdd, gSub, gMulL, gMulR, gMod, gDiv, gp6, gp12, gp13, gp18, gNeg, fPut, fApp, fPop, fDrop, M.lst?, fAsg, fGT, fGcons, fGN, fGnil, fTup, fLst, fACons, fANil, allD, fCall, fRVal, fRSlot, fRNil, amsOf, putBack, gLen, gTuple, gInt, gMax2, gMin2, Option.bind_some, Option.bind_none, Option.bind_eq_bind, List.getElem?_cons_zero, List.getElem?_cons_succ, List.set_cons_zero, List.set_cons_succ, outM, List.map_cons, List.map_nil, szl, Int.cast_ofNat_Int, if_true, if_false, ite_true, ite_false, Bool.false_eq_true, decide_true, decide_false, Bool.not_true, Bool.not_false, Int.reduceNeg, List.length_map, reduceIte, Nat.reduceLeDiff, Nat.reduceLT, Nat.reduceMul, Int.reduceLE, Int.reduceLT, Int.reduceToNat, Int.toNat_one, Int.toNat_zero, Int.reduceAdd, Int.reduceSub, Int.reduceMul, Int.reducePow, Nat.reducePow, Int.zero_add, Nat.zero_add, Nat.lt_add_one, Int.zero_le_ofNat, Option.some.injEq, reduceCtorEq, Prod.mk.injEq, O.nx.injEq, List.cons.injEq, M.d.injEq, PyData.int.injEq, and_self, true_and, and_true, List.append_assoc, List.mem_cons, List.not_mem_nil, Nat.reduceEqDiff, Int.reduceEq, Int.reduceMod, Int.reduceDiv, Int.reduceGT, or_self, or_false, c, en']
    · simp only [fDef, List.length_cons, List.length_nil, Nat.reduceAdd, Nat.reduceSub, List.replicate, List.cons_append, List.nil_append, fSeq, fIfS, fTst, fTAnd, fTOr, fTNot, fBin, fUn, fIx, fVar, fC, sl, ixd0, ixd1, ixd2, ixd3, ixd4, ixl0, ixl1, ixl2, ixl3, ixl4, ixl5, ixl6, ixl7, ixn0, ixn1, ixn2, gLt, gLe, gGt, gGe, gCmp, gIs, gIsNot, gIsB, M.isNone, M.int, M.bool, fSet, fRet, fRetN, fNx, fNot, fAnd, fOr, fIf, fCp, fMv, M.dat, wipeM, backM, Option.getD_some, Option.getD_none, gAdd, gSub, gMulL, gMulR, gMod, gDiv, gp6, gp12, gp13, gp18, gNeg, fPut, fApp, fPop, fDrop, M.lst?, fAsg, fGT, fGcons, fGN, fGnil, fTup, fLst, fACons, fANil, allD, fCall, fRVal, fRSlot, fRNil, amsOf, putBack, gLen, gTuple, gInt, gMax2, gMin2, Option.bind_some, Option.bind_none, Option.bind_eq_bind, List.getElem?_cons_zero, List.getElem?_cons_succ, List.set_cons_zero, List.set_cons_succ, outM, List.map_cons, List.map_nil, szl, Int.cast_ofNat_Int, if_true, if_false, ite_true, ite_false, Bool.false_eq_true, decide_true, decide_false, Bool.not_true, Bool.not_false, Int.reduceNeg, List.length_map, reduceIte, Nat.reduceLeDiff, Nat.reduceLT, Nat.reduceMul, Int.reduceLE, Int.reduceLT, Int.reduceToNat, Int.toNat_one, Int.toNat_zero, Int.reduceAdd, Int.reduceSub, Int.reduceMul, Int.reducePow, Nat.reducePow, Int.zero_add, Nat.zero_add, Nat.lt_add_one, Int.zero_le_ofNat, Option.some.injEq, reduceCtorEq, Prod.mk.injEq, O.nx.injEq, List.cons.injEq, M.d.injEq, PyData.int.injEq, and_self, true_and, and_true, List.append_assoc, List.mem_cons, List.not_mem_nil, Nat.reduceEqDiff, Int.reduceEq, Int.reduceMod, Int.reduceDiv, Int.reduceGT, or_self, or_false]
  · constructor
    · intro h
      cases hf : L.filter fun x => decide (x.1 = q) && decide (x.2 ≤ by') with
      | nil => rw [hf] at h; cases h
      | cons x r =>
        have : x ∈ L.filter fun x => decide (x.1 = q) && decide (x.2 ≤ by') := by rw [hf]; simp
        obtain ⟨h1, h2⟩ := List.mem_filter.mp this
        simp only [Bool.and_eq_true, decide_eq_true_eq] at h2
        refine ⟨x.2, h2.2, (hL q x.2).mp ?_⟩
        rw [← h2.1]
        exact h1
    · rintro ⟨z, hz, w⟩
      have : (q, z) ∈ L.filter fun x => decide (x.1 = q) && decide (x.2 ≤ by') := List.mem_filter.mpr ⟨(hL q z).mpr w, by simp [hz]⟩
      cases hf : L.filter fun x => decide (x.1 = q) && decide (x.2 ≤ by') with
      | nil => rw [hf] at this; cases this
      | cons x r => rfl
end DL
namespace DL
open L2 PySem.Spec PySem PyProof.Rows

theorem foldl_min : ∀ (ns : List Int) (n : Int), (ns.foldl min n = n ∨ ns.foldl min n ∈ ns) ∧ ns.foldl min n ≤ n ∧ ∀ x ∈ ns, ns.foldl min n ≤ x
  | [], n => ⟨.inl rfl, Int.le_refl _, by simp⟩
  | m :: ns, n => by
    obtain ⟨h1, h2, h3⟩ := foldl_min ns (min n m)
    simp only [List.foldl_cons, List.mem_cons]
    refine ⟨?_, by omega, ?_⟩
    · rcases h1 with h | h
      · rw [h]
        rcases Int.le_total n m with a | a
        · exact .inl (Int.min_eq_left a)
        · exact .inr (.inl (Int.min_eq_right a))
      · exact .inr (.inr h)
    · rintro x (rfl | hx)
      · omega
      · exact h3 x hx
theorem minL_spec {d : Int} {ns : List Int} (h : ns ≠ []) : minL d ns ∈ ns ∧ ∀ x ∈ ns, minL d ns ≤ x := by
  cases ns with
  | nil => exact absurd rfl h
  | cons n ns =>
    obtain ⟨h1, h2, h3⟩ := foldl_min ns n
    simp only [minL, List.mem_cons]
    refine ⟨?_, ?_⟩
    · rcases h1 with h | h
      · exact .inl h
      · exact .inr h
    · rintro x (rfl | hx)
      · exact h2
      · exact h3 x hx
theorem minL_eq {X Y : List Int} (hX : ∀ x ∈ X, 0 ≤ x) (hY : ∀ x ∈ Y, 0 ≤ x) : minL (-1) X = minL (-1) Y ↔ ∀ y, (∃ z ∈ X, z ≤ y) ↔ ∃ z ∈ Y, z ≤ y := by
  have key : ∀ {Z : List Int}, Z ≠ [] → ∀ y, (∃ z ∈ Z, z ≤ y) ↔ minL (-1) Z ≤ y := fun {Z} hZ y => by
    obtain ⟨h1, h2⟩ := minL_spec (d := -1) hZ
    exact ⟨fun ⟨z, hz, hy⟩ => Int.le_trans (h2 z hz) hy, fun h => ⟨_, h1, h⟩⟩
  by_cases x0 : X = []
  · by_cases y0 : Y = []
    · rw [x0, y0]
      exact ⟨fun _ _ => Iff.rfl, fun _ => rfl⟩
    · obtain ⟨h1, _⟩ := minL_spec (d := -1) y0
      have := hY _ h1
      rw [x0]
      refine ⟨fun h => ?_, fun h => ?_⟩
      · have e : minL (-1) ([] : List Int) = -1 := rfl
        omega
      · obtain ⟨z, hz, _⟩ := (h (minL (-1) Y)).mpr ⟨_, h1, Int.le_refl _⟩
        cases hz
  · obtain ⟨g1, _⟩ := minL_spec (d := -1) x0
    have := hX _ g1
    by_cases y0 : Y = []
    · rw [y0]
      refine ⟨fun h => ?_, fun h => ?_⟩
      · have e : minL (-1) ([] : List Int) = -1 := rfl
        omega
      · obtain ⟨z, hz, _⟩ := (h (minL (-1) X)).mp ⟨_, g1, Int.le_refl _⟩
        cases hz
    · constructor
      · intro h y
        rw [key x0, key y0, h]
      · intro h
        have h1 := (h (minL (-1) X)).mp ⟨_, g1, Int.le_refl _⟩
        have h2 := (h (minL (-1) Y)).mpr ⟨_, (minL_spec (d := -1) y0).1, Int.le_refl _⟩
        rw [key y0] at h1
        rw [key x0] at h2
        omega
def Eqv (as bs : List Me) (p t q : Int) : Prop := ∀ y, (∃ z, z ≤ y ∧ Way (· ∈ stepsL as) p t q z) ↔ ∃ z, z ≤ y ∧ Way (· ∈ stepsL bs) p t q z
theorem fMinD_ok {f h : FE} {ρ ρ1 ρ2 : MS} {ns : List Int} {d : Int} (h1 : f ρ = some (.lst ((ns.map .int).map M.d), ρ1)) (h2 : h ρ1 = some (.d (.int d), ρ2)) : fMinD f h ρ = some (.d (.int (minL d ns)), ρ2) := by
  unfold fMinD
  rw [h1]
  simp only [Option.bind_some, M.its, allD_map, M.lst?, intsD_map]
  rw [h2]
  rfl
theorem fSet_ok {i : Nat} {f : FE} {ρ ρ1 ρ2 : MS} {m : M} (h : f ρ = some (m, ρ1)) (h2 : ρ1.set i (some m) = ρ2) : fSet i f ρ = some (.nx ρ2) := by
  unfold fSet
  rw [h, ← h2]
  rfl
section
variable {many : Int} {as bs : List Me}
/-- the two comprehensions -/
theorem C_sa (a b : Option M) (bg : Option M) (p t : Option M) (NL FL : List (Int × Int)) (q : Int) (j8 : Option M) (hn : NL.length ≤ 341) (hf : FL.length ≤ 341) :
    C__law_same_answers_3 [a, b, bg, p, t, some (.lst ((NL.map prD).map M.d)), some (.lst ((FL.map prD).map M.d)), some (dI q), j8, none, none, none, none] = some (.lst ((((NL.filter fun x => decide (x.1 = q)).map (·.2)).map .int).map M.d), [a, b, bg, p, t, some (.lst ((NL.map prD).map M.d)), some (.lst ((FL.map prD).map M.d)), some (dI q), j8, none, none, none, none]) ∧
    C__law_same_answers_4 [a, b, bg, p, t, some (.lst ((NL.map prD).map M.d)), some (.lst ((FL.map prD).map M.d)), some (dI q), j8, none, none, none, none] = some (.lst ((((FL.filter fun x => decide (x.1 = q)).map (·.2)).map .int).map M.d), [a, b, bg, p, t, some (.lst ((NL.map prD).map M.d)), some (.lst ((FL.map prD).map M.d)), some (dI q), j8, none, none, none, none]) := by
  have e : ∀ Z : List (Int × Int), (((Z.filter fun x => decide (x.1 = q)).map (·.2)).map PyData.int).map M.d = (Z.filter fun x => decide (x.1 = q)).map fun x => M.d (.int x.2) := fun Z => by rw [List.map_map, List.map_map]; rfl
  rw [e, e]
  constructor
  · refine lc_spec (enc := prD) (ys := NL) (ρ1 := [a, b, bg, p, t, some (.lst ((NL.map prD).map M.d)), some (.lst ((FL.map prD).map M.d)), some (dI q), j8, none, none, none, none]) (fun x => decide (x.1 = q)) (fun x => .d (.int x.2)) ?_ (fun x _ => ⟨[a, b, bg, p, t, some (.lst ((NL.map prD).map M.d)), some (.lst ((FL.map prD).map M.d)), some (dI q), j8, some (dI x.1), none, some (dI x.2), none], [a, b, bg, p, t, some (.lst ((NL.map prD).map M.d)), some (.lst ((FL.map prD).map M.d)), some (dI q), j8, some (dI x.1), none, some (dI x.2), none], rfl, ?_, fun _ => rfl, fun _ => ⟨[a, b, bg, p, t, some (.lst ((NL.map prD).map M.d)), some (.lst ((FL.map prD).map M.d)), some (dI q), j8, some (dI x.1), none, some (dI x.2), none], rfl, rfl⟩⟩) (by rw [szl]; omega) rfl
    · simp only [fIS, fDef, List.length_cons, List.length_nil, Nat.reduceAdd, Nat.reduceSub, List.replicate, List.cons_append, List.nil_append, fSeq, fIfS, fTst, fTAnd, fTOr, fTNot, fBin, fUn, fIx, fVar, fC, sl, ixd0, ixd1, ixd2, ixd3, ixd4, ixl0, ixl1, ixl2, ixl3, ixl4, ixl5, ixl6, ixl7, ixn0, ixn1, ixn2, gLt, gLe, gGt, gGe, gCmp, gIs, gIsNot, gIsB, M.isNone, M.int, M.bool, fSet, fRet, fRetN, fNx, fNot, fAnd, fOr, fIf, fCp, fMv, M.dat, wipeM, backM, Option.getD_some, Option.getD_none, gAdd, gSub, gMulL, gMulR, gMod, gDiv, gp6, gp12, gp13, gp18, gNeg, fPut, fApp, fPop, fDrop, M.lst?, fAsg, fGT, fGcons, fGN, fGnil, fTup, fLst, fACons, fANil, allD, fCall, fRVal, fRSlot, fRNil, amsOf, putBack, gLen, gTuple, gInt, gMax2, gMin2, Option.bind_some, Option.bind_none, Option.bind_eq_bind, List.getElem?_cons_zero, List.getElem?_cons_succ, List.set_cons_zero, List.set_cons_succ, outM, List.map_cons, List.map_nil, szl, Int.cast_ofNat_Int, if_true, if_false, ite_true, ite_false, Bool.false_eq_true, decide_true, decide_false, Bool.not_true, Bool.not_false, Int.reduceNeg, List.length_map, reduceIte, Nat.reduceLeDiff, Nat.reduceLT, Nat.reduceMul, Int.reduceLE, Int.reduceLT, Int.reduceToNat, Int.toNat_one, Int.toNat_zero, Int.reduceAdd, Int.reduceSub, Int.reduceMul, Int.reducePow, Nat.reducePow, Int.zero_add, Nat.zero_add, Nat.lt_add_one, Int.zero_le_ofNat, Option.some.injEq, reduceCtorEq, Prod.mk.injEq, O.nx.injEq, List.cons.injEq, M.d.injEq, PyData.int.injEq, and_self, true_and, and_true, List.append_assoc, List.mem_cons, List.not_mem_nil, Nat.reduceEqDiff, Int.reduceEq, Int.reduceMod, Int.reduceDiv, Int.reduceGT, or_self, or_false, M.its, allD_map]
    · simp only [fDef, List.length_cons, List.length_nil, Nat.reduceAdd, Nat.reduceSub, List.replicate, List.cons_append, List.nil_append, fSeq, fIfS, fTst, fTAnd, fTOr, fTNot, fBin, fUn, fIx, fVar, fC, sl, ixd0, ixd1, ixd2, ixd3, ixd4, ixl0, ixl1, ixl2, ixl3, ixl4, ixl5, ixl6, ixl7, ixn0, ixn1, ixn2, gLt, gLe, gGt, gGe, gCmp, gIs, gIsNot, gIsB, M.isNone, M.int, M.bool, fSet, fRet, fRetN, fNx, fNot, fAnd, fOr, fIf, fCp, fMv, M.dat, wipeM, backM, Option.getD_some, Option.getD_none, gAdd, gSub, gMulL, gMulR, gMod, gDiv, gp6, gp12, gp13, gp18, gNeg, fPut, fApp, fPop, fDrop, M.lst?, fAsg, fGT, fGcons, fGN, fGnil, fTup, fLst, fACons, fANil, allD, fCall, fRVal, fRSlot, fRNil, amsOf, putBack, gLen, gTuple, gInt, gMax2, gMin2, Option.bind_some, Option.bind_none, Option.bind_eq_bind, List.getElem?_cons_zero, List.getElem?_cons_succ, List.set_cons_zero, List.set_cons_succ, outM, List.map_cons, List.map_nil, szl, Int.cast_ofNat_Int, if_true, if_false, ite_true, ite_false, Bool.false_eq_true, decide_true, decide_false, Bool.not_true, Bool.not_false, Int.reduceNeg, List.length_map, reduceIte, Nat.reduceLeDiff, Nat.reduceLT, Nat.reduceMul, Int.reduceLE, Int.reduceLT, Int.reduceToNat, Int.toNat_one, Int.toNat_zero, Int.reduceAdd, Int.reduceSub, Int.reduceMul, Int.reducePow, Nat.reducePow, Int.zero_add, Nat.zero_add, Nat.lt_add_one, Int.zero_le_ofNat, Option.some.injEq, reduceCtorEq, Prod.mk.injEq, O.nx.injEq, List.cons.injEq, M.d.injEq, PyData.int.injEq, and_self, true_and, and_true, List.append_assoc, List.mem_cons, List.not_mem_nil, Nat.reduceEqDiff, Int.reduceEq, Int.reduceMod, Int.reduceDiv, Int.reduceGT, or_self, or_false, gEq_int]
  · refine lc_spec (enc := prD) (ys := FL) (ρ1 := [a, b, bg, p, t, some (.lst ((NL.map prD).map M.d)), some (.lst ((FL.map prD).map M.d)), some (dI q), j8, none, none, none, none]) (fun x => decide (x.1 = q)) (fun x => .d (.int x.2)) ?_ (fun x _ => ⟨[a, b, bg, p, t, some (.lst ((NL.map prD).map M.d)), some (.lst ((FL.map prD).map M.d)), some (dI q), j8, some (dI x.1), none, some (dI x.2), none], [a, b, bg, p, t, some (.lst ((NL.map prD).map M.d)), some (.lst ((FL.map prD).map M.d)), some (dI q), j8, some (dI x.1), none, some (dI x.2), none], rfl, ?_, fun _ => rfl, fun _ => ⟨[a, b, bg, p, t, some (.lst ((NL.map prD).map M.d)), some (.lst ((FL.map prD).map M.d)), some (dI q), j8, some (dI x.1), none, some (dI x.2), none], rfl, rfl⟩⟩) (by rw [szl]; omega) rfl
    · simp only [fIS, fDef, List.length_cons, List.length_nil, Nat.reduceAdd, Nat.reduceSub, List.replicate, List.cons_append, List.nil_append, fSeq, fIfS, fTst, fTAnd, fTOr, fTNot, fBin, fUn, fIx, fVar, fC, sl, ixd0, ixd1, ixd2, ixd3, ixd4, ixl0, ixl1, ixl2, ixl3, ixl4, ixl5, ixl6, ixl7, ixn0, ixn1, ixn2, gLt, gLe, gGt, gGe, gCmp, gIs, gIsNot, gIsB, M.isNone, M.int, M.bool, fSet, fRet, fRetN, fNx, fNot, fAnd, fOr, fIf, fCp, fMv, M.dat, wipeM, backM, Option.getD_some, Option.getD_none, gAdd, gSub, gMulL, gMulR, gMod, gDiv, gp6, gp12, gp13, gp18, gNeg, fPut, fApp, fPop, fDrop, M.lst?, fAsg, fGT, fGcons, fGN, fGnil, fTup, fLst, fACons, fANil, allD, fCall, fRVal, fRSlot, fRNil, amsOf, putBack, gLen, gTuple, gInt, gMax2, gMin2, Option.bind_some, Option.bind_none, Option.bind_eq_bind, List.getElem?_cons_zero, List.getElem?_cons_succ, List.set_cons_zero, List.set_cons_succ, outM, List.map_cons, List.map_nil, szl, Int.cast_ofNat_Int, if_true, if_false, ite_true, ite_false, Bool.false_eq_true, decide_true, decide_false, Bool.not_true, Bool.not_false, Int.reduceNeg, List.length_map, reduceIte, Nat.reduceLeDiff, Nat.reduceLT, Nat.reduceMul, Int.reduceLE, Int.reduceLT, Int.reduceToNat, Int.toNat_one, Int.toNat_zero, Int.reduceAdd, Int.reduceSub, Int.reduceMul, Int.reducePow, Nat.reducePow, Int.zero_add, Nat.zero_add, Nat.lt_add_one, Int.zero_le_ofNat, Option.some.injEq, reduceCtorEq, Prod.mk.injEq, O.nx.injEq, List.cons.injEq, M.d.injEq, PyData.int.injEq, and_self, true_and, and_true, List.append_assoc, List.mem_cons, List.not_mem_nil, Nat.reduceEqDiff, Int.reduceEq, Int.reduceMod, Int.reduceDiv, Int.reduceGT, or_self, or_false, M.its, allD_map]
    · simp only [fDef, List.length_cons, List.length_nil, Nat.reduceAdd, Nat.reduceSub, List.replicate, List.cons_append, List.nil_append, fSeq, fIfS, fTst, fTAnd, fTOr, fTNot, fBin, fUn, fIx, fVar, fC, sl, ixd0, ixd1, ixd2, ixd3, ixd4, ixl0, ixl1, ixl2, ixl3, ixl4, ixl5, ixl6, ixl7, ixn0, ixn1, ixn2, gLt, gLe, gGt, gGe, gCmp, gIs, gIsNot, gIsB, M.isNone, M.int, M.bool, fSet, fRet, fRetN, fNx, fNot, fAnd, fOr, fIf, fCp, fMv, M.dat, wipeM, backM, Option.getD_some, Option.getD_none, gAdd, gSub, gMulL, gMulR, gMod, gDiv, gp6, gp12, gp13, gp18, gNeg, fPut, fApp, fPop, fDrop, M.lst?, fAsg, fGT, fGcons, fGN, fGnil, fTup, fLst, fACons, fANil, allD, fCall, fRVal, fRSlot, fRNil, amsOf, putBack, gLen, gTuple, gInt, gMax2, gMin2, Option.bind_some, Option.bind_none, Option.bind_eq_bind, List.getElem?_cons_zero, List.getElem?_cons_succ, List.set_cons_zero, List.set_cons_succ, outM, List.map_cons, List.map_nil, szl, Int.cast_ofNat_Int, if_true, if_false, ite_true, ite_false, Bool.false_eq_true, decide_true, decide_false, Bool.not_true, Bool.not_false, Int.reduceNeg, List.length_map, reduceIte, Nat.reduceLeDiff, Nat.reduceLT, Nat.reduceMul, Int.reduceLE, Int.reduceLT, Int.reduceToNat, Int.toNat_one, Int.toNat_zero, Int.reduceAdd, Int.reduceSub, Int.reduceMul, Int.reducePow, Nat.reducePow, Int.zero_add, Nat.zero_add, Nat.lt_add_one, Int.zero_le_ofNat, Option.some.injEq, reduceCtorEq, Prod.mk.injEq, O.nx.injEq, List.cons.injEq, M.d.injEq, PyData.int.injEq, and_self, true_and, and_true, List.append_assoc, List.mem_cons, List.not_mem_nil, Nat.reduceEqDiff, Int.reduceEq, Int.reduceMod, Int.reduceDiv, Int.reduceGT, or_self, or_false, gEq_int]
theorem rng_mem {n : Int} (h : 0 ≤ n) {x : Int} : x ∈ (List.range n.toNat).map (fun i : Nat => 0 + (i : Int)) ↔ 0 ≤ x ∧ x < n := by
  rw [List.mem_map]
  constructor
  · rintro ⟨i, hi, rfl⟩
    have := List.mem_range.mp hi
    omega
  · rintro ⟨h1, h2⟩
    exact ⟨x.toNat, List.mem_range.mpr (by omega), by omega⟩
theorem L_sa1 (h1 : 1 ≤ many) (h2 : many ≤ 1000) (A B : PyData) (hA : ∃ r, A = .tuple (.int many :: r)) (p t : Int) (ht : 0 ≤ t) (bg : Option M) (NL FL : List (Int × Int)) (hn : NL.length ≤ 341) (hf : FL.length ≤ 341) (hS : ∀ u ∈ stepsL as, u.s < u.e) (hT : ∀ u ∈ stepsL bs, u.s < u.e)
    (eN : ∀ q z, (q, z) ∈ NL ↔ Way (· ∈ stepsL as) p t q z) (eF : ∀ q z, (q, z) ∈ FL ↔ Way (· ∈ stepsL bs) p t q z) (j7 j8 : Option M) :
    ((∀ q, 0 ≤ q → q < many → Eqv as bs p t q) ∧ ∃ k7 k8, L__law_same_answers_1 [some (.d A), some (.d B), bg, some (dI p), some (dI t), some (.lst ((NL.map prD).map M.d)), some (.lst ((FL.map prD).map M.d)), j7, j8, none, none, none, none] =
      some (.nx [some (.d A), some (.d B), bg, some (dI p), some (dI t), some (.lst ((NL.map prD).map M.d)), some (.lst ((FL.map prD).map M.d)), k7, k8, none, none, none, none])) ∨
    ((∃ q, 0 ≤ q ∧ q < many ∧ ¬ Eqv as bs p t q) ∧ ∃ r, L__law_same_answers_1 [some (.d A), some (.d B), bg, some (dI p), some (dI t), some (.lst ((NL.map prD).map M.d)), some (.lst ((FL.map prD).map M.d)), j7, j8, none, none, none, none] =
      some (.rt (.d (.bool false)) (some (.d A) :: some (.d B) :: r))) := by
  obtain ⟨rA, rfl⟩ := hA
  have src : ∀ k7 k8 : Option M, fR1 (fIx (fVar 0) (fC (.int 0))) [some (.d (.tuple (.int many :: rA))), some (.d B), bg, some (dI p), some (dI t), some (.lst ((NL.map prD).map M.d)), some (.lst ((FL.map prD).map M.d)), k7, k8, none, none, none, none] = some (rangeD 0 many.toNat, [some (.d (.tuple (.int many :: rA))), some (.d B), bg, some (dI p), some (dI t), some (.lst ((NL.map prD).map M.d)), some (.lst ((FL.map prD).map M.d)), k7, k8, none, none, none, none]) := fun k7 k8 =>
    fR1_ok (by simp only [fDef, List.length_cons, List.length_nil, Nat.reduceAdd, Nat.reduceSub, List.replicate, List.cons_append, List.nil_append, fSeq, fIfS, fTst, fTAnd, fTOr, fTNot, fBin, fUn, fIx, fVar, fC, sl, ixd0, ixd1, ixd2, ixd3, ixd4, ixl0, ixl1, ixl2, ixl3, ixl4, ixl5, ixl6, ixl7, ixn0, ixn1, ixn2, gLt, gLe, gGt, gGe, gCmp, gIs, gIsNot, gIsB, M.isNone, M.int, M.bool, fSet, fRet, fRetN, fNx, fNot, fAnd, fOr, fIf, fCp, fMv, M.dat, wipeM, backM, Option.getD_some, Option.getD_none, gAdd, gSub, gMulL, gMulR, gMod, gDiv, gp6, gp12, gp13, gp18, gNeg, fPut, fApp, fPop, fDrop, M.lst?, fAsg, fGT, fGcons, fGN, fGnil, fTup, fLst, fACons, fANil, allD, fCall, fRVal, fRSlot, fRNil, amsOf, putBack, gLen, gTuple, gInt, gMax2, gMin2, Option.bind_some, Option.bind_none, Option.bind_eq_bind, List.getElem?_cons_zero, List.getElem?_cons_succ, List.set_cons_zero, List.set_cons_succ, outM, List.map_cons, List.map_nil, szl, Int.cast_ofNat_Int, if_true, if_false, ite_true, ite_false, Bool.false_eq_true, decide_true, decide_false, Bool.not_true, Bool.not_false, Int.reduceNeg, List.length_map, reduceIte, Nat.reduceLeDiff, Nat.reduceLT, Nat.reduceMul, Int.reduceLE, Int.reduceLT, Int.reduceToNat, Int.toNat_one, Int.toNat_zero, Int.reduceAdd, Int.reduceSub, Int.reduceMul, Int.reducePow, Nat.reducePow, Int.zero_add, Nat.zero_add, Nat.lt_add_one, Int.zero_le_ofNat, Option.some.injEq, reduceCtorEq, Prod.mk.injEq, O.nx.injEq, List.cons.injEq, M.d.injEq, PyData.int.injEq, and_self, true_and, and_true, List.append_assoc, List.mem_cons, List.not_mem_nil, Nat.reduceEqDiff, Int.reduceEq, Int.reduceMod, Int.reduceDiv, Int.reduceGT, or_self, or_false]) (by omega) (by omega)
  have := for_ret (enc := PyData.int) (g := fGN 7) (f := B__law_same_answers_1)
    (fun pre ρ => (∀ q ∈ pre, Eqv as bs p t q) ∧ ∃ k7 k8, ρ = [some (.d (.tuple (.int many :: rA))), some (.d B), bg, some (dI p), some (dI t), some (.lst ((NL.map prD).map M.d)), some (.lst ((FL.map prD).map M.d)), k7, k8, none, none, none, none])
    (fun m ρ => m = .d (.bool false) ∧ (∃ q, 0 ≤ q ∧ q < many ∧ ¬ Eqv as bs p t q) ∧ ∃ r, ρ = some (.d (.tuple (.int many :: rA))) :: some (.d B) :: r)
    ((List.range many.toNat).map fun i : Nat => 0 + (i : Int)) [] ?_ _ ⟨by simp, j7, j8, rfl⟩
  · rcases this with ⟨ρ', e, h, k7, k8, rfl⟩ | ⟨m, ρ', e, rfl, h, r, rfl⟩
    · exact .inl ⟨fun q g0 g1 => h q (by simpa using (rng_mem (by omega)).mpr ⟨g0, g1⟩), k7, k8, for_of (src j7 j8) (by rw [rangeD_map]; exact e)⟩
    · exact .inr ⟨h, r, for_of (src j7 j8) (by rw [rangeD_map]; exact e)⟩
  · rintro pre q suf e ρ ⟨h, k7, k8, rfl⟩
    have hq : 0 ≤ q ∧ q < many := (rng_mem (by omega)).mp (by rw [show (List.range many.toNat).map (fun i : Nat => 0 + (i : Int)) = pre ++ q :: suf from e]; simp)
    refine ⟨[some (.d (.tuple (.int many :: rA))), some (.d B), bg, some (dI p), some (dI t), some (.lst ((NL.map prD).map M.d)), some (.lst ((FL.map prD).map M.d)), some (dI q), k8, none, none, none, none], rfl, ?_⟩
    obtain ⟨c3, _⟩ := C_sa (some (.d (.tuple (.int many :: rA)))) (some (.d B)) bg (some (dI p)) (some (dI t)) NL FL q k8 hn hf
    obtain ⟨_, c4⟩ := C_sa (some (.d (.tuple (.int many :: rA)))) (some (.d B)) bg (some (dI p)) (some (dI t)) NL FL q (some (dI (minL (-1) ((NL.filter fun x => decide (x.1 = q)).map (·.2))))) hn hf
    have X : ∀ {Z : List (Int × Int)} {S : Tp → Prop}, (∀ u, S u → u.s < u.e) → (∀ q z, (q, z) ∈ Z ↔ Way S p t q z) → (∀ x ∈ (Z.filter fun x => decide (x.1 = q)).map (·.2), 0 ≤ x) ∧ ∀ y, (∃ z ∈ (Z.filter fun x => decide (x.1 = q)).map (·.2), z ≤ y) ↔ ∃ z, z ≤ y ∧ Way S p t q z := fun {Z S} hS hZ => by
      have mem : ∀ z, z ∈ (Z.filter fun x => decide (x.1 = q)).map (·.2) ↔ Way S p t q z := fun z => by
        rw [List.mem_map, ← hZ]
        constructor
        · rintro ⟨⟨a, b⟩, hx, rfl⟩
          obtain ⟨g1, g2⟩ := List.mem_filter.mp hx
          have : a = q := by simpa using g2
          rw [← this]
          exact g1
        · intro hx
          exact ⟨(q, z), List.mem_filter.mpr ⟨hx, by simp⟩, rfl⟩
      refine ⟨fun x hx => ?_, fun y => ?_⟩
      · have := ((mem x).mp hx).rise hS
        omega
      · exact ⟨fun ⟨z, hz, hy⟩ => ⟨z, hy, (mem z).mp hz⟩, fun ⟨z, hy, w⟩ => ⟨z, (mem z).mpr w, hy⟩⟩
    obtain ⟨n1, n2⟩ := X hS eN
    obtain ⟨f1, f2⟩ := X hT eF
    have iff1 : minL (-1) ((NL.filter fun x => decide (x.1 = q)).map (·.2)) = minL (-1) ((FL.filter fun x => decide (x.1 = q)).map (·.2)) ↔ Eqv as bs p t q := by
      rw [minL_eq n1 f1]
      unfold Eqv
      constructor
      · intro h y
        rw [← n2, ← f2]
        exact h y
      · intro h y
        rw [n2, f2]
        exact h y
    generalize hx : minL (-1) ((NL.filter fun x => decide (x.1 = q)).map (·.2)) = x at iff1 c4
    generalize hy : minL (-1) ((FL.filter fun x => decide (x.1 = q)).map (·.2)) = y at iff1
    have s1 : fSet 8 (fMinD (C__law_same_answers_3) (fUn gNeg (fC (.int 1)))) [some (.d (.tuple (.int many :: rA))), some (.d B), bg, some (dI p), some (dI t), some (.lst ((NL.map prD).map M.d)), some (.lst ((FL.map prD).map M.d)), some (dI q), k8, none, none, none, none] =
        some (.nx [some (.d (.tuple (.int many :: rA))), some (.d B), bg, some (dI p), some (dI t), some (.lst ((NL.map prD).map M.d)), some (.lst ((FL.map prD).map M.d)), some (dI q), some (dI x), none, none, none, none]) :=
      fSet_ok (fMinD_ok (d := -1) c3 rfl) (by rw [hx]; rfl)
    have s2 := fMinD_ok (h := fUn gNeg (fC (.int 1))) (d := -1) c4 rfl
    rw [hy] at s2
    have tst : fTst (fBin gNe (fVar 8) (fMinD (C__law_same_answers_4) (fUn gNeg (fC (.int 1))))) [some (.d (.tuple (.int many :: rA))), some (.d B), bg, some (dI p), some (dI t), some (.lst ((NL.map prD).map M.d)), some (.lst ((FL.map prD).map M.d)), some (dI q), some (dI x), none, none, none, none] =
        some (!decide (x = y), [some (.d (.tuple (.int many :: rA))), some (.d B), bg, some (dI p), some (dI t), some (.lst ((NL.map prD).map M.d)), some (.lst ((FL.map prD).map M.d)), some (dI q), some (dI x), none, none, none, none]) := by
      unfold fTst fBin
      simp only [fVar, sl, List.getElem?_cons_zero, List.getElem?_cons_succ, Option.bind_some]
      rw [s2]
      simp only [Option.bind_some]
      rw [gNe_int]
      rfl
    by_cases hxy : x = y
    · rw [decide_eq_true hxy] at tst
      refine .inl ⟨[some (.d (.tuple (.int many :: rA))), some (.d B), bg, some (dI p), some (dI t), some (.lst ((NL.map prD).map M.d)), some (.lst ((FL.map prD).map M.d)), some (dI q), some (dI x), none, none, none, none], .inl (fSeq_nx s1 ?_), ?_, _, _, rfl⟩
      · unfold fIfS
        rw [tst]
        rfl
      · intro q' hq'
        rcases List.mem_append.mp hq' with hq' | hq'
        · exact h q' hq'
        · rw [List.mem_singleton.mp hq']
          exact iff1.mp hxy
    · rw [decide_eq_false hxy] at tst
      refine .inr ⟨.d (.bool false), [some (.d (.tuple (.int many :: rA))), some (.d B), bg, some (dI p), some (dI t), some (.lst ((NL.map prD).map M.d)), some (.lst ((FL.map prD).map M.d)), some (dI q), some (dI x), none, none, none, none], fSeq_nx s1 ?_, rfl, ⟨q, hq.1, hq.2, fun z => hxy (iff1.mpr z)⟩, _, rfl⟩
      unfold fIfS
      rw [tst]
      rfl
end
end DL
namespace DL
open L2 PySem.Spec PySem PyProof.Rows

abbrev intsM (ns : List Int) : M := .lst ((ns.map .int).map M.d)
theorem gAdd_ints {xs ys : List Int} (h : xs.length + ys.length ≤ 1000) : gAdd (intsM xs) (intsM ys) = some (intsM (xs ++ ys)) := by
  unfold gAdd
  simp only [allD_map, Option.bind_some, List.length_map]
  rw [if_pos (by rw [szl]; omega)]
  simp only [intsM, List.map_append]
theorem gSortSet_ints {ns : List Int} (h : ns.length < 4000) : gSortSet (intsM ns) = some (intsM (sortU ns)) := by
  unfold gSortSet
  simp only [allD_map, Option.bind_some, intsD_map]
  rw [if_pos h]
  unfold intsM
  rw [List.map_map]
  rfl
theorem fBin_ok {g : M → M → Option M} {f h : FE} {ρ ρ1 ρ2 : MS} {a b z : M} (h1 : f ρ = some (a, ρ1)) (h2 : h ρ1 = some (b, ρ2)) (h3 : g a b = some z) : fBin g f h ρ = some (z, ρ2) := by
  unfold fBin
  rw [h1]
  simp only [Option.bind_some]
  rw [h2]
  simp only [Option.bind_some]
  rw [h3]
  rfl
theorem fUn_ok {g : M → Option M} {f : FE} {ρ ρ1 : MS} {a z : M} (h1 : f ρ = some (a, ρ1)) (h3 : g a = some z) : fUn g f ρ = some (z, ρ1) := by
  unfold fUn
  rw [h1]
  simp only [Option.bind_some]
  rw [h3]
  rfl
theorem fIS_ok {f : FE} {ρ ρ1 : MS} {a : M} {ds : List PyData} (h1 : f ρ = some (a, ρ1)) (h3 : a.its = some ds) : fIS f ρ = some (ds, ρ1) := by
  unfold fIS
  rw [h1]
  simp only [Option.bind_some]
  rw [h3]
  rfl
theorem fSeq_rt {f g : FS} {ρ ρ' : MS} {m : M} (h : f ρ = some (.rt m ρ')) : fSeq f g ρ = some (.rt m ρ') := by
  unfold fSeq
  rw [h]
  rfl
theorem fVar_ok {i : Nat} {ρ : MS} {m : M} (h : ρ[i]? = some (some m)) : fVar i ρ = some (m, ρ) := by
  unfold fVar sl
  rw [h]
  rfl
/-- the moments that matter -/
def momL (bg : List Int) : List Int := sortU (([0] ++ bg) ++ bg.map (· + 1))
section
variable {many : Int} {as bs : List Me}
theorem L_sa2 (NA : okN many as) (NB : okN many bs) (ha : as.length ≤ 4) (hb : bs.length ≤ 4) (p : Int) {bg : List Int} (hbg : ∀ b ∈ bg, 0 ≤ b) (hbl : bg.length ≤ 8) (j4 j5 j6 j7 j8 : Option M) :
    ((∀ t ∈ momL bg, ∀ q, 0 ≤ q → q < many → Eqv as bs p t q) ∧ ∃ k4 k5 k6 k7 k8, L__law_same_answers_2 [some (.d (netD many as)), some (.d (netD many bs)), some (intsM bg), some (dI p), j4, j5, j6, j7, j8, none, none, none, none] =
      some (.nx [some (.d (netD many as)), some (.d (netD many bs)), some (intsM bg), some (dI p), k4, k5, k6, k7, k8, none, none, none, none])) ∨
    ((∃ t ∈ momL bg, ∃ q, 0 ≤ q ∧ q < many ∧ ¬ Eqv as bs p t q) ∧ ∃ r, L__law_same_answers_2 [some (.d (netD many as)), some (.d (netD many bs)), some (intsM bg), some (dI p), j4, j5, j6, j7, j8, none, none, none, none] =
      some (.rt (.d (.bool false)) (some (.d (netD many as)) :: some (.d (netD many bs)) :: r))) := by
  have c2 : C__law_same_answers_2 [some (.d (netD many as)), some (.d (netD many bs)), some (intsM bg), some (dI p), j4, j5, j6, j7, j8, none, none, none, none] = some (intsM (bg.map (· + 1)), [some (.d (netD many as)), some (.d (netD many bs)), some (intsM bg), some (dI p), j4, j5, j6, j7, j8, none, none, none, none]) := by
    have e : ((bg.map (· + 1)).map PyData.int).map M.d = bg.map fun b => M.d (.int (b + 1)) := by rw [List.map_map, List.map_map]; rfl
    unfold intsM
    rw [e]
    refine (lc_spec (enc := PyData.int) (ys := bg) (ρ1 := [some (.d (netD many as)), some (.d (netD many bs)), some (intsM bg), some (dI p), j4, j5, j6, j7, j8, none, none, none, none]) (fun _ => true) (fun b => .d (.int (b + 1))) (fIS_ok (fVar_ok rfl) (by show allD _ = _; rw [allD_map])) (fun x _ => ⟨_, _, rfl, rfl, fun z => (by cases z), fun _ => ⟨[some (.d (netD many as)), some (.d (netD many bs)), some (intsM bg), some (dI p), j4, j5, j6, j7, j8, none, some (dI x), none, none], rfl, rfl⟩⟩) (by rw [szl]; omega) rfl).trans ?_
    rw [filter_yes]
  have src : fIS (fUn gSortSet (fBin gAdd (fBin gAdd (fLst (fACons (fC (.int 0)) (fANil))) (fVar 2)) (C__law_same_answers_2))) [some (.d (netD many as)), some (.d (netD many bs)), some (intsM bg), some (dI p), j4, j5, j6, j7, j8, none, none, none, none] =
      some ((momL bg).map .int, [some (.d (netD many as)), some (.d (netD many bs)), some (intsM bg), some (dI p), j4, j5, j6, j7, j8, none, none, none, none]) := by
    have l0 : fLst (fACons (fC (.int 0)) (fANil)) [some (.d (netD many as)), some (.d (netD many bs)), some (intsM bg), some (dI p), j4, j5, j6, j7, j8, none, none, none, none] = some (intsM [0], [some (.d (netD many as)), some (.d (netD many bs)), some (intsM bg), some (dI p), j4, j5, j6, j7, j8, none, none, none, none]) := by
      simp only [fLst, fACons, fC, fANil, Option.bind_some, List.length_cons, List.length_nil, szl, Nat.reduceAdd, Nat.reduceLeDiff, if_true]
      rfl
    refine fIS_ok (fUn_ok (fBin_ok (fBin_ok l0 (fVar_ok rfl) (gAdd_ints (by simp; omega))) c2 (gAdd_ints (by simp; omega))) (gSortSet_ints (by simp; omega))) ?_
    show allD _ = _
    rw [allD_map]
    rfl
  have := for_ret (enc := PyData.int) (g := fGN 4) (f := B__law_same_answers_2)
    (fun pre ρ => (∀ t ∈ pre, ∀ q, 0 ≤ q → q < many → Eqv as bs p t q) ∧ ∃ k4 k5 k6 k7 k8, ρ = [some (.d (netD many as)), some (.d (netD many bs)), some (intsM bg), some (dI p), k4, k5, k6, k7, k8, none, none, none, none])
    (fun m ρ => m = .d (.bool false) ∧ (∃ t ∈ momL bg, ∃ q, 0 ≤ q ∧ q < many ∧ ¬ Eqv as bs p t q) ∧ ∃ r, ρ = some (.d (netD many as)) :: some (.d (netD many bs)) :: r)
    (momL bg) [] ?_ _ ⟨by simp, j4, j5, j6, j7, j8, rfl⟩
  · rcases this with ⟨ρ', e, h, k4, k5, k6, k7, k8, rfl⟩ | ⟨m, ρ', e, rfl, h, r, rfl⟩
    · exact .inl ⟨fun t ht => h t (by simpa using ht), k4, k5, k6, k7, k8, for_of src e⟩
    · exact .inr ⟨h, r, for_of src e⟩
  · rintro pre t suf e ρ ⟨h, k4, k5, k6, k7, k8, rfl⟩
    have hm : t ∈ momL bg := by rw [show momL bg = pre ++ t :: suf from e]; simp
    have ht : 0 ≤ t := by
      have := mem_sortU.mp hm
      simp only [List.mem_append, List.mem_singleton, List.mem_map] at this
      rcases this with (rfl | hb') | ⟨b, hb', rfl⟩
      · omega
      · exact hbg _ hb'
      · have := hbg b hb'
        omega
    obtain ⟨NL, n1, n2, n3⟩ := sp_ways NA ha p t
    obtain ⟨FL, f1, f2, f3⟩ := sp_ways NB hb p t
    have s1 : fSet 5 (fCall [none, none, none] d__law_ways (fRVal (fCp (fVar 0)) (fRVal (fCp (fVar 3)) (fRVal (fCp (fVar 4)) (fRNil))))) [some (.d (netD many as)), some (.d (netD many bs)), some (intsM bg), some (dI p), some (dI t), k5, k6, k7, k8, none, none, none, none] =
        some (.nx [some (.d (netD many as)), some (.d (netD many bs)), some (intsM bg), some (dI p), some (dI t), some (.lst ((NL.map prD).map M.d)), k6, k7, k8, none, none, none, none]) := fSet_ok (fCall_ok rfl rfl n3 rfl) rfl
    have s2 : fSet 6 (fCall [none, none, none] d__law_ways (fRVal (fCp (fVar 1)) (fRVal (fCp (fVar 3)) (fRVal (fCp (fVar 4)) (fRNil))))) [some (.d (netD many as)), some (.d (netD many bs)), some (intsM bg), some (dI p), some (dI t), some (.lst ((NL.map prD).map M.d)), k6, k7, k8, none, none, none, none] =
        some (.nx [some (.d (netD many as)), some (.d (netD many bs)), some (intsM bg), some (dI p), some (dI t), some (.lst ((NL.map prD).map M.d)), some (.lst ((FL.map prD).map M.d)), k7, k8, none, none, none, none]) := fSet_ok (fCall_ok rfl rfl f3 rfl) rfl
    refine ⟨_, rfl, ?_⟩
    rcases L_sa1 NA.pos NA.few (netD many as) (netD many bs) ⟨_, rfl⟩ p t ht (some (intsM bg)) NL FL n1 f1 (fun u hu => (NA.okS u hu).2) (fun u hu => (NB.okS u hu).2) n2 f2 k7 k8 with ⟨hE, q7, q8, eL⟩ | ⟨hE, r, eL⟩
    · refine .inl ⟨_, .inl (fSeq_nx s1 (fSeq_nx s2 eL)), fun t' ht' => ?_, _, _, _, _, _, rfl⟩
      rcases List.mem_append.mp ht' with ht' | ht'
      · exact h t' ht'
      · rw [List.mem_singleton.mp ht']
        exact hE
    · exact .inr ⟨_, _, fSeq_nx s1 (fSeq_nx s2 eL), rfl, ⟨t, hm, hE⟩, r, rfl⟩
/-- same_answers -/
theorem sp_same (NA : okN many as) (NB : okN many bs) (ha : as.length ≤ 4) (hb : bs.length ≤ 4) : ∃ b : Bool, d__law_same_answers [some (.d (netD many as)), some (.d (netD many bs))] = some (.d (.bool b), [some (.d (netD many as)), some (.d (netD many bs))]) ∧
    (b = true ↔ ∀ p, 0 ≤ p → p < many → ∀ t ∈ momL ((as ++ bs).map (·.s)), ∀ q, 0 ≤ q → q < many → Eqv as bs p t q) := by
  have hbg : ∀ b ∈ (as ++ bs).map (·.s), 0 ≤ b := fun b hb' => by
    obtain ⟨m, hm, rfl⟩ := List.mem_map.mp hb'
    rcases List.mem_append.mp hm with hm | hm
    · exact (NA.ok m hm).2.2.2.2.2.1
    · exact (NB.ok m hm).2.2.2.2.2.1
  have hbl : ((as ++ bs).map (·.s)).length ≤ 8 := by rw [List.length_map, List.length_append]; omega
  generalize hB : (as ++ bs).map (·.s) = bg at hbg hbl
  have c1 : C__law_same_answers_1 [some (.d (netD many as)), some (.d (netD many bs)), none, none, none, none, none, none, none, none, none, none, none] = some (intsM bg, [some (.d (netD many as)), some (.d (netD many bs)), none, none, none, none, none, none, none, none, none, none, none]) := by
    have e : (bg.map PyData.int).map M.d = (as ++ bs).map fun m => M.d (.int m.s) := by rw [← hB, List.map_map, List.map_map]; rfl
    unfold intsM
    rw [e]
    have i1 : ∀ (ρ : MS) (i : Nat) (ms : List Me), ρ[i]? = some (some (.d (netD many ms))) → fIx (fVar i) (fC (.int 1)) ρ = some (.d (.tuple (ms.map Me.data)), ρ) := fun ρ i ms h => by
      unfold fIx
      rw [fVar_ok h]
      simp only [Option.bind_some, fC, M.int, netD, ixd1]
    have g1 : gAdd (.d (.tuple (as.map Me.data))) (.d (.tuple (bs.map Me.data))) = some (.d (.tuple ((as ++ bs).map Me.data))) := by
      unfold gAdd
      simp only [List.length_map]
      rw [if_pos (by rw [szl]; omega), List.map_append]
    refine (lc_spec (enc := Me.data) (ys := as ++ bs) (ρ1 := [some (.d (netD many as)), some (.d (netD many bs)), none, none, none, none, none, none, none, none, none, none, none]) (fun _ => true) (fun m => .d (.int m.s)) (fIS_ok (fBin_ok (i1 _ 0 as rfl) (i1 _ 1 bs rfl) g1) rfl) (fun x _ => ⟨[some (.d (netD many as)), some (.d (netD many bs)), none, none, none, none, none, none, none, none, none, none, some (.d x.data)], [some (.d (netD many as)), some (.d (netD many bs)), none, none, none, none, none, none, none, none, none, none, some (.d x.data)], rfl, rfl, fun z => (by cases z), fun _ => ⟨[some (.d (netD many as)), some (.d (netD many bs)), none, none, none, none, none, none, none, none, none, none, some (.d x.data)], ?_, rfl⟩⟩) (by rw [szl, List.length_append]; omega) rfl).trans ?_
    · simp only [fCp, fIx, fVar, fC, sl, M.int, Me.data, ixd3, M.dat, Option.bind_some, List.getElem?_cons_zero, List.getElem?_cons_succ]
    · rw [filter_yes]
  have s1 : fSet 2 (C__law_same_answers_1) [some (.d (netD many as)), some (.d (netD many bs)), none, none, none, none, none, none, none, none, none, none, none] = some (.nx [some (.d (netD many as)), some (.d (netD many bs)), some (intsM bg), none, none, none, none, none, none, none, none, none, none]) := fSet_ok c1 rfl
  have src : fR1 (fIx (fVar 0) (fC (.int 0))) [some (.d (netD many as)), some (.d (netD many bs)), some (intsM bg), none, none, none, none, none, none, none, none, none, none] = some (rangeD 0 many.toNat, [some (.d (netD many as)), some (.d (netD many bs)), some (intsM bg), none, none, none, none, none, none, none, none, none, none]) := by
    refine fR1_ok ?_ (by have := NA.pos; omega) (by have := NA.few; omega)
    simp only [fIx, fVar, fC, sl, M.int, netD, ixd0, Option.bind_some, List.getElem?_cons_zero, List.getElem?_cons_succ]
  have := for_ret (enc := PyData.int) (g := fGN 3) (f := B__law_same_answers_3)
    (fun pre ρ => (∀ p ∈ pre, ∀ t ∈ momL bg, ∀ q, 0 ≤ q → q < many → Eqv as bs p t q) ∧ ∃ k3 k4 k5 k6 k7 k8, ρ = [some (.d (netD many as)), some (.d (netD many bs)), some (intsM bg), k3, k4, k5, k6, k7, k8, none, none, none, none])
    (fun m ρ => m = .d (.bool false) ∧ (∃ p, 0 ≤ p ∧ p < many ∧ ∃ t ∈ momL bg, ∃ q, 0 ≤ q ∧ q < many ∧ ¬ Eqv as bs p t q) ∧ ∃ r, ρ = some (.d (netD many as)) :: some (.d (netD many bs)) :: r)
    ((List.range many.toNat).map fun i : Nat => 0 + (i : Int)) [] ?_ _ ⟨by simp, none, none, none, none, none, none, rfl⟩
  · rcases this with ⟨ρ', e, h, k3, k4, k5, k6, k7, k8, rfl⟩ | ⟨m, ρ', e, rfl, ⟨p, p0, p1, t, ht, q, q0, q1, hn⟩, r, rfl⟩
    · refine ⟨true, fDef_rt (ρ := [some (.d (netD many as)), some (.d (netD many bs)), some (intsM bg), k3, k4, k5, k6, k7, k8, none, none, none, none]) rfl (fSeq_nx s1 (fSeq_nx (for_of src (by rw [rangeD_map]; exact e)) rfl)) rfl, ?_⟩
      exact ⟨fun _ p p0 p1 => h p (by simpa using (rng_mem (by have := NA.pos; omega)).mpr ⟨p0, p1⟩), fun _ => rfl⟩
    · refine ⟨false, fDef_rt (ρ := some (.d (netD many as)) :: some (.d (netD many bs)) :: r) rfl (fSeq_nx s1 (fSeq_rt (for_of src (by rw [rangeD_map]; exact e)))) rfl, ?_⟩
      exact ⟨fun z => (by cases z), fun z => absurd (z p p0 p1 t ht q q0 q1) hn⟩
  · rintro pre p suf e ρ ⟨h, k3, k4, k5, k6, k7, k8, rfl⟩
    have hp : 0 ≤ p ∧ p < many := (rng_mem (by have := NA.pos; omega)).mp (by rw [show (List.range many.toNat).map (fun i : Nat => 0 + (i : Int)) = pre ++ p :: suf from e]; simp)
    refine ⟨_, rfl, ?_⟩
    rcases L_sa2 NA NB ha hb p hbg hbl k4 k5 k6 k7 k8 with ⟨hE, q4, q5, q6, q7, q8, eL⟩ | ⟨hE, r, eL⟩
    · refine .inl ⟨_, .inl eL, fun p' hp' => ?_, _, _, _, _, _, _, rfl⟩
      rcases List.mem_append.mp hp' with hp' | hp'
      · exact h p' hp'
      · rw [List.mem_singleton.mp hp']
        exact hE
    · exact .inr ⟨_, _, eL, rfl, ⟨p, hp.1, hp.2, hE⟩, r, rfl⟩
/-- all asks are answered alike just where either net does the other's steps -/
theorem same_iff (NA : okN many as) (NB : okN many bs) : (∀ p, 0 ≤ p → p < many → ∀ t ∈ momL ((as ++ bs).map (·.s)), ∀ q, 0 ≤ q → q < many → Eqv as bs p t q) ↔ AllDn as bs ∧ AllDn bs as := by
  constructor
  · intro h
    have sm : ∀ ms : List Me, (∀ m ∈ ms, m ∈ as ++ bs) → ∀ u ∈ stepsL ms, u.s ∈ momL ((as ++ bs).map (·.s)) := fun ms hms u hu => by
      obtain ⟨i, m, em, hm⟩ := mem_steps.mp hu
      have : u.s = m.s := by rcases hm with rfl | ⟨_, rfl⟩ <;> rfl
      refine mem_sortU.mpr ?_
      rw [this]
      simp only [List.mem_append, List.mem_map]
      exact .inl (.inr ⟨m, by simpa using hms m (List.mem_of_getElem? em), rfl⟩)
    constructor
    · intro u hu
      have ok := (NA.okS u hu).1
      have := (h u.p ok.1 ok.2.1 u.s (sm as (fun m hm => by simp [hm]) u hu) u.q ok.2.2.1 ok.2.2.2 u.e).mp ⟨u.e, Int.le_refl _, .snoc (.nil _ _) hu rfl (Int.le_refl _)⟩
      obtain ⟨z, hz, w⟩ := this
      exact ⟨z, hz, w⟩
    · intro u hu
      have ok := (NB.okS u hu).1
      have := (h u.p ok.1 ok.2.1 u.s (sm bs (fun m hm => by simp [hm]) u hu) u.q ok.2.2.1 ok.2.2.2 u.e).mpr ⟨u.e, Int.le_refl _, .snoc (.nil _ _) hu rfl (Int.le_refl _)⟩
      obtain ⟨z, hz, w⟩ := this
      exact ⟨z, hz, w⟩
  · rintro ⟨h1, h2⟩ p _ _ t _ q _ _ y
    constructor
    · rintro ⟨z, hz, w⟩
      obtain ⟨z', hz', w'⟩ := way_sub (T := (· ∈ stepsL bs)) h1 w
      exact ⟨z', by omega, w'⟩
    · rintro ⟨z, hz, w⟩
      obtain ⟨z', hz', w'⟩ := way_sub (T := (· ∈ stepsL as)) h2 w
      exact ⟨z', by omega, w'⟩
end
end DL
namespace DL
open L2 PySem.Spec PySem PyProof.Rows

theorem fRVal_ok {f : FE} {g : FR} {ρ ρ1 ρ2 : MS} {m : M} {ms : List (Option M)} (h : f ρ = some (m, ρ1)) (h2 : g ρ1 = some (ms, ρ2)) : fRVal f g ρ = some (some m :: ms, ρ2) := by
  unfold fRVal
  rw [h]
  simp only [Option.bind_some]
  rw [h2]
  rfl
theorem gNe_bb (a b : Bool) : gNe (.d (.bool a)) (.d (.bool b)) = some (.d (.bool (a != b))) := by cases a <;> cases b <;> rfl
theorem isa_bool (b : Bool) : gIsA "bool" (.d (.bool b)) = some (.d (.bool true)) := by
  have : kitB "bool" "bool" = some true := by decide +kernel
  unfold gIsA M.ty
  simp only [Option.bind_some, this]
theorem sp_deck (ns : List Int) {K : Int} (h0 : 0 ≤ K) : ∃ m, Deck m ∧ d__law_deck [some (.d (.list (ns.map .int))), some (dI K)] = some (m, [some (.d (.list (ns.map .int))), some (dI K)]) := by
  have cell : ∃ c : Int, 0 ≤ c ∧ fIfS (fTst (fBin gLt (fVar 1) (fUn gLen (fVar 0)))) (fSet 2 (fBin gMax2 (fC (.int 0)) (fIx (fVar 0) (fVar 1)))) (fNx) [some (.d (.list (ns.map .int))), some (dI K), some (dI 0)] = some (.nx [some (.d (.list (ns.map .int))), some (dI K), some (dI c)]) := by
    have tst : fTst (fBin gLt (fVar 1) (fUn gLen (fVar 0))) [some (.d (.list (ns.map .int))), some (dI K), some (dI 0)] = some (decide (K < (ns.length : Int)), [some (.d (.list (ns.map .int))), some (dI K), some (dI 0)]) := by
      unfold fTst
      rw [fBin_ok (z := .d (.bool (decide (K < (ns.length : Int))))) (fVar_ok rfl) (fUn_ok (z := dI (ns.length : Int)) (fVar_ok rfl) (by simp only [gLen, List.length_map])) rfl]
      rfl
    by_cases hlt : K < (ns.length : Int)
    · have hk : K.toNat < ns.length := by omega
      have ix : gIx (.d (.list (ns.map .int))) K = some (dI ns[K.toNat]) := by
        unfold gIx atI ixN
        simp only [List.length_map]
        rw [if_pos h0, if_pos hlt]
        simp only [Option.bind_some, List.getElem?_map, List.getElem?_eq_getElem hk, Option.map_some]
      refine ⟨if ns[K.toNat] > 0 then ns[K.toNat] else 0, by split <;> omega, ?_⟩
      rw [decide_eq_true hlt] at tst
      unfold fIfS
      rw [tst]
      have fi : fIx (fVar 0) (fVar 1) [some (.d (.list (ns.map .int))), some (dI K), some (dI 0)] = some (dI ns[K.toNat], [some (.d (.list (ns.map .int))), some (dI K), some (dI 0)]) := by
        unfold fIx
        rw [fVar_ok rfl]
        simp only [Option.bind_some]
        rw [fVar_ok rfl]
        simp only [Option.bind_some, M.int]
        rw [ix]
        rfl
      exact fSet_ok (fBin_ok rfl fi rfl) rfl
    · refine ⟨0, Int.le_refl _, ?_⟩
      rw [decide_eq_false hlt] at tst
      unfold fIfS
      rw [tst]
      rfl
  obtain ⟨c, c0, ec⟩ := cell
  have e1 : fBin gMul (fVar 2) (fUn gInt (fBin gGe (fVar 2) (fBin gPow (fC (.int 10)) (fC (.int 18))))) [some (.d (.list (ns.map .int))), some (dI K), some (dI c)] = some (dI (c * if decide (1000000000000000000 ≤ c) = true then 1 else 0), [some (.d (.list (ns.map .int))), some (dI K), some (dI c)]) := by
    refine fBin_ok (fVar_ok rfl) (fUn_ok (fBin_ok (fVar_ok rfl) (fBin_ok rfl rfl gp18) rfl) rfl) (gMulR ?_ ?_) <;> split <;> omega
  refine ⟨deckM (c * if decide (1000000000000000000 ≤ c) = true then 1 else 0) (c % 2147483629 + 7919 * K) 0, ⟨_, _, _, rfl, ?_⟩, ?_⟩
  · split
    · omega
    · omega
  · have e2 : fBin gAdd (fBin gMod (fVar 2) (fC (.int 2147483629))) (fBin gMul (fC (.int 7919)) (fVar 1)) [some (.d (.list (ns.map .int))), some (dI K), some (dI c)] = some (dI (c % 2147483629 + 7919 * K), [some (.d (.list (ns.map .int))), some (dI K), some (dI c)]) :=
      fBin_ok (fBin_ok (fVar_ok rfl) rfl rfl) (fBin_ok rfl (fVar_ok rfl) (gMulL (by omega) (by omega))) rfl
    have er : fRet (fLst (fACons (fBin gMul (fVar 2) (fUn gInt (fBin gGe (fVar 2) (fBin gPow (fC (.int 10)) (fC (.int 18)))))) (fACons (fBin gAdd (fBin gMod (fVar 2) (fC (.int 2147483629))) (fBin gMul (fC (.int 7919)) (fVar 1))) (fACons (fC (.int 0)) (fANil))))) [some (.d (.list (ns.map .int))), some (dI K), some (dI c)] =
        some (.rt (deckM (c * if decide (1000000000000000000 ≤ c) = true then 1 else 0) (c % 2147483629 + 7919 * K) 0) [some (.d (.list (ns.map .int))), some (dI K), some (dI c)]) := by
      unfold fRet fLst fACons
      rw [e1]
      simp only [Option.bind_some]
      rw [e2]
      rfl
    exact fDef_rt rfl (fSeq_nx rfl (fSeq_nx ec er)) rfl
theorem net_okE (many : Int) (ms : List Me) : okE (netD many ms) := by
  have := mes_okE ms
  refine (okE_all (ds := [.int many, .tuple (ms.map Me.data)]) fun d hd => ?_).2
  simp only [List.mem_cons, List.not_mem_nil, or_false] at hd
  rcases hd with rfl | rfl
  · exact ⟨rfl, rfl, by simp [PyData.depth]⟩
  · refine ⟨this.2.1, SeqAt.canLay_of_shaped this.2.2, ?_⟩
    have h : ∀ ms : List Me, PyData.depthAll (ms.map Me.data) ≤ 1 := fun ms => by
      induction ms with
      | nil => simp [PyData.depthAll]
      | cons m ms ih =>
        simp only [List.map_cons, PyData.depthAll]
        have : m.data.depth = 1 := by simp [Me.data, PyData.depth, PyData.depthAll]
        omega
    have := h ms
    simp only [PyData.depth]
    omega
theorem net_inj {many : Int} {as bs : List Me} : netD many as = netD many bs ↔ as = bs := by
  unfold netD
  constructor
  · intro h
    simp only [PyData.tuple.injEq, List.cons.injEq, true_and, and_true] at h
    induction as generalizing bs with
    | nil => cases bs with
      | nil => rfl
      | cons b bs => simp at h
    | cons a as ih => cases bs with
      | nil => simp at h
      | cons b bs =>
        simp only [List.map_cons, List.cons.injEq] at h
        rw [me_inj h.1, ih h.2]
  · intro h
    rw [h]
theorem fTst_ok {f : FE} {ρ ρ1 : MS} {b : Bool} (h : f ρ = some (.d (.bool b), ρ1)) : fTst f ρ = some (b, ρ1) := by
  unfold fTst
  rw [h]
  rfl
theorem fTOr_no {f g : FT} {ρ ρ1 : MS} {r : Option (Bool × MS)} (h : f ρ = some (false, ρ1)) (h2 : g ρ1 = r) : fTOr f g ρ = r := by
  unfold fTOr
  rw [h]
  exact h2
theorem fTNot_ok {f : FT} {ρ ρ1 : MS} {b : Bool} (h : f ρ = some (b, ρ1)) : fTNot f ρ = some (!b, ρ1) := by
  unfold fTNot
  rw [h]
  rfl
theorem fIfS_no {t : FT} {f g : FS} {ρ ρ1 : MS} {o : Option O} (h : t ρ = some (false, ρ1)) (h2 : g ρ1 = o) : fIfS t f g ρ = o := by
  unfold fIfS
  rw [h]
  exact h2
theorem fIfS_yes {t : FT} {f g : FS} {ρ ρ1 : MS} {o : Option O} (h : t ρ = some (true, ρ1)) (h2 : f ρ1 = o) : fIfS t f g ρ = o := by
  unfold fIfS
  rw [h]
  exact h2
theorem fIx_ok {f h : FE} {ρ ρ1 ρ2 : MS} {a z : M} {i : Int} (h1 : f ρ = some (a, ρ1)) (h2 : h ρ1 = some (.d (.int i), ρ2)) (h3 : gIx a i = some z) : fIx f h ρ = some (z, ρ2) := by
  unfold fIx
  rw [h1]
  simp only [Option.bind_some]
  rw [h2]
  simp only [Option.bind_some, M.int]
  rw [h3]
  rfl
theorem fCp_ok {f : FE} {ρ ρ1 : MS} {x : PyData} (h : f ρ = some (.d x, ρ1)) : fCp f ρ = some (.d x, ρ1) := by
  unfold fCp
  rw [h]
  rfl
/-- one turn of the law -/
theorem B_law (ns : List Int) {K : Int} (h0 : 0 ≤ K) (j2 j3 j4 j5 j6 j7 j8 j9 : Option M) : ∃ k2 k3 k4 k5 k6 k7 k8 k9, B_law_1 [some (.d (.list (ns.map .int))), some (dI K), j2, j3, j4, j5, j6, j7, j8, j9] = some (.nx [some (.d (.list (ns.map .int))), some (dI K), k2, k3, k4, k5, k6, k7, k8, k9]) := by
  generalize hsc : PyData.list (ns.map .int) = sc
  obtain ⟨m1, d1, e1⟩ := sp_deck ns h0
  rw [hsc] at e1
  obtain ⟨r, m2, d2, r0, r1, e2⟩ := sp_draw d1 (k := 2) (by omega) (by omega)
  obtain ⟨m3, many0, ms0, d3, _, N0, _, e3⟩ := sp_net d2
  obtain ⟨as, NA, ha, e4⟩ := sp_small (many := 2 + r) N0 (by omega) (by omega)
  obtain ⟨m4, bs, d4, NB, hb, e5⟩ := sp_other d3 NA (by omega) ha
  obtain ⟨due, e6, i6⟩ := sp_same NA NB ha hb
  obtain ⟨found, e7, i7⟩ := sp_are NA NB
  have e8 := sp_plain NA
  have e9 := sp_plain NB
  obtain ⟨w, pr, e10, i10⟩ := sp_alike NA NB
  rw [same_iff NA NB] at i6
  obtain rfl : found = due := by
    rw [Bool.eq_iff_iff, i7, i6]
  generalize hmany : 2 + r = many at *
  have s1 : fSet 2 (fCall [none, none] d__law_deck (fRVal (fCp (fVar 0)) (fRVal (fCp (fVar 1)) (fRNil)))) [some (.d sc), some (dI K), j2, j3, j4, j5, j6, j7, j8, j9] = some (.nx [some (.d sc), some (dI K), some m1, j3, j4, j5, j6, j7, j8, j9]) := fSet_ok (fCall_ok rfl rfl e1 rfl) rfl
  have s2 : fSet 3 (fBin gAdd (fC (.int 2)) (fCall [some 2, none] d__law_draw (fRSlot 2 (fRVal (fC (.int 2)) (fRNil))))) [some (.d sc), some (dI K), some m1, j3, j4, j5, j6, j7, j8, j9] = some (.nx [some (.d sc), some (dI K), some m2, some (dI many), j4, j5, j6, j7, j8, j9]) := by
    rw [← hmany]
    exact fSet_ok (fBin_ok rfl (fCall_ok rfl rfl e2 rfl) rfl) rfl
  have s3 : fSet 4 (fCall [none, none, none] d__law_small (fRVal (fCall [some 2, none] d__law_net (fRSlot 2 (fRVal (fC (.int 2)) (fRNil)))) (fRVal (fCp (fVar 3)) (fRVal (fC (.int 4)) (fRNil))))) [some (.d sc), some (dI K), some m2, some (dI many), j4, j5, j6, j7, j8, j9] = some (.nx [some (.d sc), some (dI K), some m3, some (dI many), some (.d (netD many as)), j5, j6, j7, j8, j9]) :=
    fSet_ok (fCall_ok (fRVal_ok (fCall_ok rfl rfl e3 rfl) rfl) rfl e4 rfl) rfl
  have s4 : fSet 5 (fCall [some 2, none] d__law_other (fRSlot 2 (fRVal (fCp (fVar 4)) (fRNil)))) [some (.d sc), some (dI K), some m3, some (dI many), some (.d (netD many as)), j5, j6, j7, j8, j9] = some (.nx [some (.d sc), some (dI K), some m4, some (dI many), some (.d (netD many as)), some (.d (netD many bs)), j6, j7, j8, j9]) :=
    fSet_ok (fCall_ok rfl rfl e5 rfl) rfl
  have s5 : fSet 6 (fCall [none, none] d__law_same_answers (fRVal (fCp (fVar 4)) (fRVal (fCp (fVar 5)) (fRNil)))) [some (.d sc), some (dI K), some m4, some (dI many), some (.d (netD many as)), some (.d (netD many bs)), j6, j7, j8, j9] = some (.nx [some (.d sc), some (dI K), some m4, some (dI many), some (.d (netD many as)), some (.d (netD many bs)), some (.d (.bool found)), j7, j8, j9]) :=
    fSet_ok (fCall_ok rfl rfl e6 rfl) rfl
  have s6 : fSet 7 (fCall [none, none] d_are_alike (fRVal (fCp (fVar 4)) (fRVal (fCp (fVar 5)) (fRNil)))) [some (.d sc), some (dI K), some m4, some (dI many), some (.d (netD many as)), some (.d (netD many bs)), some (.d (.bool found)), j7, j8, j9] = some (.nx [some (.d sc), some (dI K), some m4, some (dI many), some (.d (netD many as)), some (.d (netD many bs)), some (.d (.bool found)), some (.d (.bool found)), j8, j9]) :=
    fSet_ok (fCall_ok rfl rfl e7 rfl) rfl
  have pl : gEq (.d (netD many (sortM (plAcc (stepsL as))))) (.d (netD many (sortM (plAcc (stepsL bs))))) = some (.d (.bool found)) := by
    letI : Decidable (netD many (sortM (plAcc (stepsL as))) = netD many (sortM (plAcc (stepsL bs)))) := Classical.propDecidable _
    rw [gEq_ok rfl rfl (net_okE _ _) (net_okE _ _)]
    have : decide (netD many (sortM (plAcc (stepsL as))) = netD many (sortM (plAcc (stepsL bs)))) = found := by
      rw [Bool.eq_iff_iff, decide_eq_true_iff, net_inj, plain_iff (fun u hu => (NA.okS u hu).2) (fun u hu => (NB.okS u hu).2), i7]
      exact Iff.rfl
    rw [this]
  have bne : ∀ b : Bool, (b != b) = false := fun b => by cases b <;> rfl
  have s7 : fIfS (fTOr (fTNot (fTst (fUn (gIsA "bool") (fVar 7)))) (fTOr (fTst (fBin gNe (fVar 7) (fVar 6))) (fTst (fBin gNe (fBin gEq (fCall [none] d_plain (fRVal (fCp (fVar 4)) (fRNil))) (fCall [none] d_plain (fRVal (fCp (fVar 5)) (fRNil)))) (fVar 6))))) (fRet (fC (.bool false))) (fNx)
      [some (.d sc), some (dI K), some m4, some (dI many), some (.d (netD many as)), some (.d (netD many bs)), some (.d (.bool found)), some (.d (.bool found)), j8, j9] = some (.nx [some (.d sc), some (dI K), some m4, some (dI many), some (.d (netD many as)), some (.d (netD many bs)), some (.d (.bool found)), some (.d (.bool found)), j8, j9]) := by
    refine fIfS_no (fTOr_no (fTNot_ok (b := true) (fTst_ok (fUn_ok (fVar_ok rfl) (isa_bool found)))) (fTOr_no (ρ1 := [some (.d sc), some (dI K), some m4, some (dI many), some (.d (netD many as)), some (.d (netD many bs)), some (.d (.bool found)), some (.d (.bool found)), j8, j9]) ?_ ?_)) rfl
    · exact fTst_ok (fBin_ok (fVar_ok rfl) (fVar_ok rfl) (by rw [gNe_bb, bne]))
    · exact fTst_ok (fBin_ok (fBin_ok (fCall_ok rfl rfl e8 rfl) (fCall_ok rfl rfl e9 rfl) pl) (fVar_ok rfl) (by rw [gNe_bb, bne]))
  have s8 : fSet 8 (fCall [none, none] d_alike_paper (fRVal (fCp (fVar 4)) (fRVal (fCp (fVar 5)) (fRNil)))) [some (.d sc), some (dI K), some m4, some (dI many), some (.d (netD many as)), some (.d (netD many bs)), some (.d (.bool found)), some (.d (.bool found)), j8, j9] = some (.nx [some (.d sc), some (dI K), some m4, some (dI many), some (.d (netD many as)), some (.d (netD many bs)), some (.d (.bool found)), some (.d (.bool found)), some (.d (.tuple (.str w :: pr))), j9]) :=
    fSet_ok (fCall_ok rfl rfl e10 rfl) rfl
  have hw : (found = true ∧ w = "alike") ∨ (found = false ∧ w = "parts" ∧ ∃ (k : Int) (t : Tp) (r' : List PyData), (k = 0 ∨ k = 1) ∧ pr = .int k :: .tuple [.int t.p, .int t.s, .int t.q, .int t.e] :: r' ∧
      ((k = 0 ∧ t ∈ stepsL as ∧ ¬ Dn (stepsL bs) t) ∨ (k = 1 ∧ t ∈ stepsL bs ∧ ¬ Dn (stepsL as) t))) := by
    rcases i10 with ⟨h1, h2, h3⟩ | ⟨h3, t, ht, hn, r', hr⟩ | ⟨h3, t, ht, hn, r', hr⟩
    · exact .inl ⟨i7.mpr ⟨h1, h2⟩, h3⟩
    · refine .inr ⟨?_, h3, 0, t, r', .inl rfl, hr, .inl ⟨rfl, ht, hn⟩⟩
      cases found with
      | false => rfl
      | true => exact absurd ((i7.mp rfl).1 t ht) hn
    · refine .inr ⟨?_, h3, 1, t, r', .inr rfl, hr, .inr ⟨rfl, ht, hn⟩⟩
      cases found with
      | false => rfl
      | true => exact absurd ((i7.mp rfl).2 t ht) hn
  have okw : ∀ w : Str, (w = "alike" ∨ w = "parts") → gNe (.d (.str w)) (.d (.str w)) = some (.d (.bool false)) := by
    intro w hw
    have ok : PyData.canLay0 (.str w) = true := by rcases hw with rfl | rfl <;> decide +kernel
    letI : Decidable (PyData.str w = .str w) := isTrue rfl
    rw [gNe_ok rfl rfl (okE_str ok) (okE_str ok)]
    simp
  rcases hw with ⟨rfl, rfl⟩ | ⟨rfl, rfl, k, t, r', hk, rfl, hc⟩
  · refine ⟨some m4, some (dI many), some (.d (netD many as)), some (.d (netD many bs)), some (.d (.bool true)), some (.d (.bool true)), some (.d (.tuple (.str "alike" :: pr))), j9, ?_⟩
    refine fSeq_nx s1 (fSeq_nx s2 (fSeq_nx s3 (fSeq_nx s4 (fSeq_nx s5 (fSeq_nx s6 (fSeq_nx s7 (fSeq_nx s8 (fSeq_nx (ρ' := [some (.d sc), some (dI K), some m4, some (dI many), some (.d (netD many as)), some (.d (netD many bs)), some (.d (.bool true)), some (.d (.bool true)), some (.d (.tuple (.str "alike" :: pr))), j9]) ?_ ?_))))))))
    · exact fIfS_no (fTst_ok (fBin_ok (fIx_ok (fVar_ok rfl) rfl ixd0) (fIx_ok rfl (fUn_ok (fVar_ok rfl) rfl) ixl1) (okw _ (.inl rfl)))) rfl
    · exact fIfS_no (fTNot_ok (b := true) (fTst_ok (fVar_ok rfl))) rfl
  · have ansT : ∀ {ms : List Me}, okN many ms → ms.length ≤ 4 → ∃ b : Bool, d__law_answers [some (.d (netD many ms)), some (.d (.tuple [.int t.p, .int t.s, .int t.q, .int t.e]))] = some (.d (.bool b), [some (.d (netD many ms)), some (.d (.tuple [.int t.p, .int t.s, .int t.q, .int t.e]))]) ∧ (b = true ↔ Dn (stepsL ms) t) := fun N hl => sp_answers N hl t.p t.s t.q t.e
    obtain ⟨ba, ea, ia⟩ := ansT NA ha
    obtain ⟨bb, eb, ib⟩ := ansT NB hb
    have self : ∀ {ms : List Me}, t ∈ stepsL ms → Dn (stepsL ms) t := fun h => ⟨t.e, Int.le_refl _, .snoc (.nil _ _) h rfl (Int.le_refl _)⟩
    refine ⟨some m4, some (dI many), some (.d (netD many as)), some (.d (netD many bs)), some (.d (.bool false)), some (.d (.bool false)), some (.d (.tuple (.str "parts" :: .int k :: .tuple [.int t.p, .int t.s, .int t.q, .int t.e] :: r'))), some (.lst [.d (netD many as), .d (netD many bs)]), ?_⟩
    refine fSeq_nx s1 (fSeq_nx s2 (fSeq_nx s3 (fSeq_nx s4 (fSeq_nx s5 (fSeq_nx s6 (fSeq_nx s7 (fSeq_nx s8 (fSeq_nx (ρ' := [some (.d sc), some (dI K), some m4, some (dI many), some (.d (netD many as)), some (.d (netD many bs)), some (.d (.bool false)), some (.d (.bool false)), some (.d (.tuple (.str "parts" :: .int k :: .tuple [.int t.p, .int t.s, .int t.q, .int t.e] :: r'))), j9]) ?_ ?_))))))))
    · exact fIfS_no (fTst_ok (fBin_ok (fIx_ok (fVar_ok rfl) rfl ixd0) (fIx_ok rfl (fUn_ok (fVar_ok rfl) rfl) ixl0) (okw _ (.inr rfl)))) rfl
    · refine fIfS_yes (fTNot_ok (b := false) (fTst_ok (fVar_ok rfl))) (fSeq_nx (ρ' := [some (.d sc), some (dI K), some m4, some (dI many), some (.d (netD many as)), some (.d (netD many bs)), some (.d (.bool false)), some (.d (.bool false)), some (.d (.tuple (.str "parts" :: .int k :: .tuple [.int t.p, .int t.s, .int t.q, .int t.e] :: r'))), some (.lst [.d (netD many as), .d (netD many bs)])]) ?_ ?_)
      · refine fSet_ok (ρ1 := [some (.d sc), some (dI K), some m4, some (dI many), some (.d (netD many as)), some (.d (netD many bs)), some (.d (.bool false)), some (.d (.bool false)), some (.d (.tuple (.str "parts" :: .int k :: .tuple [.int t.p, .int t.s, .int t.q, .int t.e] :: r'))), j9]) (m := .lst [.d (netD many as), .d (netD many bs)]) ?_ rfl
        simp only [fLst, fACons, fANil, fCp, fVar, sl, M.dat, Option.bind_some, List.getElem?_cons_zero, List.getElem?_cons_succ, List.length_cons, List.length_nil, szl, Nat.reduceAdd, Nat.reduceLeDiff, if_true]
      · rcases hc with ⟨rfl, ht, hn⟩ | ⟨rfl, ht, hn⟩
        · obtain rfl : ba = true := ia.mpr (self ht)
          obtain rfl : bb = false := by
            cases bb with
            | false => rfl
            | true => exact absurd (ib.mp rfl) hn
          refine fIfS_no (fTOr_no (fTNot_ok (b := true) (fTst_ok (fCall_ok (fRVal_ok (fCp_ok (fIx_ok (fVar_ok rfl) (fIx_ok (fVar_ok rfl) rfl ixd1) ixl0)) (fRVal_ok (fCp_ok (fIx_ok (fVar_ok rfl) rfl ixd2)) rfl)) rfl ea rfl))) ?_) rfl
          exact fTst_ok (fCall_ok (fRVal_ok (fCp_ok (fIx_ok (fVar_ok rfl) (fBin_ok rfl (fIx_ok (fVar_ok rfl) rfl ixd1) rfl) ixl1)) (fRVal_ok (fCp_ok (fIx_ok (fVar_ok rfl) rfl ixd2)) rfl)) rfl eb rfl)
        · obtain rfl : bb = true := ib.mpr (self ht)
          obtain rfl : ba = false := by
            cases ba with
            | false => rfl
            | true => exact absurd (ia.mp rfl) hn
          refine fIfS_no (fTOr_no (fTNot_ok (b := true) (fTst_ok (fCall_ok (fRVal_ok (fCp_ok (fIx_ok (fVar_ok rfl) (fIx_ok (fVar_ok rfl) rfl ixd1) ixl1)) (fRVal_ok (fCp_ok (fIx_ok (fVar_ok rfl) rfl ixd2)) rfl)) rfl eb rfl))) ?_) rfl
          exact fTst_ok (fCall_ok (fRVal_ok (fCp_ok (fIx_ok (fVar_ok rfl) (fBin_ok rfl (fIx_ok (fVar_ok rfl) rfl ixd1) rfl) ixl0)) (fRVal_ok (fCp_ok (fIx_ok (fVar_ok rfl) rfl ixd2)) rfl)) rfl ea rfl)
/-- the law -/
theorem sp_law (ns : List Int) (hl : ns.length ≤ 63) : ∃ outs, d_law [some (.d (.list (ns.map .int)))] = some (.d (.bool true), outs) := by
  obtain ⟨v, v0, v1, ev⟩ : ∃ v : Int, 0 ≤ v ∧ v ≤ 3 ∧ fBin gMax2 (fC (.int 2)) (fBin gMin2 (fUn gLen (fVar 0)) (fC (.int 3))) [some (.d (.list (ns.map .int))), none, none, none, none, none, none, none, none, none] = some (dI v, [some (.d (.list (ns.map .int))), none, none, none, none, none, none, none, none, none]) := by
    refine ⟨if (if (3 : Int) < (ns.length : Int) then 3 else (ns.length : Int)) > 2 then (if (3 : Int) < (ns.length : Int) then 3 else (ns.length : Int)) else 2, by split <;> split <;> omega, by split <;> split <;> omega, ?_⟩
    exact fBin_ok rfl (fBin_ok (fUn_ok (z := dI (ns.length : Int)) (fVar_ok rfl) (by simp only [gLen, List.length_map])) rfl rfl) rfl
  have := for_inv (enc := PyData.int) (g := fGN 1) (f := B_law_1)
    (fun _ ρ => ∃ j1 j2 j3 j4 j5 j6 j7 j8 j9, ρ = [some (.d (.list (ns.map .int))), j1, j2, j3, j4, j5, j6, j7, j8, j9]) ((List.range v.toNat).map fun i : Nat => 0 + (i : Int)) [] ?_ _ ⟨none, none, none, none, none, none, none, none, none, rfl⟩
  · obtain ⟨ρ', e, j1, j2, j3, j4, j5, j6, j7, j8, j9, rfl⟩ := this
    exact ⟨_, fDef_rt (ρ := [some (.d (.list (ns.map .int))), j1, j2, j3, j4, j5, j6, j7, j8, j9]) rfl (fSeq_nx (for_of (fR1_ok ev v0 (by omega)) (by rw [rangeD_map]; exact e)) rfl) rfl⟩
  · rintro pre K suf e ρ ⟨j1, j2, j3, j4, j5, j6, j7, j8, j9, rfl⟩
    have hK : 0 ≤ K := ((rng_mem v0).mp (by rw [show (List.range v.toNat).map (fun i : Nat => 0 + (i : Int)) = pre ++ K :: suf from e]; simp)).1
    obtain ⟨k2, k3, k4, k5, k6, k7, k8, k9, eB⟩ := B_law ns hK j2 j3 j4 j5 j6 j7 j8 j9
    exact ⟨_, _, rfl, .inl eB, _, _, _, _, _, _, _, _, _, rfl⟩
end DL
namespace DL
open L2 PySem.Spec PySem PyProof.Rows
def dd_steps_of : He.DefD := ⟨("steps_of", none), "steps_of", "steps_of", defArgs s_steps_of, defBody s_steps_of, defScope s_steps_of, [], []⟩
def dd_by_begins : He.DefD := ⟨("by_begins", none), "by_begins", "by_begins", defArgs s_by_begins, defBody s_by_begins, defScope s_by_begins, [], []⟩
def dd_comings : He.DefD := ⟨("comings", none), "comings", "comings", defArgs s_comings, defBody s_comings, defScope s_comings, [], []⟩
def dd_moment_of : He.DefD := ⟨("moment_of", none), "moment_of", "moment_of", defArgs s_moment_of, defBody s_moment_of, defScope s_moment_of, [], []⟩
def dd_earliest_by : He.DefD := ⟨("earliest_by", none), "earliest_by", "earliest_by", defArgs s_earliest_by, defBody s_earliest_by, defScope s_earliest_by, [], []⟩
def dd_earliest : He.DefD := ⟨("earliest", none), "earliest", "earliest", defArgs s_earliest, defBody s_earliest, defScope s_earliest, [], []⟩
def dd_early_way : He.DefD := ⟨("early_way", none), "early_way", "early_way", defArgs s_early_way, defBody s_early_way, defScope s_early_way, [], []⟩
def dd_comes_at : He.DefD := ⟨("comes_at", none), "comes_at", "comes_at", defArgs s_comes_at, defBody s_comes_at, defScope s_comes_at, [], []⟩
def dd_look_at_fit : He.DefD := ⟨("look_at_fit", none), "look_at_fit", "look_at_fit", defArgs s_look_at_fit, defBody s_look_at_fit, defScope s_look_at_fit, [], []⟩
def dd_way_for : He.DefD := ⟨("way_for", none), "way_for", "way_for", defArgs s_way_for, defBody s_way_for, defScope s_way_for, [], []⟩
def dd_ways_for : He.DefD := ⟨("ways_for", none), "ways_for", "ways_for", defArgs s_ways_for, defBody s_ways_for, defScope s_ways_for, [], []⟩
def dd_parting_paper : He.DefD := ⟨("parting_paper", none), "parting_paper", "parting_paper", defArgs s_parting_paper, defBody s_parting_paper, defScope s_parting_paper, [], []⟩
def dd_alike_paper : He.DefD := ⟨("alike_paper", none), "alike_paper", "alike_paper", defArgs s_alike_paper, defBody s_alike_paper, defScope s_alike_paper, [], []⟩
def dd_are_alike : He.DefD := ⟨("are_alike", none), "are_alike", "are_alike", defArgs s_are_alike, defBody s_are_alike, defScope s_are_alike, [], []⟩
def dd_is_made : He.DefD := ⟨("is_made", none), "is_made", "is_made", defArgs s_is_made, defBody s_is_made, defScope s_is_made, [], []⟩
def dd_plain : He.DefD := ⟨("plain", none), "plain", "plain", defArgs s_plain, defBody s_plain, defScope s_plain, [], []⟩
def dd__law_deck : He.DefD := ⟨("_law_deck", none), "_law_deck", "_law_deck", defArgs s__law_deck, defBody s__law_deck, defScope s__law_deck, [], []⟩
def dd__law_draw : He.DefD := ⟨("_law_draw", none), "_law_draw", "_law_draw", defArgs s__law_draw, defBody s__law_draw, defScope s__law_draw, [], []⟩
def dd__law_far : He.DefD := ⟨("_law_far", none), "_law_far", "_law_far", defArgs s__law_far, defBody s__law_far, defScope s__law_far, [], []⟩
def dd__law_begin : He.DefD := ⟨("_law_begin", none), "_law_begin", "_law_begin", defArgs s__law_begin, defBody s__law_begin, defScope s__law_begin, [], []⟩
def dd__law_meeting : He.DefD := ⟨("_law_meeting", none), "_law_meeting", "_law_meeting", defArgs s__law_meeting, defBody s__law_meeting, defScope s__law_meeting, [], []⟩
def dd__law_net : He.DefD := ⟨("_law_net", none), "_law_net", "_law_net", defArgs s__law_net, defBody s__law_net, defScope s__law_net, [], []⟩
def dd__law_moment : He.DefD := ⟨("_law_moment", none), "_law_moment", "_law_moment", defArgs s__law_moment, defBody s__law_moment, defScope s__law_moment, [], []⟩
def dd__law_step : He.DefD := ⟨("_law_step", none), "_law_step", "_law_step", defArgs s__law_step, defBody s__law_step, defScope s__law_step, [], []⟩
def dd__law_gone : He.DefD := ⟨("_law_gone", none), "_law_gone", "_law_gone", defArgs s__law_gone, defBody s__law_gone, defScope s__law_gone, [], []⟩
def dd__law_small : He.DefD := ⟨("_law_small", none), "_law_small", "_law_small", defArgs s__law_small, defBody s__law_small, defScope s__law_small, [], []⟩
def dd__law_other : He.DefD := ⟨("_law_other", none), "_law_other", "_law_other", defArgs s__law_other, defBody s__law_other, defScope s__law_other, [], []⟩
def dd__law_ways : He.DefD := ⟨("_law_ways", none), "_law_ways", "_law_ways", defArgs s__law_ways, defBody s__law_ways, defScope s__law_ways, [], []⟩
def dd__law_answers : He.DefD := ⟨("_law_answers", none), "_law_answers", "_law_answers", defArgs s__law_answers, defBody s__law_answers, defScope s__law_answers, [], []⟩
def dd__law_same_answers : He.DefD := ⟨("_law_same_answers", none), "_law_same_answers", "_law_same_answers", defArgs s__law_same_answers, defBody s__law_same_answers, defScope s__law_same_answers, [], []⟩
def dd_law : He.DefD := ⟨("law", none), "law", "law", defArgs s_law, defBody s_law, defScope s_law, [], []⟩
def fn : List He.DefD := [dd_steps_of, dd_by_begins, dd_comings, dd_moment_of, dd_earliest_by, dd_earliest, dd_early_way, dd_comes_at, dd_look_at_fit, dd_way_for, dd_ways_for, dd_parting_paper, dd_alike_paper, dd_are_alike, dd_is_made, dd_plain, dd__law_deck, dd__law_draw, dd__law_far, dd__law_begin, dd__law_meeting, dd__law_net, dd__law_moment, dd__law_step, dd__law_gone, dd__law_small, dd__law_other, dd__law_ways, dd__law_answers, dd__law_same_answers, dd_law]
def fa : List He.Fa := [.glo "steps_of", .glo "by_begins", .glo "comings", .glo "moment_of", .glo "earliest_by", .glo "earliest", .glo "early_way", .glo "comes_at", .glo "look_at_fit", .glo "way_for", .glo "ways_for", .glo "parting_paper", .glo "alike_paper", .glo "are_alike", .glo "is_made", .glo "plain", .glo "_law_deck", .glo "_law_draw", .glo "_law_far", .glo "_law_begin", .glo "_law_meeting", .glo "_law_net", .glo "_law_moment", .glo "_law_step", .glo "_law_gone", .glo "_law_small", .glo "_law_other", .glo "_law_ways", .glo "_law_answers", .glo "_law_same_answers", .glo "law", .free "bool", .free "enumerate", .free "int", .free "isinstance", .free "len", .free "list", .free "max", .free "min", .free "range", .free "set", .free "sorted", .free "tuple"]
def names : List PySem.Str := (["steps_of", "by_begins", "comings", "moment_of", "earliest_by", "earliest", "early_way", "MeetError", "NotFit", "comes_at", "look_at_fit", "way_for", "ways_for", "parting_paper", "alike_paper", "are_alike", "is_made", "plain", "_law_deck", "_law_draw", "_law_far", "_law_begin", "_law_meeting", "_law_net", "_law_moment", "_law_step", "_law_gone", "_law_small", "_law_other", "_law_ways"] : List PySem.Str) ++ (["_law_answers", "_law_same_answers"] : List PySem.Str)
abbrev R : PySem.W.OpenRow := PySem.W.OpenLaw.row PySem.Challenge.rw_meetways_k74_whole_all_small_asks
abbrev hk : PySem.W.Hook := He.hookD 4 fa fn
def ob (s : PySem.W.SharedT) : He.AlD := He.obsDG 4 fa fn (HandSHeadRun.getT s)
theorem ob_eq (s : PySem.W.SharedT) : ob s = hk.obs s.abs := He.obsDG_eq (HandSHeadRun.getT_eq s)
theorem run (w : World) : HandSHeadRun.RunEq R (PySem.W.view R.prog [39]) hk ob 2000 names w := by
  intro os
  kernel_rfl
theorem f_law {P : Program} {w : World} {K : PySem.W.Frag} {mg : Str → Option Value} {base : Heap} (B : Blt mg) (G__law_deck : FnD P w K mg base "_law_deck" 2 1 [] d__law_deck) (G__law_draw : FnD P w K mg base "_law_draw" 2 1 [0] d__law_draw) (G__law_small : FnD P w K mg base "_law_small" 3 1 [] d__law_small) (G__law_net : FnD P w K mg base "_law_net" 2 4 [0] d__law_net) (G__law_other : FnD P w K mg base "_law_other" 2 5 [0] d__law_other) (G__law_same_answers : FnD P w K mg base "_law_same_answers" 2 3 [] d__law_same_answers) (G_are_alike : FnD P w K mg base "are_alike" 2 7 [] d_are_alike) (G_plain : FnD P w K mg base "plain" 1 5 [] d_plain) (G_alike_paper : FnD P w K mg base "alike_paper" 2 6 [] d_alike_paper) (G__law_answers : FnD P w K mg base "_law_answers" 2 3 [] d__law_answers) {fa : Addr} {fd : FuncData} (F : FunD K "law" "law" (defArgs s_law) (defBody s_law) (defScope s_law) [] [] fa fd) :
    FnOk P w K mg base CX0 8 fa fd ["_law_script"] (spF K [] 1 d_law) := by
  have hN : N_law.Nodup := by decide +kernel
  refine fn_den (N := N_law) (as := [1, 2, 3, 4, 5, 6, 7, 8, 9]) (ws := [1, 2, 3, 4, 5, 6, 7, 8, 9]) F ⟨rfl, rfl, rfl, by decide +kernel, rfl, by decide +kernel, by decide +kernel⟩ (by decide) (by decide) (by decide) fun cdv A outer s H E R => ?_
  have hu := R.hu
  exact DB.weak (
    db_cons (ds_for PassesOwn.never rfl (di_range1 B.range (de_callB2 (cr_maxG rfl) B.max (de_int) (de_callB2 (cr_minG rfl) B.min (de_callB cr_lenG B.len (de_var 0)) (de_int)))) (dg_name hN) (db_cons (ds_set hN (de_call G__law_deck R (by decide) (dr_val (de_cp (de_var 0)) (dr_val (de_cp (de_var 1)) (dr_nil))))) <|
    db_cons (ds_set hN (de_op op_addG (de_int) (de_call G__law_draw R (by decide) (dr_slot 2 (dr_val (de_int) (dr_nil)))))) <|
    db_cons (ds_set hN (de_call G__law_small R (by decide) (dr_val (de_call G__law_net R (by decide) (dr_slot 2 (dr_val (de_int) (dr_nil)))) (dr_val (de_cp (de_var 3)) (dr_val (de_int) (dr_nil)))))) <|
    db_cons (ds_set hN (de_call G__law_other R (by decide) (dr_slot 2 (dr_val (de_cp (de_var 4)) (dr_nil))))) <|
    db_cons (ds_set hN (de_call G__law_same_answers R (by decide) (dr_val (de_cp (de_var 4)) (dr_val (de_cp (de_var 5)) (dr_nil))))) <|
    db_cons (ds_set hN (de_call G_are_alike R (by decide) (dr_val (de_cp (de_var 4)) (dr_val (de_cp (de_var 5)) (dr_nil))))) <|
    db_cons (ds_if (dw_dt (dw_or (dt_not (dt_val (de_isa "bool" B.isinstance B.bool (de_var 7)))) (dw_or (dt_cmp (op_neG hu) (de_var 7) (de_var 6)) (dw_or1 (dt_cmp (op_neG hu) (de_cmp (op_eqG hu) (de_call G_plain R (by decide) (dr_val (de_cp (de_var 4)) (dr_nil))) (de_call G_plain R (by decide) (dr_val (de_cp (de_var 5)) (dr_nil)))) (de_var 6)))))) (db_one (ds_ret (de_bl))) (db_nil)) <|
    db_cons (ds_set hN (de_call G_alike_paper R (by decide) (dr_val (de_cp (de_var 4)) (dr_val (de_cp (de_var 5)) (dr_nil))))) <|
    db_cons (ds_if (dt_cmp (op_neG hu) (de_ix (de_var 8) (de_int)) (de_ix (de_lst (da_cons (de_str) (da_cons (de_str) (da_nil)))) (de_callT cr_intG B.int (de_var 6)))) (db_one (ds_ret (de_bl))) (db_nil)) <|
    db_one (ds_if (dt_not (dt_val (de_var 6))) (db_cons (ds_set hN (de_lst (da_cons (de_cp (de_var 4)) (da_cons (de_cp (de_var 5)) (da_nil))))) <|
    db_one (ds_if (dw_dt (dw_or (dt_not (dt_val (de_call G__law_answers R (by decide) (dr_val (de_cp (de_ix (de_var 9) (de_ix (de_var 8) (de_int)))) (dr_val (de_cp (de_ix (de_var 8) (de_int))) (dr_nil)))))) (dw_or1 (dt_val (de_call G__law_answers R (by decide) (dr_val (de_cp (de_ix (de_var 9) (de_op op_subG (de_int) (de_ix (de_var 8) (de_int))))) (dr_val (de_cp (de_ix (de_var 8) (de_int))) (dr_nil)))))))) (db_one (ds_ret (de_bl))) (db_nil))) (db_nil)))) <|
    db_one (ds_ret (de_bl))) (by decide) (by decide)

theorem facts {P : Program} {w : World} {K : PySem.W.Frag} {h : Heap} {mg : Str → Option Value} {f : Addr} (X : K.In h) (G : h.Ns mainGlobals mg) (hfa : mg ("law" : Str) = some (.ref f)) (c : He.SaysD fa fn K) :
    ∃ fd : FuncData, (∀ (s : Shared) (v : Value), BindsTo s fd ⟨[v], []⟩ [("_law_script", v)]) ∧ ∀ base : Heap, K.In base → base.Ns mainGlobals mg → FnOk P w K mg base CX0 20 f fd ["_law_script"] (spLaw K) := by
  have B : Blt mg := ⟨He.free_ok X G (c.fact 31 (f := .free "bool") rfl), He.free_ok X G (c.fact 32 (f := .free "enumerate") rfl), He.free_ok X G (c.fact 33 (f := .free "int") rfl), He.free_ok X G (c.fact 34 (f := .free "isinstance") rfl), He.free_ok X G (c.fact 35 (f := .free "len") rfl), He.free_ok X G (c.fact 36 (f := .free "list") rfl), He.free_ok X G (c.fact 37 (f := .free "max") rfl), He.free_ok X G (c.fact 38 (f := .free "min") rfl), He.free_ok X G (c.fact 39 (f := .free "range") rfl), He.free_ok X G (c.fact 40 (f := .free "set") rfl), He.free_ok X G (c.fact 41 (f := .free "sorted") rfl), He.free_ok X G (c.fact 42 (f := .free "tuple") rfl)⟩
  obtain ⟨fd_steps_of, F_steps_of⟩ := c.def_ 0 (d := dd_steps_of) rfl
  have G_steps_of : ∀ base, FnD P w K mg base "steps_of" 1 1 [] d_steps_of := fun base => k_steps_of B F_steps_of (He.glo_ok X G (c.fact 0 (f := .glo "steps_of") rfl))
  obtain ⟨fd_by_begins, F_by_begins⟩ := c.def_ 1 (d := dd_by_begins) rfl
  have G_by_begins : ∀ base, FnD P w K mg base "by_begins" 1 1 [] d_by_begins := fun base => k_by_begins B F_by_begins (He.glo_ok X G (c.fact 1 (f := .glo "by_begins") rfl))
  obtain ⟨fd_comings, F_comings⟩ := c.def_ 2 (d := dd_comings) rfl
  have G_comings : ∀ base, FnD P w K mg base "comings" 4 2 [] d_comings := fun base => k_comings B (G_by_begins base) F_comings (He.glo_ok X G (c.fact 2 (f := .glo "comings") rfl))
  obtain ⟨fd_moment_of, F_moment_of⟩ := c.def_ 3 (d := dd_moment_of) rfl
  have G_moment_of : ∀ base, FnD P w K mg base "moment_of" 1 1 [] d_moment_of := fun base => k_moment_of B F_moment_of (He.glo_ok X G (c.fact 3 (f := .glo "moment_of") rfl))
  obtain ⟨fd_earliest_by, F_earliest_by⟩ := c.def_ 4 (d := dd_earliest_by) rfl
  have G_earliest_by : ∀ base, FnD P w K mg base "earliest_by" 4 3 [] d_earliest_by := fun base => k_earliest_by B (G_comings base) (G_moment_of base) F_earliest_by (He.glo_ok X G (c.fact 4 (f := .glo "earliest_by") rfl))
  obtain ⟨fd_earliest, F_earliest⟩ := c.def_ 5 (d := dd_earliest) rfl
  have G_earliest : ∀ base, FnD P w K mg base "earliest" 3 4 [] d_earliest := fun base => k_earliest B (G_earliest_by base) (G_steps_of base) F_earliest (He.glo_ok X G (c.fact 5 (f := .glo "earliest") rfl))
  obtain ⟨fd_early_way, F_early_way⟩ := c.def_ 6 (d := dd_early_way) rfl
  have G_early_way : ∀ base, FnD P w K mg base "early_way" 4 3 [] d_early_way := fun base => k_early_way B (G_comings base) (G_steps_of base) F_early_way (He.glo_ok X G (c.fact 6 (f := .glo "early_way") rfl))
  obtain ⟨fd_comes_at, F_comes_at⟩ := c.def_ 7 (d := dd_comes_at) rfl
  have G_comes_at : ∀ base, FnD P w K mg base "comes_at" 3 1 [] d_comes_at := fun base => k_comes_at B F_comes_at (He.glo_ok X G (c.fact 7 (f := .glo "comes_at") rfl))
  obtain ⟨fd_look_at_fit, F_look_at_fit⟩ := c.def_ 8 (d := dd_look_at_fit) rfl
  have G_look_at_fit : ∀ base, FnD P w K mg base "look_at_fit" 2 1 [] d_look_at_fit := fun base => k_look_at_fit B F_look_at_fit (He.glo_ok X G (c.fact 8 (f := .glo "look_at_fit") rfl))
  obtain ⟨fd_way_for, F_way_for⟩ := c.def_ 9 (d := dd_way_for) rfl
  have G_way_for : ∀ base, FnD P w K mg base "way_for" 2 4 [] d_way_for := fun base => k_way_for B (G_early_way base) (G_comes_at base) F_way_for (He.glo_ok X G (c.fact 9 (f := .glo "way_for") rfl))
  obtain ⟨fd_ways_for, F_ways_for⟩ := c.def_ 10 (d := dd_ways_for) rfl
  have G_ways_for : ∀ base, FnD P w K mg base "ways_for" 2 5 [] d_ways_for := fun base => k_ways_for B (G_way_for base) F_ways_for (He.glo_ok X G (c.fact 10 (f := .glo "ways_for") rfl))
  obtain ⟨fd_parting_paper, F_parting_paper⟩ := c.def_ 11 (d := dd_parting_paper) rfl
  have G_parting_paper : ∀ base, FnD P w K mg base "parting_paper" 4 5 [] d_parting_paper := fun base => k_parting_paper B (G_earliest base) F_parting_paper (He.glo_ok X G (c.fact 11 (f := .glo "parting_paper") rfl))
  obtain ⟨fd_alike_paper, F_alike_paper⟩ := c.def_ 12 (d := dd_alike_paper) rfl
  have G_alike_paper : ∀ base, FnD P w K mg base "alike_paper" 2 6 [] d_alike_paper := fun base => k_alike_paper B (G_look_at_fit base) (G_ways_for base) (G_steps_of base) (G_parting_paper base) F_alike_paper (He.glo_ok X G (c.fact 12 (f := .glo "alike_paper") rfl))
  obtain ⟨fd_are_alike, F_are_alike⟩ := c.def_ 13 (d := dd_are_alike) rfl
  have G_are_alike : ∀ base, FnD P w K mg base "are_alike" 2 7 [] d_are_alike := fun base => k_are_alike B (G_alike_paper base) F_are_alike (He.glo_ok X G (c.fact 13 (f := .glo "are_alike") rfl))
  obtain ⟨fd_is_made, F_is_made⟩ := c.def_ 14 (d := dd_is_made) rfl
  have G_is_made : ∀ base, FnD P w K mg base "is_made" 3 4 [] d_is_made := fun base => k_is_made B (G_earliest_by base) F_is_made (He.glo_ok X G (c.fact 14 (f := .glo "is_made") rfl))
  obtain ⟨fd_plain, F_plain⟩ := c.def_ 15 (d := dd_plain) rfl
  have G_plain : ∀ base, FnD P w K mg base "plain" 1 5 [] d_plain := fun base => k_plain B (G_steps_of base) (G_is_made base) F_plain (He.glo_ok X G (c.fact 15 (f := .glo "plain") rfl))
  obtain ⟨fd__law_deck, F__law_deck⟩ := c.def_ 16 (d := dd__law_deck) rfl
  have G__law_deck : ∀ base, FnD P w K mg base "_law_deck" 2 1 [] d__law_deck := fun base => k__law_deck B F__law_deck (He.glo_ok X G (c.fact 16 (f := .glo "_law_deck") rfl))
  obtain ⟨fd__law_draw, F__law_draw⟩ := c.def_ 17 (d := dd__law_draw) rfl
  have G__law_draw : ∀ base, FnD P w K mg base "_law_draw" 2 1 [0] d__law_draw := fun base => k__law_draw B F__law_draw (He.glo_ok X G (c.fact 17 (f := .glo "_law_draw") rfl))
  obtain ⟨fd__law_far, F__law_far⟩ := c.def_ 18 (d := dd__law_far) rfl
  have G__law_far : ∀ base, FnD P w K mg base "_law_far" 2 2 [0] d__law_far := fun base => k__law_far B (G__law_draw base) F__law_far (He.glo_ok X G (c.fact 18 (f := .glo "_law_far") rfl))
  obtain ⟨fd__law_begin, F__law_begin⟩ := c.def_ 19 (d := dd__law_begin) rfl
  have G__law_begin : ∀ base, FnD P w K mg base "_law_begin" 3 2 [0] d__law_begin := fun base => k__law_begin B (G__law_draw base) F__law_begin (He.glo_ok X G (c.fact 19 (f := .glo "_law_begin") rfl))
  obtain ⟨fd__law_meeting, F__law_meeting⟩ := c.def_ 20 (d := dd__law_meeting) rfl
  have G__law_meeting : ∀ base, FnD P w K mg base "_law_meeting" 4 3 [0] d__law_meeting := fun base => k__law_meeting B (G__law_draw base) (G__law_begin base) (G__law_far base) F__law_meeting (He.glo_ok X G (c.fact 20 (f := .glo "_law_meeting") rfl))
  obtain ⟨fd__law_net, F__law_net⟩ := c.def_ 21 (d := dd__law_net) rfl
  have G__law_net : ∀ base, FnD P w K mg base "_law_net" 2 4 [0] d__law_net := fun base => k__law_net B (G__law_draw base) (G__law_meeting base) F__law_net (He.glo_ok X G (c.fact 21 (f := .glo "_law_net") rfl))
  obtain ⟨fd__law_step, F__law_step⟩ := c.def_ 23 (d := dd__law_step) rfl
  have G__law_step : ∀ base, FnD P w K mg base "_law_step" 3 1 [] d__law_step := fun base => k__law_step B F__law_step (He.glo_ok X G (c.fact 23 (f := .glo "_law_step") rfl))
  obtain ⟨fd__law_small, F__law_small⟩ := c.def_ 25 (d := dd__law_small) rfl
  have G__law_small : ∀ base, FnD P w K mg base "_law_small" 3 1 [] d__law_small := fun base => k__law_small B F__law_small (He.glo_ok X G (c.fact 25 (f := .glo "_law_small") rfl))
  obtain ⟨fd__law_other, F__law_other⟩ := c.def_ 26 (d := dd__law_other) rfl
  have G__law_other : ∀ base, FnD P w K mg base "_law_other" 2 5 [0] d__law_other := fun base => k__law_other B (G__law_draw base) (G__law_small base) (G__law_net base) F__law_other (He.glo_ok X G (c.fact 26 (f := .glo "_law_other") rfl))
  obtain ⟨fd__law_ways, F__law_ways⟩ := c.def_ 27 (d := dd__law_ways) rfl
  have G__law_ways : ∀ base, FnD P w K mg base "_law_ways" 3 2 [] d__law_ways := fun base => k__law_ways B (G__law_step base) F__law_ways (He.glo_ok X G (c.fact 27 (f := .glo "_law_ways") rfl))
  obtain ⟨fd__law_answers, F__law_answers⟩ := c.def_ 28 (d := dd__law_answers) rfl
  have G__law_answers : ∀ base, FnD P w K mg base "_law_answers" 2 3 [] d__law_answers := fun base => k__law_answers B (G__law_ways base) F__law_answers (He.glo_ok X G (c.fact 28 (f := .glo "_law_answers") rfl))
  obtain ⟨fd__law_same_answers, F__law_same_answers⟩ := c.def_ 29 (d := dd__law_same_answers) rfl
  have G__law_same_answers : ∀ base, FnD P w K mg base "_law_same_answers" 2 3 [] d__law_same_answers := fun base => k__law_same_answers B (G__law_ways base) F__law_same_answers (He.glo_ok X G (c.fact 29 (f := .glo "_law_same_answers") rfl))
  obtain ⟨fd, F⟩ := c.def_ 30 (d := dd_law) rfl
  have e := hfa.symm.trans (He.glo_ok X G (c.fact 30 (f := .glo "law") rfl))
  cases e
  have b := FunD.bindsA (ps := ["_law_script"]) F fun _ _ _ _ _ _ us hl => match us, hl with | [_], _ => rfl
  exact ⟨fd, fun s v => b s [v] rfl, fun base _ _ => ((f_law B (G__law_deck base) (G__law_draw base) (G__law_small base) (G__law_net base) (G__law_other base) (G__law_same_answers base) (G_are_alike base) (G_plain base) (G_alike_paper base) (G__law_answers base) F).mono (by decide)).imp (law_end sp_law)⟩
end DL
open PySem PySem.W PySem.Calls PyProof.Rows
theorem PySem.Challenge.cw_meetways_k74_whole_all_small_asks_holds : PySem.Challenge.rw_meetways_k74_whole_all_small_asks.Holds := by
  w_on; o_law
  refine HandSHeadRun.head_any (r := OpenLaw.row PySem.Challenge.rw_meetways_k74_whole_all_small_asks) (q := view (OpenLaw.row PySem.Challenge.rw_meetways_k74_whole_all_small_asks).prog [39]) (H := DL.hk) (ob := DL.ob) (M := 2000) (loose := DL.names) (d := HandSHeadRun.topDef (OpenLaw.row PySem.Challenge.rw_meetways_k74_whole_all_small_asks).prog 39) (kwd := []) DL.ob_eq
    (by kernel_rfl) (fun s => by kernel_rfl) DL.run (by kernel_rfl) (by kernel_rfl) (by kernel_rfl) (by rfl) (by first | assumption | decide +kernel) (by decide +kernel) ⟨rfl, rfl, rfl, rfl, rfl, by decide +kernel⟩ ?hw ?hc
  case hw => w_witness2
  case hc =>
    refine L2.walk_ofE (l := PySem.Challenge.rw_meetways_k74_whole_all_small_asks) (n := 63) (k := 20) (x := "_law_script") (CX := L2.CX0) rfl (by decide) (by kernel_rfl) ⟨rfl, by decide, by decide⟩ ?F (fun _ _ _ _ z => z)
    intro w mg fa h Y G hmg0
    obtain ⟨K, KX, c⟩ := Y
    have hmg : mg ("law" : PySem.Str) = some (.ref fa) := by
      have e : (HandSHeadRun.topDef (OpenLaw.row PySem.Challenge.rw_meetways_k74_whole_all_small_asks).prog 39).name = ("law" : PySem.Str) := by kernel_rfl
      rw [← e]
      exact hmg0
    obtain ⟨fd, hb, hF⟩ := DL.facts (P := (PySem.Challenge.rw_meetways_k74_whole_all_small_asks).prog) (w := w) KX G hmg c
    exact ⟨K, fd, DL.spLaw K, KX, hb, fun H a ns hl hO hS => ⟨a, ns, rfl, DL.only_fz hO hS, hl, fun _ => rfl⟩, hF⟩
